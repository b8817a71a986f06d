import PyProof.Rows.All
import Wide.All
import OpenK.AllK
import Wide.FinOn
import HandS.ForMost
import HandS.Flow
import HandS.IsInst
import HandS.TupAny
import HandS.Zip
import HandS.Rev
import KE.GoesEnum
import HandS.NoneIn
import HandS.Defaults
import KE.KStateDown
import Lean
import HandS.Ends
import HandS.More
import HandS.Words
import HandS.WordsExc
import HandS.Head0
import HandS.Head1
import HandS.Head2
import HandS.HeadEnd
import HandS.HeadHook1
import HandS.HeadHook2
import HandS.HeadHook4
import PySem.Challenge.RW_longpound_k34_whole_band_or_squeeze
set_option linter.all false
/-! Mp0: a small language of values (no heap) for the defs of a program: data, expressions, statements, their evaluators. -/
namespace Mp
open PySem (Str)

/-- data: what a value is worth, lists and tuples by their items -/
inductive D where
  | non
  | bl (b : Bool)
  | int (i : Int)
  | str (s : Str)
  | lst (xs : List D)
  | tup (xs : List D)

instance : Inhabited D := ⟨.non⟩

/-- a run's result: no word of it; a value; an own exception (class, fields) -/
inductive R (α : Type) where
  | bad
  | ok (a : α)
  | exc (c : Nat) (fs : List D)

namespace R
@[simp] def bind {α β : Type} : R α → (α → R β) → R β
  | .bad, _ => .bad
  | .ok a, f => f a
  | .exc c fs, _ => .exc c fs
instance : Monad R where
  pure := .ok
  bind := bind
@[simp] theorem bind_ok {α β : Type} (a : α) (f : α → R β) : (R.ok a >>= f) = f a := rfl
@[simp] theorem bind_bad {α β : Type} (f : α → R β) : ((R.bad : R α) >>= f) = .bad := rfl
@[simp] theorem bind_exc {α β : Type} (c : Nat) (fs : List D) (f : α → R β) : ((R.exc c fs : R α) >>= f) = .exc c fs := rfl
@[simp] theorem pure_ok {α : Type} (a : α) : (pure a : R α) = .ok a := rfl
def chk {α : Type} (c : Prop) [Decidable c] (x : R α) : R α := if c then x else .bad
theorem chk_t {α : Type} {c : Prop} [Decidable c] (h : c) (x : R α) : chk c x = x := if_pos h
theorem of_bind {α β : Type} {m : R α} {f : α → R β} {b : β} (h : (m >>= f) = .ok b) : ∃ a, m = .ok a ∧ f a = .ok b := by
  cases m with
  | bad => cases h
  | ok a => exact ⟨a, rfl, h⟩
  | exc c fs => cases h
theorem of_chk {α : Type} {c : Prop} [Decidable c] {x : R α} {b : α} (h : chk c x = .ok b) : c ∧ x = .ok b := by
  unfold chk at h
  split at h
  · exact ⟨‹_›, h⟩
  · cases h
end R

/-! ### operations on data -/
abbrev szl : Nat := 16777216

def atomic : D → Bool
  | .lst _ => false
  | .tup _ => false
  | _ => true

def truth : D → R Bool
  | .non => .ok false
  | .bl b => .ok b
  | .int i => .ok (i != 0)
  | .str s => .chk (s.cps.size ≤ szl) (.ok (s.cps.size != 0))
  | .lst xs => .ok !xs.isEmpty
  | .tup xs => .ok !xs.isEmpty

mutual
/-- == -/
def eqD : D → D → Bool
  | .non, .non => true
  | .bl a, .bl b => a == b
  | .bl a, .int j => (if a then 1 else 0) == j
  | .int i, .bl b => i == (if b then 1 else 0)
  | .int i, .int j => i == j
  | .str a, .str b => a == b
  | .lst xs, .lst ys => eqDs xs ys
  | .tup xs, .tup ys => eqDs xs ys
  | _, _ => false
def eqDs : List D → List D → Bool
  | [], [] => true
  | x :: xs, y :: ys => eqD x y && eqDs xs ys
  | _, _ => false
end
mutual
def depth : D → Nat
  | .lst xs => depths xs + 1
  | .tup xs => depths xs + 1
  | _ => 0
def depths : List D → Nat
  | [] => 0
  | x :: xs => max (depth x) (depths xs)
end

mutual
/-- every text's codes are codes -/
def strsD : D → Bool
  | .str x => x.cps.all (· < 0x110000)
  | .lst xs => strsDs xs
  | .tup xs => strsDs xs
  | _ => true
def strsDs : List D → Bool
  | [] => true
  | x :: xs => strsD x && strsDs xs
end
def okD (d : D) : Bool := strsD d && decide (depth d ≤ 60)

/-- arithmetic -/
inductive BOp where
  | add | sub | mul | fdiv | mod | pow
  deriving DecidableEq
def cmulB (i j : Int) : Prop := i.natAbs < 18446744073709551616 ∨ j.natAbs < 18446744073709551616
theorem cmulB_ok {i j : Int} (h : cmulB i j) : (-(2 ^ 64) < i ∧ i < 2 ^ 64) ∨ (-(2 ^ 64) < j ∧ j < 2 ^ 64) := by
  have e : (2 : Int) ^ 64 = 18446744073709551616 := by decide
  rw [e]
  unfold cmulB at h
  omega
instance (i j : Int) : Decidable (cmulB i j) := by unfold cmulB; infer_instance
def cdivB (j : Int) : Prop := j ≠ 0 ∧ j.natAbs < 1073741824
instance (j : Int) : Decidable (cdivB j) := by unfold cdivB; infer_instance
def cpowB (i j : Int) : Prop := 0 ≤ j ∧ j ≤ 1000000 ∧ i.natAbs < 2 ^ 64
instance (i j : Int) : Decidable (cpowB i j) := by unfold cpowB; infer_instance
def bopI : BOp → Int → Int → R D
  | .add, i, j => .ok (.int (i + j))
  | .sub, i, j => .ok (.int (i - j))
  | .mul, i, j => .chk (cmulB i j) (.ok (.int (i * j)))
  | .fdiv, i, j => .chk (cdivB j) (.ok (.int (i.fdiv j)))
  | .mod, i, j => .chk (j ≠ 0) (.ok (.int (i.fmod j)))
  | .pow, i, j => .chk (cpowB i j) (.ok (.int (i ^ j.toNat)))
/-- the values of a op b; of lists, tuples: + alone -/
def bop (o : BOp) : D → D → R D
  | .int i, .int j => bopI o i j
  | .lst xs, .lst ys => if o = .add then .chk (xs.length + ys.length ≤ szl) (.ok (.lst (xs ++ ys))) else .bad
  | .tup xs, .tup ys => if o = .add then .chk (xs.length + ys.length ≤ szl) (.ok (.tup (xs ++ ys))) else .bad
  | _, _ => .bad

inductive COp where
  | eq | ne | lt | le | gt | ge | is | isn | in_ | nin
  deriving DecidableEq
def cop (o : COp) (a b : D) : R Bool :=
  match o with
  | .eq => .chk (okD a = true ∧ okD b = true) (.ok (eqD a b))
  | .ne => .chk (okD a = true ∧ okD b = true) (.ok !(eqD a b))
  | .lt => (match a, b with | .int i, .int j => .ok (decide (i < j)) | _, _ => .bad)
  | .le => (match a, b with | .int i, .int j => .ok (decide (i ≤ j)) | _, _ => .bad)
  | .gt => (match a, b with | .int i, .int j => .ok (decide (j < i)) | _, _ => .bad)
  | .ge => (match a, b with | .int i, .int j => .ok (decide (j ≤ i)) | _, _ => .bad)
  | .is => (match a, b with | .non, .non => .ok true | _, .non => .ok false | _, _ => .bad)
  | .isn => (match a, b with | .non, .non => .ok false | _, .non => .ok true | _, _ => .bad)
  | .in_ => (match b with
    | .lst ys => .chk (atomic a = true ∧ ys.all atomic = true) (.ok (ys.any fun y => eqD y a))
    | .tup ys => .chk (atomic a = true ∧ ys.all atomic = true) (.ok (ys.any fun y => eqD y a))
    | _ => .bad)
  | .nin => (match b with
    | .lst ys => .chk (atomic a = true ∧ ys.all atomic = true) (.ok !(ys.any fun y => eqD y a))
    | .tup ys => .chk (atomic a = true ∧ ys.all atomic = true) (.ok !(ys.any fun y => eqD y a))
    | _ => .bad)

/-- the place of an index of any sign -/
def ixN (n : Nat) (i : Int) : Option Nat := if 0 ≤ i then (if i < n then some i.toNat else none) else if -(n : Int) ≤ i then some (i + n).toNat else none
def atI {α : Type} (xs : List α) (i : Int) : Option α := (ixN xs.length i).bind fun j => xs[j]?
def orBad {α : Type} : Option α → R α
  | some a => .ok a
  | none => .bad
/-- the places of a slice's part -/
def sIx (n d : Nat) : Option Int → Nat
  | none => d
  | some v => if v < 0 then ((v + (n : Int)).toNat) else min v.toNat n
def cut {α : Type} (xs : List α) (lo hi : Option Int) : List α := (xs.drop (sIx xs.length 0 lo)).take (sIx xs.length xs.length hi - sIx xs.length 0 lo)
inductive Ty where
  | int | bool | str | list | tuple
  deriving DecidableEq
def isTy : D → Ty → Bool
  | .int _, .int => true
  | .bl _, .bool => true
  | .bl _, .int => true
  | .str _, .str => true
  | .lst _, .list => true
  | .tup _, .tuple => true
  | _, _ => false

/-- all ints -/
def asInts : List D → Option (List Int)
  | [] => some []
  | .int i :: r => (asInts r).map (i :: ·)
  | _ :: _ => none
def maxI : List Int → Option Int
  | [] => none
  | x :: r => some (r.foldl max x)
def minI : List Int → Option Int
  | [] => none
  | x :: r => some (r.foldl min x)

/-- built-in functions -/
inductive Bf where
  | len | int | sum | max | min | list | tuple | abs
  deriving DecidableEq
def items : D → R (List D)
  | .lst xs => .ok xs
  | .tup xs => .ok xs
  | _ => .bad
def bf : Bf → List D → R D
  | .len, [.lst xs] => .ok (.int xs.length)
  | .len, [.tup xs] => .ok (.int xs.length)
  | .int, [.int i] => .ok (.int i)
  | .int, [.bl b] => .ok (.int (if b then 1 else 0))
  | .abs, [.int i] => .ok (.int (if i < 0 then -i else i))
  | .sum, [.lst xs] => do .ok (.int (← orBad (asInts xs)).sum)
  | .sum, [.tup xs] => do .ok (.int (← orBad (asInts xs)).sum)
  | .max, [.int i, .int j] => .ok (.int (if j > i then j else i))
  | .min, [.int i, .int j] => .ok (.int (if j < i then j else i))
  | .max, [.lst xs] => do .ok (.int (← orBad (maxI (← orBad (asInts xs)))))
  | .min, [.lst xs] => do .ok (.int (← orBad (minI (← orBad (asInts xs)))))
  | .list, [.lst xs] => .ok (.lst xs)
  | .list, [.tup xs] => .ok (.lst xs)
  | .tuple, [.lst xs] => .ok (.tup xs)
  | .tuple, [.tup xs] => .ok (.tup xs)
  | _, _ => .bad

/-! ### the small language -/
/-- a target: a name; names -/
inductive Tg where
  | name (i : Nat)
  | names (is : List Nat)

inductive M where
  | var (i : Nat)
  | con (d : D)
  | bin (o : BOp) (a b : M)
  | neg (a : M)
  | not (a : M)
  | and (a b : M)
  | or (a b : M)
  | cmp (o : COp) (a b : M)
  | chain (o p : COp) (a b c : M)
  | ite (c a b : M)
  | nil
  | cons (a r : M)
  | lst (es : M)
  | tup (es : M)
  | ix (a b : M)
  | sl (a lo hi : M)
  | isi (a : M) (ts : List Ty)
  | isi1 (a : M) (t : Ty)
  | bf (f : Bf) (es : M)
  | call (f : Nat) (es : M)
  | rng1 (a : M)
  | rng2 (a b : M)
  | enum (a : M)
  | zip (a b : M)
  | rev (a : M)
  | lc (e : M) (t : Tg) (own : List Nat) (it : M)
  | lcIf (e : M) (t : Tg) (own : List Nat) (it c : M)
  | index (a b : M)

/-- a slice's part: none if it is left out -/
def part : M → D → R (Option Int)
  | .con .non, _ => .ok none
  | _, .int i => .ok (some i)
  | _, _ => .bad

/-- slots: a value with the depth to which it is its name's own -/
abbrev Env := List (Option (D × Nat))
/-- a def's meaning -/
abbrev Fn := List D → R (D × Nat)

def Env.val (ρ : Env) (i : Nat) : R D := match ρ[i]? with
  | some (some (d, _)) => .ok d
  | _ => .bad
/-- what a name hands on: itself, if it owns anything -/
def Env.dep (ρ : Env) (i : Nat) : List Nat := match ρ[i]? with
  | some (some (_, 0)) => []
  | some (some (_, _ + 1)) => [i]
  | _ => []
/-- .. and its items, of a name that owns its list -/
def Env.dep1 (ρ : Env) (i : Nat) : List Nat := match ρ[i]? with
  | some (some (_, k)) => if k ≤ 1 then [] else [i]
  | _ => []
def sv (d : D) : Option (D × Nat) := some (d, 0)
def Env.wipe (ρ : Env) : List Nat → Env
  | [] => ρ
  | v :: vs => (Env.wipe ρ vs).set v none
/-- these names no longer own what they hold -/
def frz1 : Option (D × Nat) → Option (D × Nat)
  | some (d, _) => some (d, 0)
  | none => none
def Env.frz (ρ : Env) : List Nat → Env
  | [] => ρ
  | i :: is => Env.frz (ρ.modify i frz1) is
def setAll : List Nat → List D → Env → Option Env
  | [], [], ρ => some ρ
  | i :: is, d :: ds, ρ => setAll is ds (ρ.set i (sv d))
  | _, _, _ => none
def Tg.set : Tg → D → Env → R Env
  | .name i, d, ρ => .ok (ρ.set i (sv d))
  | .names is, .tup ds, ρ => orBad (setAll is ds ρ)
  | .names is, .lst ds, ρ => orBad (setAll is ds ρ)
  | _, _, _ => .bad
/-- the slots on which a value hangs that is handed on as d -/
def dp (d : D) (s : List Nat) : List Nat := if atomic d then [] else s

def rngOk (i : Int) : Prop := i.natAbs < 4611686018427387904
theorem rngOk_ok {i : Int} (h : rngOk i) : -(2 ^ 62) ≤ i ∧ i < 2 ^ 62 := by
  have e : (2 : Int) ^ 62 = 4611686018427387904 := by decide
  rw [e]
  unfold rngOk at h
  omega
instance (i : Int) : Decidable (rngOk i) := by unfold rngOk; infer_instance
/-- the asInts from lo on -/
def upto (lo : Int) (n : Nat) : List D := (List.range n).map fun (i : Nat) => D.int (lo + (i : Int))

/-- a value, the slots on which it hangs when it is handed on itself, those on which its items hang -/
structure V3 where
  d : D
  s : List Nat
  t : List Nat
def V3.at (d : D) : V3 := ⟨d, [], []⟩
/-- a new value whose items hang on s -/
def V3.new (d : D) (s : List Nat) : V3 := ⟨d, dp d s, dp d s⟩

/-- the list that a comprehension makes: one item after another -/
def lcGo (f : D → R V3) : List D → R (List D × List Nat)
  | [] => .ok ([], [])
  | d :: r => do
    let v ← f d
    let w ← lcGo f r
    .ok (v.d :: w.1, v.s ++ w.2)
def lcGoIf (c : D → R Bool) (f : D → R V3) : List D → R (List D × List Nat)
  | [] => .ok ([], [])
  | d :: r => do
    let b ← c d
    if b then
      let v ← f d
      let w ← lcGoIf c f r
      .ok (v.d :: w.1, v.s ++ w.2)
    else lcGoIf c f r

def enumD (xs : List D) : List D := (List.range xs.length).zipWith (fun (i : Nat) x => D.tup [.int (i : Int), x]) xs
def zipD (xs ys : List D) : List D := List.zipWith (fun x y => D.tup [x, y]) xs ys
def lstOf : D → R (List D)
  | .lst xs => .ok xs
  | _ => .bad
def intOf : D → R Int
  | .int i => .ok i
  | _ => .bad

section
variable (Φ : Nat → Fn)
mutual
/-- an expression's value, and the slots on which it hangs -/
def ev : M → Env → R V3
  | .var i, ρ => do
    let d ← ρ.val i
    .ok ⟨d, dp d (ρ.dep i), dp d (ρ.dep1 i)⟩
  | .con d, _ => .ok (.at d)
  | .bin o a b, ρ => do
    let x ← ev a ρ
    let y ← ev b ρ
    let z ← bop o x.d y.d
    .ok (.new z (x.t ++ y.t))
  | .neg a, ρ => do
    let x ← ev a ρ
    let i ← intOf x.d
    .ok (.at (.int (-i)))
  | .not a, ρ => do
    let x ← ev a ρ
    let b ← truth x.d
    .ok (.at (.bl !b))
  | .and a b, ρ => do
    let x ← ev a ρ
    let c ← truth x.d
    if c then ev b ρ else .ok x
  | .or a b, ρ => do
    let x ← ev a ρ
    let c ← truth x.d
    if c then .ok x else ev b ρ
  | .cmp o a b, ρ => do
    let x ← ev a ρ
    let y ← ev b ρ
    let z ← cop o x.d y.d
    .ok (.at (.bl z))
  | .chain o p a b c, ρ => do
    let x ← ev a ρ
    let y ← ev b ρ
    let k ← cop o x.d y.d
    if k then
      let z ← ev c ρ
      let l ← cop p y.d z.d
      .ok (.at (.bl l))
    else .ok (.at (.bl false))
  | .ite c a b, ρ => do
    let x ← ev c ρ
    let k ← truth x.d
    if k then ev a ρ else ev b ρ
  | .lst es, ρ => do
    let xs ← evs es ρ
    .chk (xs.1.length ≤ szl) (.ok (.new (.lst xs.1) xs.2.1))
  | .tup es, ρ => do
    let xs ← evs es ρ
    .chk (xs.1.length ≤ szl) (.ok (.new (.tup xs.1) xs.2.1))
  | .ix a b, ρ => do
    let x ← ev a ρ
    let y ← ev b ρ
    let i ← intOf y.d
    let xs ← items x.d
    let z ← orBad (atI xs i)
    .ok (.new z x.t)
  | .sl a lo hi, ρ => do
    let x ← ev a ρ
    let l ← ev lo ρ
    let h ← ev hi ρ
    let l ← part lo l.d
    let h ← part hi h.d
    match x.d with
    | .lst xs => .ok (.new (.lst (cut xs l h)) x.t)
    | .tup xs => .ok (.new (.tup (cut xs l h)) x.t)
    | _ => .bad
  | .isi a ts, ρ => do
    let x ← ev a ρ
    .ok (.at (.bl (ts.any (isTy x.d))))
  | .isi1 a t, ρ => do
    let x ← ev a ρ
    .ok (.at (.bl (isTy x.d t)))
  | .bf f es, ρ => do
    let xs ← evs es ρ
    let z ← bf f xs.1
    .ok (.new z xs.2.2)
  | .call f es, ρ => do
    let xs ← evs es ρ
    let z ← Φ f xs.1
    .ok (.new z.1 xs.2.1)
  | .lc e t own it, ρ => do
    let v ← ev it ρ
    let ds ← items v.d
    let es ← lcGo (fun d => do
      let ρ1 ← t.set d ((ρ.frz v.t).wipe own)
      ev e ρ1) ds
    .chk (es.1.length ≤ szl) (.ok (.new (.lst es.1) (v.t ++ es.2)))
  | .lcIf e t own it c, ρ => do
    let v ← ev it ρ
    let ds ← items v.d
    let es ← lcGoIf (fun d => do
      let ρ1 ← t.set d ((ρ.frz v.t).wipe own)
      let x ← ev c ρ1
      truth x.d) (fun d => do
      let ρ1 ← t.set d ((ρ.frz v.t).wipe own)
      ev e ρ1) ds
    .chk (es.1.length ≤ szl) (.ok (.new (.lst es.1) (v.t ++ es.2)))
  | .index a b, ρ => do
    let x ← ev a ρ
    let y ← ev b ρ
    let i ← intOf y.d
    let xs ← lstOf x.d
    let ns ← orBad (asInts xs)
    let j ← orBad (ns.findIdx? (· == i))
    .ok (.at (.int ((j : Nat) : Int)))
  | .rng1 a, ρ => do
    let x ← ev a ρ
    let j ← intOf x.d
    .chk (rngOk j) (.ok (.at (.lst (upto 0 j.toNat))))
  | .rng2 a b, ρ => do
    let x ← ev a ρ
    let y ← ev b ρ
    let i ← intOf x.d
    let j ← intOf y.d
    .chk (rngOk i ∧ rngOk j) (.ok (.at (.lst (upto i (j - i).toNat))))
  | .enum a, ρ => do
    let x ← ev a ρ
    let xs ← items x.d
    .ok ⟨.lst (enumD xs), x.s, x.t⟩
  | .zip a b, ρ => do
    let x ← ev a ρ
    let y ← ev b ρ
    match x.d, y.d with
    | .lst xs, .lst ys => .ok ⟨.lst (zipD xs ys), x.s ++ y.s, x.t ++ y.t⟩
    | .tup xs, .tup ys => .ok ⟨.lst (zipD xs ys), x.s ++ y.s, x.t ++ y.t⟩
    | _, _ => .bad
  | .rev a, ρ => do
    let x ← ev a ρ
    let xs ← items x.d
    .ok ⟨.lst xs.reverse, x.s, x.t⟩
  | .nil, _ => .bad
  | .cons _ _, _ => .bad
/-- arguments: their values, on which slots they hang, on which their items -/
def evs : M → Env → R (List D × List Nat × List Nat)
  | .nil, _ => .ok ([], [], [])
  | .cons a r, ρ => do
    let x ← ev a ρ
    let xs ← evs r ρ
    .ok (x.d :: xs.1, x.s ++ xs.2.1, x.t ++ xs.2.2)
  | _, _ => .bad
end
end

/-! ### statements -/
inductive S where
  | skip
  | seq (a b : S)
  | asg (i : Nat) (e : M)
  | unp (is : List Nat) (e : M)
  | six (i : Nat) (a e : M)
  | app (i : Nat) (e : M)
  | exp (e : M)
  | ret (e : M)
  | retN
  | ite (c : M) (a b : S)
  | whl (c : M) (b : S)
  | for_ (t : Tg) (it : M) (b : S)
  | brk
  | cnt
  | rai (c : Nat) (es : M)

def isL : D → Nat
  | .lst _ => 1
  | _ => 0

inductive Out where
  | bad
  | nx (ρ : Env)
  | rt (d : D) (k : Nat)
  | bk (ρ : Env)
  | ct (ρ : Env)
  | ex (c : Nat) (fs : List D)

section
variable (Φ : Nat → Fn)
/-- a value that may be its receiver's own: new lists, what a def hands over -/
def evO : M → Env → R (V3 × Nat)
  | .call f es, ρ => do
    let xs ← evs Φ es ρ
    let z ← Φ f xs.1
    .ok (.new z.1 xs.2.1, z.2)
  | .bin o a b, ρ => do
    let x ← ev Φ (.bin o a b) ρ
    .ok (x, isL x.d)
  | .lst es, ρ => do
    let x ← ev Φ (.lst es) ρ
    .ok (x, 1)
  | .lc e t own it, ρ => do
    let x ← ev Φ (.lc e t own it) ρ
    .ok (x, 1)
  | .lcIf e t own it c, ρ => do
    let x ← ev Φ (.lcIf e t own it c) ρ
    .ok (x, 1)
  | e, ρ => do
    let x ← ev Φ e ρ
    .ok (x, 0)

def tst (e : M) (ρ : Env) : R Bool := do
  let x ← ev Φ e ρ
  truth x.d

def whlGo (c : Env → R Bool) (b : Env → Out) : Nat → Env → Out
  | 0, _ => .bad
  | n + 1, ρ => match c ρ with
    | .ok true => (match b ρ with
      | .nx ρ' => whlGo c b n ρ'
      | .ct ρ' => whlGo c b n ρ'
      | .bk ρ' => .nx ρ'
      | o => o)
    | .ok false => .nx ρ
    | .exc k fs => .ex k fs
    | .bad => .bad
def forGo (t : Tg) (b : Env → Out) : List D → Env → Out
  | [], ρ => .nx ρ
  | d :: ds, ρ => match t.set d ρ with
    | .ok ρ1 => (match b ρ1 with
      | .nx ρ' => forGo t b ds ρ'
      | .ct ρ' => forGo t b ds ρ'
      | .bk ρ' => .nx ρ'
      | o => o)
    | _ => .bad
def R.out {α : Type} (m : R α) (f : α → Out) : Out := match m with
  | .ok a => f a
  | .bad => .bad
  | .exc c fs => .ex c fs
def Out.then (o : Out) (f : Env → Out) : Out := match o with
  | .nx ρ => f ρ
  | o => o
/-- does name i stand in it? -/
def occM (i : Nat) : M → Bool
  | .var j => i == j
  | .con _ => false
  | .bin _ a b => occM i a || occM i b
  | .neg a => occM i a
  | .not a => occM i a
  | .and a b => occM i a || occM i b
  | .or a b => occM i a || occM i b
  | .cmp _ a b => occM i a || occM i b
  | .chain _ _ a b c => occM i a || occM i b || occM i c
  | .ite c a b => occM i c || occM i a || occM i b
  | .nil => false
  | .cons a r => occM i a || occM i r
  | .lst es => occM i es
  | .tup es => occM i es
  | .ix a b => occM i a || occM i b
  | .sl a lo hi => occM i a || occM i lo || occM i hi
  | .isi a _ => occM i a
  | .isi1 a _ => occM i a
  | .bf _ es => occM i es
  | .call _ es => occM i es
  | .rng1 a => occM i a
  | .rng2 a b => occM i a || occM i b
  | .enum a => occM i a
  | .zip a b => occM i a || occM i b
  | .rev a => occM i a
  | .lc e _ own it => occM i e || own.contains i || occM i it
  | .lcIf e _ own it c => occM i e || own.contains i || occM i it || occM i c
  | .index a b => occM i a || occM i b
def Tg.has (i : Nat) : Tg → Bool
  | .name j => i == j
  | .names js => js.contains i
def occS (i : Nat) : S → Bool
  | .skip => false
  | .seq a b => occS i a || occS i b
  | .asg j e => i == j || occM i e
  | .unp js e => js.contains i || occM i e
  | .six j a e => i == j || occM i a || occM i e
  | .app j e => i == j || occM i e
  | .exp e => occM i e
  | .ret e => occM i e
  | .retN => false
  | .ite c a b => occM i c || occS i a || occS i b
  | .whl c b => occM i c || occS i b
  | .for_ t it b => t.has i || occM i it || occS i b
  | .brk => false
  | .cnt => false
  | .rai _ es => occM i es
/-- the name whose items are gone through -/
def itVar : M → Option Nat
  | .var i => some i
  | .enum (.var i) => some i
  | .rev (.var i) => some i
  | _ => none
/-- a name that a for goes through and does not touch: it is laid aside, with what it holds -/
def lentI (t : Tg) (it : M) (b : S) (ρ : Env) : Option (Nat × Option (D × Nat)) := match itVar it with
  | some i => if occS i b || t.has i then none else (match ρ[i]? with
    | some (some (d, k)) => if k ≤ 1 then some (i, some (d, k)) else none
    | _ => none)
  | none => none
def Out.back (i : Nat) (y : Option (D × Nat)) : Out → Out
  | .nx ρ => (match ρ[i]? with
    | some none => .nx (ρ.set i y)
    | _ => .bad)
  | .bk _ => .bad
  | .ct _ => .bad
  | o => o
/-- the list that name i owns -/
def Env.own (ρ : Env) (i : Nat) : R (List D) := match ρ[i]? with
  | some (some (.lst xs, 1)) => .ok xs
  | _ => .bad

variable (fu : Nat)
def ex : S → Env → Out
  | .skip, ρ => .nx ρ
  | .seq a b, ρ => (ex a ρ).then (ex b)
  | .asg i e, ρ => (evO Φ e ρ).out fun x => .nx ((ρ.frz x.1.s).set i (some (x.1.d, x.2)))
  | .unp is e, ρ => (do let x ← ev Φ e ρ; let ds ← items x.d; orBad (setAll is ds (ρ.frz x.s))).out .nx
  | .six i a e, ρ => (do
      let x ← ev Φ e ρ
      let ρ1 := ρ.frz x.s
      let xs ← ρ1.own i
      let y ← ev Φ a ρ1
      let j ← intOf y.d
      let k ← orBad (ixN xs.length j)
      .ok (ρ1.set i (some (.lst (xs.set k x.d), 1)))).out .nx
  | .app i e, ρ => (do
      let x ← ev Φ e ρ
      let ρ1 := ρ.frz x.s
      let xs ← ρ1.own i
      .chk (xs.length < szl) (.ok (ρ1.set i (some (.lst (xs ++ [x.d]), 1))))).out .nx
  | .exp e, ρ => (ev Φ e ρ).out fun _ => .nx ρ
  | .ret e, ρ => (match e with
    | .var i => (match ρ[i]? with
      | some (some (d, k)) => .rt d k
      | _ => .bad)
    | _ => (evO Φ e ρ).out fun x => .rt x.1.d x.2)
  | .retN, _ => .rt .non 0
  | .ite c a b, ρ => (tst Φ c ρ).out fun k => if k then ex a ρ else ex b ρ
  | .whl c b, ρ => whlGo (tst Φ c) (ex b) fu ρ
  | .for_ t it b, ρ => (do let x ← ev Φ it ρ; let ds ← items x.d; .ok (ds, x.s ++ x.t)).out fun p => match lentI t it b ρ with
    | some (i, y) => (forGo t (ex b) p.1 (ρ.set i none)).back i y
    | none => forGo t (ex b) p.1 (ρ.frz p.2)
  | .brk, ρ => .bk ρ
  | .cnt, ρ => .ct ρ
  | .rai c es, ρ => (evs Φ es ρ).out fun xs => .ex c xs.1

/-- a def's run: np parameters, n slots, the parameters first -/
def run (np n : Nat) (b : S) : Fn := fun ds => if ds.length = np then (match ex Φ fu b (ds.map sv ++ List.replicate (n - ds.length) none) with
  | .rt d k => .ok (d, k)
  | .nx _ => .ok (.non, 0)
  | .ex c fs => .exc c fs
  | _ => .bad) else .bad
end
/-- the defs by their places: (parameters, slots, body); to depth k -/
def pphi (fu : Nat) (tab : List (Nat × Nat × S)) : Nat → Nat → Fn
  | 0, _, _ => .bad
  | k + 1, j, ds => match tab[j]? with
    | some d => run (pphi fu tab k) fu d.1 d.2.1 d.2.2 ds
    | none => .bad
end Mp

set_option Elab.async false
set_option linter.all false
set_option maxRecDepth 100000
set_option maxHeartbeats 4000000
/-! Mp1: data over the heap: what a value is worth, the state, its steps. -/
namespace Mp
open PySem PySem.Spec PyProof.Rows L2

/-! ### a value's worth -/
mutual
inductive Rep (K : PySem.W.Frag) (G : Hp) : V → D → Prop
  | non : Rep K G .non .non
  | bl (b : Bool) : Rep K G (.bl b) (.bl b)
  | int (i : Int) : Rep K G (.int i) (.int i)
  | str (x : Str) : Rep K G (.str x) (.str x)
  | lst {a : Addr} {xs : List V} {ds : List D} : SqL K G a xs → RepAll K G xs ds → Rep K G (.ref a) (.lst ds)
  | tup {a : Addr} {xs : List V} {ds : List D} : SqT K G a xs → RepAll K G xs ds → Rep K G (.ref a) (.tup ds)
inductive RepAll (K : PySem.W.Frag) (G : Hp) : List V → List D → Prop
  | nil : RepAll K G [] []
  | cons {v : V} {vs : List V} {d : D} {ds : List D} : Rep K G v d → RepAll K G vs ds → RepAll K G (v :: vs) (d :: ds)
end
theorem sqT_same {K : PySem.W.Frag} {H H' : Hp} {a : Addr} {xs : List V} (e : Same H H') (h : SqT K H a xs) : SqT K H' a xs := by
  rcases h with (h | ⟨o, h⟩) | h
  · exact .inl (.inl (e _ _ h))
  · exact .inl (.inr ⟨o, e _ _ h⟩)
  · exact .inr h
mutual
theorem Rep.mono {K : PySem.W.Frag} {G G' : Hp} (s : Same G G') : ∀ {v : V} {d : D}, Rep K G v d → Rep K G' v d
  | _, _, .non => .non
  | _, _, .bl b => .bl b
  | _, _, .int i => .int i
  | _, _, .str x => .str x
  | _, _, .lst h r => .lst (s.seq h) (RepAll.mono s r)
  | _, _, .tup h r => .tup (sqT_same s h) (RepAll.mono s r)
theorem RepAll.mono {K : PySem.W.Frag} {G G' : Hp} (s : Same G G') : ∀ {vs : List V} {ds : List D}, RepAll K G vs ds → RepAll K G' vs ds
  | _, _, .nil => .nil
  | _, _, .cons h r => .cons (Rep.mono s h) (RepAll.mono s r)
end
theorem Rep.flat {K : PySem.W.Frag} {G G' : Hp} {v : V} {d : D} (h : Rep K G v d) (a : atomic d = true) : Rep K G' v d := by
  cases h with
  | non => exact .non
  | bl b => exact .bl b
  | int i => exact .int i
  | str x => exact .str x
  | lst _ _ => cases a
  | tup _ _ => cases a
section
variable {K : PySem.W.Frag} {G : Hp}
theorem RepAll.length : ∀ {xs : List V} {ds : List D}, RepAll K G xs ds → xs.length = ds.length
  | _, _, .nil => rfl
  | _, _, .cons _ r => by rw [List.length_cons, List.length_cons, RepAll.length r]
theorem RepAll.get : ∀ {xs : List V} {ds : List D} {i : Nat} {d : D}, RepAll K G xs ds → ds[i]? = some d → ∃ x, xs[i]? = some x ∧ Rep K G x d
  | _, _, _, _, .nil, e => by simp at e
  | _, _, 0, _, .cons h r, e => by
    simp at e
    subst e
    exact ⟨_, rfl, h⟩
  | _, _, i + 1, d, .cons h r, e => by
    obtain ⟨x, e1, h1⟩ := RepAll.get (i := i) (d := d) r (by simpa using e)
    exact ⟨x, by simpa using e1, h1⟩
theorem RepAll.at : ∀ {xs : List V} {ds : List D} {i : Nat} {x : V}, RepAll K G xs ds → xs[i]? = some x → ∃ d, ds[i]? = some d ∧ Rep K G x d
  | _, _, _, _, .nil, e => by simp at e
  | _, _, 0, _, .cons h r, e => by
    simp at e
    subst e
    exact ⟨_, rfl, h⟩
  | _, _, i + 1, d, .cons h r, e => by
    obtain ⟨x, e1, h1⟩ := RepAll.at (i := i) (x := d) r (by simpa using e)
    exact ⟨x, by simpa using e1, h1⟩
theorem RepAll.append : ∀ {xs ys : List V} {ds es : List D}, RepAll K G xs ds → RepAll K G ys es → RepAll K G (xs ++ ys) (ds ++ es)
  | _, _, _, _, .nil, s => s
  | _, _, _, _, .cons h r, s => .cons h (RepAll.append r s)
theorem RepAll.take : ∀ {xs : List V} {ds : List D} (n : Nat), RepAll K G xs ds → RepAll K G (xs.take n) (ds.take n)
  | _, _, 0, _ => .nil
  | _, _, _ + 1, .nil => .nil
  | _, _, n + 1, .cons h r => .cons h (RepAll.take n r)
theorem RepAll.drop : ∀ {xs : List V} {ds : List D} (n : Nat), RepAll K G xs ds → RepAll K G (xs.drop n) (ds.drop n)
  | _, _, 0, r => r
  | _, _, _ + 1, .nil => .nil
  | _, _, n + 1, .cons h r => RepAll.drop n r
theorem RepAll.set {v : V} {d : D} (h : Rep K G v d) : ∀ {xs : List V} {ds : List D} (i : Nat), RepAll K G xs ds → RepAll K G (xs.set i v) (ds.set i d)
  | _, _, _, .nil => .nil
  | _, _, 0, .cons _ t => .cons h t
  | _, _, i + 1, .cons q t => .cons q (RepAll.set h i t)
theorem RepAll.reverse {xs : List V} {ds : List D} (h : RepAll K G xs ds) : RepAll K G xs.reverse ds.reverse := by
  induction xs generalizing ds with
  | nil =>
    cases h
    exact .nil
  | cons x r ih =>
    cases h with
    | cons h1 h2 =>
      rw [List.reverse_cons, List.reverse_cons]
      exact (ih h2).append (.cons h1 .nil)
theorem RepAll.asInts : ∀ {xs : List V} {ds : List D} {ns : List Int}, RepAll K G xs ds → asInts ds = some ns → xs = ns.map V.int
  | _, _, _, .nil, e => by
    cases e
    rfl
  | _, _, ns, .cons h r, e => by
    cases h with
    | int i =>
      unfold Mp.asInts at e
      cases q : Mp.asInts _ with
      | none => rw [q] at e; cases e
      | some ms =>
        rw [q] at e
        have e2 : i :: ms = ns := Option.some.inj e
        subst e2
        rw [RepAll.asInts r q]
        rfl
    | _ => cases e
theorem RepAll.isEmpty {xs : List V} {ds : List D} (h : RepAll K G xs ds) : xs.isEmpty = ds.isEmpty := by
  cases h <;> rfl
end

/-! ### labels, worlds, what is owned -/
abbrev Lb := Addr → Option (List Nat)
/-- the label's slot is one of S (a thing labelled [] belongs to none) -/
def inS (p S : List Nat) : Prop := ∃ i, p.head? = some i ∧ i ∈ S
open Classical in
/-- what stands still, with what the slots S own -/
noncomputable def wld (G H : Hp) (L : Lb) (S : List Nat) : Hp := fun a => match L a with
  | none => G a
  | some p => if inS p S then H a else none
def Own (K : PySem.W.Frag) (G H : Hp) (L : Lb) : Nat → List Nat → V → D → Prop
  | 0, _, v, d => Rep K G v d
  | k + 1, p, v, d => ∃ a xs ds, v = .ref a ∧ d = .lst ds ∧ H a = some (.lst xs) ∧ L a = some p ∧ xs.length = ds.length ∧
    ∀ (j : Nat) (x : V) (e : D), xs[j]? = some x → ds[j]? = some e → Own K G H L k (p ++ [j]) x e
/-- at the def's entry, or a loop's: the heap; what names without a slot's value hold -/
structure B0 where
  h : Hp
  z : Nat → Option (Option V)
instance : CoeFun B0 fun _ => Addr → Option HO := ⟨fun b => b.h⟩
instance : Coe B0 Hp := ⟨B0.h⟩
/-- the state: names' slots ρ over σ, G stands still, L labels what names own; G0, H0: at the def's entry -/
structure SR (K : PySem.W.Frag) (G0 : Hp) (H0 : B0) (ρ : Env) (σ : L2.St) (G H : Hp) (L : Lb) : Prop where
  gh : Same G H
  g0 : Same G0 G
  h0 : Same H0 H
  gnew : ∀ a o, G a = some o → G0 a = some o ∨ H0 a = none
  lab : ∀ a p, L a = some p → G a = none ∧ H0 a = none ∧ ∃ o, H a = some o
  len : σ.length = ρ.length
  slot : ∀ i d k, ρ[i]? = some (some (d, k)) → ∃ v, σ[i]? = some (some v) ∧ Own K G H L k [i] v d
  fx : ∀ i : Nat, ρ[i]? = some none → σ[i]? = H0.z i

section
variable {K : PySem.W.Frag} {G0 G G' H H' : Hp} {H0 : B0} {ρ : Env} {σ : L2.St} {L L' : Lb} {S T : List Nat}
theorem wld_none {a : Addr} (h : L a = none) : wld G H L S a = G a := by
  unfold wld
  rw [h]
theorem wld_in {a : Addr} {p : List Nat} (h : L a = some p) (hi : inS p S) : wld G H L S a = H a := by
  unfold wld
  rw [h]
  exact if_pos hi
theorem wld_out {a : Addr} {p : List Nat} (h : L a = some p) (hi : ¬ inS p S) : wld G H L S a = none := by
  unfold wld
  rw [h]
  exact if_neg hi
theorem inS_l {p : List Nat} (h : inS p S) : inS p (S ++ T) := let ⟨i, e, m⟩ := h; ⟨i, e, List.mem_append_left _ m⟩
theorem inS_r {p : List Nat} (h : inS p T) : inS p (S ++ T) := let ⟨i, e, m⟩ := h; ⟨i, e, List.mem_append_right _ m⟩
theorem inS_app {p : List Nat} (h : inS p (S ++ T)) : inS p S ∨ inS p T := by
  obtain ⟨i, e, m⟩ := h
  rcases List.mem_append.mp m with m | m
  · exact .inl ⟨i, e, m⟩
  · exact .inr ⟨i, e, m⟩
theorem inS_nil {p : List Nat} : ¬ inS p [] := fun ⟨_, _, m⟩ => by cases m
theorem inS_one {i : Nat} {t : List Nat} : inS (i :: t) [i] := ⟨i, rfl, List.mem_singleton.mpr rfl⟩
theorem labc (L : Lb) (a : Addr) : L a = none ∨ ∃ p, L a = some p := by
  cases q : L a with
  | none => exact .inl rfl
  | some p => exact .inr ⟨p, rfl⟩
theorem SR.wldH (s : SR K G0 H0 ρ σ G H L) : Same (wld G H L S) H := fun a o e => by
  rcases labc L a with h | ⟨p, h⟩
  · rw [wld_none h] at e
    exact s.gh _ _ e
  · by_cases hi : inS p S
    · rw [wld_in h hi] at e
      exact e
    · rw [wld_out h hi] at e
      cases e
theorem SR.gwld (s : SR K G0 H0 ρ σ G H L) : Same G (wld G H L S) := fun a o e => by
  rcases labc L a with h | ⟨p, h⟩
  · rw [wld_none h]
    exact e
  · rw [(s.lab a _ h).1] at e
    cases e
theorem SR.wldSub (s : SR K G0 H0 ρ σ G H L) (hs : ∀ i ∈ S, i ∈ T) : Same (wld G H L S) (wld G H L T) := fun a o e => by
  rcases labc L a with h | ⟨p, h⟩
  · rw [wld_none h] at e ⊢
    exact e
  · by_cases hi : inS p S
    · rw [wld_in h hi] at e
      rw [wld_in h (let ⟨i, e1, m⟩ := hi; ⟨i, e1, hs i m⟩)]
      exact e
    · rw [wld_out h hi] at e
      cases e
theorem SR.wldMono (s : SR K G0 H0 ρ σ G H L) (hG : Same G G') (hH : Same H H') : Same (wld G H L S) (wld G' H' L S) := fun a o e => by
  rcases labc L a with h | ⟨p, h⟩
  · rw [wld_none h] at e ⊢
    exact hG _ _ e
  · by_cases hi : inS p S
    · rw [wld_in h hi] at e ⊢
      exact hH _ _ e
    · rw [wld_out h hi] at e
      cases e
theorem SR.wld0 (s : SR K G0 H0 ρ σ G H L) : wld G H L [] = G := funext fun a => by
  rcases labc L a with h | ⟨p, h⟩
  · exact wld_none h
  · rw [wld_out h inS_nil, (s.lab a _ h).1]
theorem Own.mono (g : Same G G') (h : Same H H') (l : ∀ a p, L a = some p → L' a = some p) : ∀ {k : Nat} {p : List Nat} {v : V} {d : D}, Own K G H L k p v d → Own K G' H' L' k p v d := by
  intro k
  induction k with
  | zero => exact fun r => Rep.mono g r
  | succ k ih =>
    rintro p v d ⟨a, xs, ds, e1, e2, e3, e4, e5, e6⟩
    exact ⟨a, xs, ds, e1, e2, h _ _ e3, l _ _ e4, e5, fun j x e q1 q2 => ih (e6 j x e q1 q2)⟩
theorem repAll_of : ∀ {xs : List V} {ds : List D}, xs.length = ds.length → (∀ (j : Nat) (x : V) (e : D), xs[j]? = some x → ds[j]? = some e → Rep K G x e) → RepAll K G xs ds
  | [], [], _, _ => .nil
  | [], _ :: _, hl, _ => by simp at hl
  | _ :: _, [], hl, _ => by simp at hl
  | x :: xs, d :: ds, hl, h => .cons (h 0 x d rfl rfl) (repAll_of (by simpa using hl) fun j y e q1 q2 => h (j + 1) y e (by simpa using q1) (by simpa using q2))
/-- an owned value, read: all that its slot owns stands in W -/
theorem Own.rep {W : Hp} (g : Same G W) : ∀ (k : Nat) (p : List Nat) (v : V) (d : D), (∀ a p', L a = some p' → p'.head? = p.head? → p ≠ [] → ∀ o, H a = some o → W a = some o) → p ≠ [] → Own K G H L k p v d → Rep K W v d := by
  intro k
  induction k with
  | zero => exact fun p v d w hp r => Rep.mono g r
  | succ k ih =>
    rintro p v d w hp ⟨a, xs, ds, e1, e2, e3, e4, e5, e6⟩
    subst e1 e2
    refine .lst (SqL.of (w a p e4 rfl hp _ e3)) (repAll_of e5 fun j x e q1 q2 => ih (p ++ [j]) x e (fun b p' hb hh _ o ho => w b p' hb ?_ hp o ho) (by simp) (e6 j x e q1 q2))
    rw [hh]
    cases p with
    | nil => exact absurd rfl hp
    | cons i t => rfl
/-- .. its items -/
theorem Own.items {k : Nat} {p : List Nat} {v : V} {d : D} {W : Hp} (g : Same G W) (w : ∀ a p', L a = some p' → p'.head? = p.head? → p ≠ [] → ∀ o, H a = some o → W a = some o) (hp : p ≠ []) (h : Own K G H L (k + 1) p v d) :
    ∃ a xs ds, v = .ref a ∧ d = .lst ds ∧ H a = some (.lst xs) ∧ L a = some p ∧ RepAll K W xs ds := by
  obtain ⟨a, xs, ds, e1, e2, e3, e4, e5, e6⟩ := h
  refine ⟨a, xs, ds, e1, e2, e3, e4, repAll_of e5 fun j x e q1 q2 => Own.rep g k (p ++ [j]) x e (fun b p' hb hh _ o ho => w b p' hb ?_ hp o ho) (by simp) (e6 j x e q1 q2)⟩
  rw [hh]
  cases p with
  | nil => exact absurd rfl hp
  | cons i t => rfl
/-- only things new to the heap were laid: the state goes on -/
theorem SR.grow (s : SR K G0 H0 ρ σ G H L) (hG : Same G G') (hH : Same H H') (gh : Same G' H') (gn : ∀ a o, G' a = some o → G a = some o ∨ H a = none) : SR K G0 H0 ρ σ G' H' L where
  gh := gh
  g0 := s.g0.trans hG
  h0 := s.h0.trans hH
  gnew := fun a o e => by
    rcases gn a o e with h | h
    · exact s.gnew a o h
    · exact .inr (s.h0.free h)
  lab := fun a p e => by
    obtain ⟨h1, h2, ⟨o, h3⟩⟩ := s.lab a p e
    refine ⟨?_, h2, ⟨o, hH _ _ h3⟩⟩
    cases q : G' a with
    | none => rfl
    | some u =>
      rcases gn a u q with z | z
      · rw [h1] at z; cases z
      · rw [h3] at z; cases z
  len := s.len
  slot := fun i d k e => by
    obtain ⟨v, e1, r⟩ := s.slot i d k e
    exact ⟨v, e1, Own.mono hG hH (fun _ _ q => q) r⟩
  fx := s.fx
/-- a new thing that stands still -/
theorem SR.new (s : SR K G0 H0 ρ σ G H L) {p : Addr} {o : HO} (hp : H p = none) : SR K G0 H0 ρ σ (upd G p o) (upd H p o) L := by
  have hg : G p = none := s.gh.free hp
  have sH : Same H (upd H p o) := fun b x e => by
    rw [upd_ne (ne_of_none e hp)]
    exact e
  have sG : Same G (upd G p o) := fun b x e => by
    rw [upd_ne (ne_of_none e hg)]
    exact e
  refine s.grow sG sH (fun a x e => ?_) fun a x e => ?_
  · by_cases h : a = p
    · subst h
      rw [upd_same] at e ⊢
      exact e
    · rw [upd_ne h] at e ⊢
      exact s.gh _ _ e
  · by_cases h : a = p
    · subst h
      exact .inr hp
    · rw [upd_ne h] at e
      exact .inl e
theorem same_new {H : Hp} {p : Addr} {o : HO} (hp : H p = none) : Same H (upd H p o) := fun b x e => by
  rw [upd_ne (ne_of_none e hp)]
  exact e
open Classical in
/-- labels but those of the slots S -/
noncomputable def lbO (L : Lb) (S : List Nat) : Lb := fun a => match L a with
  | some p => if inS p S then none else some p
  | none => none
theorem lbO_none {a : Addr} (h : L a = none) : lbO L S a = none := by
  unfold lbO
  rw [h]
theorem lbO_in {a : Addr} {p : List Nat} (h : L a = some p) (hi : inS p S) : lbO L S a = none := by
  unfold lbO
  rw [h]
  exact if_pos hi
theorem lbO_out {a : Addr} {p : List Nat} (h : L a = some p) (hi : ¬ inS p S) : lbO L S a = some p := by
  unfold lbO
  rw [h]
  exact if_neg hi
theorem frz_len : ∀ (S : List Nat) (ρ : Env), (ρ.frz S).length = ρ.length
  | [], _ => rfl
  | i :: S, ρ => by
    unfold Env.frz
    rw [frz_len S]
    exact List.length_modify _ _ _
theorem frz_get : ∀ (S : List Nat) (ρ : Env) (i : Nat), (ρ.frz S)[i]? = if i ∈ S then (ρ[i]?).map frz1 else ρ[i]?
  | [], _, _ => by simp [Env.frz]
  | j :: S, ρ, i => by
    unfold Env.frz
    rw [frz_get S]
    have f2 : ∀ o : Option (D × Nat), frz1 (frz1 o) = frz1 o := fun o => by cases o <;> rfl
    by_cases h : j = i
    · subst h
      rw [List.getElem?_modify_eq]
      cases q : ρ[j]? with
      | none => simp
      | some o => simp [f2]
    · have hm : (ρ.modify j frz1)[i]? = ρ[i]? := by simp [List.getElem?_modify, h]
      rw [hm]
      by_cases h2 : i ∈ S
      · simp [h2]
      · have h3 : i ≠ j := fun z => h z.symm
        simp [h2, h3]
theorem Own.lent (s : SR K G0 H0 ρ σ G H L) : ∀ (k : Nat) (i : Nat) (p : List Nat) (v : V) (d : D), i ∉ S → Own K G H L k (i :: p) v d → Own K (wld G H L S) H (lbO L S) k (i :: p) v d := by
  intro k
  induction k with
  | zero => exact fun i p v d _ r => Rep.mono s.gwld r
  | succ k ih =>
    rintro i p v d hi ⟨a, xs, ds, e1, e2, e3, e4, e5, e6⟩
    exact ⟨a, xs, ds, e1, e2, e3, lbO_out e4 (fun ⟨j, ej, m⟩ => hi (by have ej : i = j := Option.some.inj ej; rw [ej]; exact m)), e5, fun j x e q1 q2 => ih i (p ++ [j]) x e hi (e6 j x e q1 q2)⟩
theorem SR.lend (s : SR K G0 H0 ρ σ G H L) (S : List Nat) : SR K G0 H0 (ρ.frz S) σ (wld G H L S) H (lbO L S) where
  gh := s.wldH
  g0 := s.g0.trans s.gwld
  h0 := s.h0
  gnew := fun a o e => by
    rcases labc L a with h | ⟨p', h⟩
    · rw [wld_none h] at e
      exact s.gnew a o e
    · exact .inr (s.lab a _ h).2.1
  lab := fun a p e => by
    rcases labc L a with h | ⟨p', h⟩
    · rw [lbO_none h] at e
      cases e
    · by_cases hi : inS p' S
      · rw [lbO_in h hi] at e
        cases e
      · rw [lbO_out h hi] at e
        cases e
        exact ⟨wld_out h hi, (s.lab a _ h).2⟩
  len := by rw [frz_len, s.len]
  slot := fun i d k e => by
    rw [frz_get] at e
    by_cases hi : i ∈ S
    · rw [if_pos hi] at e
      cases q : ρ[i]? with
      | none => rw [q] at e; cases e
      | some o =>
        rw [q] at e
        cases o with
        | none => cases e
        | some dk =>
          obtain ⟨d', k'⟩ := dk
          have e2 : d' = d ∧ 0 = k := by simpa [frz1] using e
          obtain ⟨e3, e4⟩ := e2
          subst e3 e4
          obtain ⟨v, e1, r⟩ := s.slot i d' k' q
          refine ⟨v, e1, ?_⟩
          show Rep K (wld G H L S) v d'
          refine Own.rep s.gwld k' [i] v d' (fun a p' hl hh _ o ho => ?_) (by simp) r
          cases p' with
          | nil => cases hh
          | cons j t =>
            have ej : j = i := Option.some.inj hh
            subst ej
            rw [wld_in hl ⟨j, rfl, hi⟩]
            exact ho
    · rw [if_neg hi] at e
      obtain ⟨v, e1, r⟩ := s.slot i d k e
      exact ⟨v, e1, Own.lent s k i [] v d hi r⟩
  fx := fun i e => by
    rw [frz_get] at e
    refine s.fx i ?_
    by_cases hi : i ∈ S
    · rw [if_pos hi] at e
      cases q : ρ[i]? with
      | none => rw [q] at e; cases e
      | some o =>
        rw [q] at e
        cases o with
        | none => rfl
        | some dk => simp [frz1] at e
    · rw [if_neg hi] at e
      exact e
/-- behind a run in the lent world -/
theorem SR.unlend (s : SR K G0 H0 ρ σ G H L) {Gb : Hp} (hH : Same H H') (hG : Same (wld G H L S) Gb) (gh : Same Gb H') (gn : ∀ a o, Gb a = some o → wld G H L S a = some o ∨ H0 a = none)
    (out : ∀ a p, L a = some p → ¬ inS p S → Gb a = none) :
    ∃ G', SR K G0 H0 ρ σ G' H' L ∧ Same G G' ∧ (∀ a, Gb a = none → G' a = none) ∧ ∀ T, Same (wld Gb H' (lbO L S) T) (wld G' H' L (S ++ T)) := by
  classical
  refine ⟨fun a => if L a = none then Gb a else none, ⟨fun a o e => ?_, fun a o e => ?_, s.h0.trans hH, fun a o e => ?_, fun a p e => ?_, s.len, fun i d k e => ?_, s.fx⟩, ?_, fun a e => ?_, fun T a o e => ?_⟩
  · split at e
    · exact gh _ _ e
    · cases e
  · have e1 := s.g0 _ _ e
    rcases labc L a with h | ⟨p', h⟩
    · show (if L a = none then Gb a else none) = some o
      rw [if_pos h]
      refine hG _ _ ?_
      rw [wld_none h]
      exact e1
    · rw [(s.lab a _ h).1] at e1
      cases e1
  · split at e
    · rename_i h
      rcases gn a o e with z | z
      · rw [wld_none h] at z
        exact s.gnew a o z
      · exact .inr z
    · cases e
  · obtain ⟨h1, h2, ⟨o, h3⟩⟩ := s.lab a p e
    refine ⟨?_, h2, ⟨o, hH _ _ h3⟩⟩
    show (if L a = none then Gb a else none) = none
    rw [if_neg (by rw [e]; exact fun z => nomatch z)]
  · obtain ⟨v, e1, r⟩ := s.slot i d k e
    refine ⟨v, e1, Own.mono (fun a o e => ?_) hH (fun _ _ q => q) r⟩
    rcases labc L a with h | ⟨p', h⟩
    · show (if L a = none then Gb a else none) = some o
      rw [if_pos h]
      refine hG _ _ ?_
      rw [wld_none h]
      exact e
    · rw [(s.lab a _ h).1] at e
      cases e
  · intro a o e
    rcases labc L a with h | ⟨p', h⟩
    · show (if L a = none then Gb a else none) = some o
      rw [if_pos h]
      refine hG _ _ ?_
      rw [wld_none h]
      exact e
    · rw [(s.lab a _ h).1] at e
      cases e
  · show (if L a = none then Gb a else none) = none
    rw [e]
    split <;> rfl
  · rcases labc L a with h | ⟨p', h⟩
    · rw [wld_none (lbO_none h)] at e
      rw [wld_none h]
      show (if L a = none then Gb a else none) = some o
      rw [if_pos h]
      exact e
    · by_cases hi : inS p' S
      · rw [wld_none (lbO_in h hi)] at e
        rw [wld_in h (inS_l hi)]
        exact gh _ _ e
      · by_cases ht : inS p' T
        · rw [wld_in (lbO_out h hi) ht] at e
          rw [wld_in h (inS_r ht)]
          exact e
        · rw [wld_out (lbO_out h hi) ht] at e
          cases e
end
end Mp

set_option Elab.async false
set_option linter.all false
set_option maxRecDepth 100000
set_option maxHeartbeats 4000000
/-! Mp2: rules of my own beside HandS: lists that stand anywhere, tuples summed and enumerated. -/
namespace PySem
open Sem (wp)
open AutoSeq1 (wpAny_loadPart')
set_option maxHeartbeats 1000000 in
theorem mp_meets_enumerateT (l : Addr) (items : Array Value) (n : Nat) (dct : Option Addr) (sl : Array (Option Value)) :
    Meets (Builtin.«enumerate.__new__» ⟨[.type "enumerate", .ref l], []⟩) (fun _ R s => s.heap.get? l = some { cls := .type "tuple", dict := dct, data := .seq items n, slots := sl } ∧
      R (.ok (.ret (.ref (s.heap.push { cls := .type "tuple_iterator", data := .fields #[.ref l, .int 0 0] }).objs.size)))
        { s with heap := (s.heap.push { cls := .type "tuple_iterator", data := .fields #[.ref l, .int 0 0] }).push { cls := .type "enumerate", data := .fields #[.none, .bool false, .ref s.heap.objs.size, rawInt 0, .none, .none] } }) :=
  .of_wp fun prog w A R s h => by
    obtain ⟨hp, g, d, tk, os⟩ := s; obtain ⟨hl, h⟩ := h
    have hsub := sub_enumerate
    have hL : Heap.IsTuple (Shared.heap ⟨hp, g, d, tk, os⟩) l items := ⟨_, hl, rfl, n, rfl⟩
    wp_walk using wpAny_loadPart' hl
    refine wpAny_stack_any fun st => wpAny_pure ?_
    split
    · rename_i c _ _ _ _ _
      cases (c == Value.type "enumerate")
      · wp_walk using wpAny_loadPart' hl, wpAny_pyIter_tuple hL
        exact ⟨_, rfl, h⟩
      · wp_walk using wpAny_loadPart' hl, wpAny_pyIter_tuple hL
        exact ⟨_, rfl, h⟩
    · wp_walk using wpAny_loadPart' hl, wpAny_pyIter_tuple hL
      exact ⟨_, rfl, h⟩
section
variable {prog : Program} {w : World} {A : Around} {E : Value → Shared → Prop} {s : Shared}
theorem mp_call_enumerate_tuple {l : Addr} {items : Array Value} {Q : Value → Shared → Prop} (hL : s.heap.IsTuple l items)
    (h : ∀ h', IsEnum h' (s.heap.objs.size + 1) s.heap.objs.size 0 .none → h'.IsTupleIter s.heap.objs.size l 0 → h'.objs.size = s.heap.objs.size + 2 →
      (∀ b o, s.heap.get? b = some o → h'.get? b = some o) → Q (.ref (s.heap.objs.size + 1)) { s with heap := h' }) :
    wpAny (model prog w) A (call (.type "enumerate") [.ref l]) Q E s := by
  obtain ⟨⟨c, dct, dt, sl⟩, hl, hc, n, hd⟩ := hL
  replace hc : c = .type "tuple" := hc
  replace hd : dt = .seq items n := hd
  subst hc hd
  refine callType_new F.called_enumerate (by decide) (F.typeCall_enumerate_1 _) (F.newCall_enumerate_1 _) (fun obj => F.args_object_init_2 obj _) F.entry_enumerate_new
    (mp_meets_enumerateT l items n dct sl) ⟨hl, ?_⟩
  have hz : (s.heap.push { cls := .type "tuple_iterator", data := .fields #[.ref l, .int 0 0] }).objs.size = s.heap.objs.size + 1 := Heap.size_push ..
  show _ ∧ _
  rw [hz]
  have he : IsEnum ((s.heap.push { cls := .type "tuple_iterator", data := .fields #[.ref l, .int 0 0] }).push
      { cls := .type "enumerate", data := .fields #[.none, .bool false, .ref s.heap.objs.size, rawInt 0, .none, .none] }) (s.heap.objs.size + 1) s.heap.objs.size 0 .none := by
    have := Heap.get?_push_size (s.heap.push { cls := .type "tuple_iterator", data := .fields #[.ref l, .int 0 0] })
      (o := { cls := .type "enumerate", data := .fields #[.none, .bool false, .ref s.heap.objs.size, rawInt 0, .none, .none] }) rfl
    rw [hz] at this; exact this
  refine ⟨⟨_, he, rfl⟩, h _ he ⟨_, Heap.get?_push_of_some _ (Heap.get?_push_size _ rfl), rfl, rfl⟩ (by rw [Heap.size_push, hz]) fun b o x => Heap.get?_push_of_some _ (Heap.get?_push_of_some _ x)⟩

theorem mp_sum_tuple {l : Addr} {its : List Value} {ns : List Int} {Q : Value → Shared → Prop} (hh : A.handled = none) (hl : s.heap.IsTuple l its.toArray) (hi : PyProof.Rows.IntsAre its ns)
    (h : ∀ h' tk t', (∀ b o, s.heap.get? b = some o → h'.get? b = some o) → Q (.int ns.sum t') { s with heap := h', toks := tk }) : wpAny (model prog w) A (call (.builtin "sum") [.ref l]) Q E s := by
  obtain ⟨xs, e⟩ := hi.allInts.items
  have hn : numsOf (intItems xs).toList = ns := by rw [← e]; exact hi.numsOf
  rw [nums_intItems] at hn
  rw [e] at hl
  have hlt : l < s.heap.objs.size := let ⟨_, q, _⟩ := hl; Heap.lt_size q
  have key : ∀ h' tk t', (∀ b o, s.heap.get? b = some o → h'.get? b = some o) → Q (.int (preSum (numAt xs) xs.size) t') { s with heap := h', toks := tk } := fun h' tk t' hk => by
    have := h h' tk t' hk
    rw [preSum_eq, List.take_of_length_le (by simp), hn]
    exact this
  refine call_sum_walkG (wpAny_pyIter_tuple hl ?_)
  refine ⟨s.heap.objs.size, _, _, _, _, _, numAt xs, rfl, Walks.tuple (A := A.in1) hh s.heap.objs.size l (Nat.ne_of_lt hlt) (intItems xs), ⟨⟨_, Heap.get?_push_size _ rfl, rfl, rfl⟩, (let ⟨o, ho, hc, n, hd⟩ := hl; ⟨o, Heap.get?_push_of_some _ ho, hc, n, hd⟩)⟩, ?_, (fun _ _ => intItems_at), fun h' tk t' hk => ?_⟩
  · intro b hb
    have e' : b = s.heap.objs.size ∨ b = l := by simpa using hb
    show b < (s.heap.push _).objs.size
    rw [Heap.size_push]
    rcases e' with z | z <;> rw [z]
    · exact Nat.lt_succ_self _
    · exact Nat.lt_succ_of_lt hlt
  · have := key h' tk t' fun b o e => hk b o (by
      have hb := Heap.lt_size e
      simp only [List.mem_singleton]
      exact Nat.ne_of_lt hb) (Heap.get?_push_of_some _ e)
    simpa [intItems] using this
theorem mp_enumT_end {e it t : Addr} {i : Nat} {items : Array Value} {old : Value} {Q : Option Value → Shared → Prop} (hh : A.handled = none) {k : Int}
    (he : IsEnum s.heap e it k old) (hit : s.heap.IsTupleIter it t i) (ht : s.heap.IsTuple t items) (hx : items[i]? = none)
    (hQ : ∀ h', Heap.ExtBut it s.heap h' → Q none { s with heap := h' }) : wpAny (model prog w) A (pyNext (.ref e)) Q E s := by
  have hT : s.TypeIs (.ref e) "enumerate" := ⟨_, he, rfl⟩
  unfold pyNext
  refine wpAny_bind (wpAny_attempt (wpAny_callSpecial?_slot (name := Str.ofString "__next__") hT F.slot_enumerate_next
    (wpAny_call_entry F.slot_enumerate_next hT F.entry_enumerate_next ?_ (F.args_enumerate_next_1 _))))
  show wpAny _ _ (field (.ref e) 2 >>= _) _ _ _
  refine wpAny_bind (wpAny_field he rfl (x := .ref it) rfl ?_)
  refine wpAny_bind (wpAny_nextOf_tuple_end (A := A.in1) hh hit ht hx fun h' x he' hx' => ?_)
  obtain ⟨o, ho, hc⟩ := hx'
  refine wpAny_bind (wpAny_isInstance (T := "StopIteration") (b := true) ⟨o, ho, hc⟩ isSubtype_stop ?_)
  exact wpAny_pure (hQ _ he')
end
end PySem

namespace L2
open PySem PySem.Spec PyProof.Rows
section
variable {X : Cx}
/-- lists joined, wherever they stand -/
def rCatL (K : PySem.W.Frag) : R2 := fun x y H Q => ∃ l b xs zs, x = .ref l ∧ y = .ref b ∧ SqL K H l xs ∧ SqL K H b zs ∧ xs.length + zs.length ≤ sizeLine ∧ ∀ p, H p = none → Q (.ref p) (upd H p (.lst (xs ++ zs)))
theorem op_catL : OpR X (binaryOp .Add) (rCatL X.K) := by
  intro pins s σ H x y v u Q I rx ry h
  obtain ⟨l, b, xs, zs, rfl, rfl, hH, hB, hz, q⟩ := h
  cases rx
  cases ry
  obtain ⟨its, r, p1, _⟩ := I.list hH
  obtain ⟨its2, r2, p2, _⟩ := I.list hB
  obtain ⟨⟨cls, dd, data, sl⟩, n, ho, hc, hdd, hd⟩ := p1
  obtain ⟨⟨cls2, dd2, data2, sl2⟩, n2, ho2, hc2, hdd2, hd2⟩ := p2
  simp only at hc hd hc2 hd2 hdd hdd2
  subst hc hd hc2 hd2 hdd hdd2
  have hl := r.length
  have hl2 := r2.length
  refine concat_meets ⟨_, ho, rfl⟩ ⟨_, ho2, rfl⟩ noFill_list_add seq_list_add PySem.F.slot_list_add PySem.F.entry_list_add (PySem.F.args_list_add_2 _ _) (list_addW l b its.toArray its2.toArray n n2 none none sl sl2 (by simp only [List.size_toArray]; omega)) ⟨ho, ho2, ?_⟩
  have ea : its.toArray ++ its2.toArray = (its ++ its2).toArray := by simp
  rw [ea]
  exact ⟨.ref _, _, I.lnew (t' := s.toks) (r.append r2) (by rw [List.length_append]; omega), rfl, q _ I.fresh⟩
/-- sum(x) of a list or tuple of ints -/
def rSumA (K : PySem.W.Frag) : List V → Hp → VK → Prop := fun vs H Q => ∃ (a : Addr) (ns : List Int), vs = [V.ref a] ∧ (SqL K H a (ns.map V.int) ∨ SqT K H a (ns.map V.int)) ∧ Q (.int ns.sum) H
theorem cr_sumA (hc : X.calm = true) : CallR X (.builtin "sum") (rSumA X.K) := by
  intro pins s σ H vs us Q I r h
  obtain ⟨a, ns, rfl, hs, q⟩ := h
  rcases hs with hs | hs
  · exact cr_sum hc pins s σ H _ us Q I r ⟨a, ns, rfl, hs, q⟩
  · obtain ⟨its, rv, hl, _⟩ := I.tuple hs
    rw [Vals.ref1 r]
    exact mp_sum_tuple (I.ok.hd hc) hl rv.ints fun h' tk t' hk => ⟨.int _, H, I.kept hk, ⟨_, rfl⟩, q⟩
end

/-! ### walks -/
section
variable {X : Cx} {tg : Expr}
/-- a list or a tuple -/
def iSeq (K : PySem.W.Frag) (tl : TE) : TI := fun σ H R => tl σ H fun x H1 => ∃ a, x = .ref a ∧ (((∃ xs, SqL K H1 a xs) ∧ R (Itl K a) H1) ∨ ((∃ xs, SqT K H1 a xs) ∧ R (Itt K a) H1))
theorem pi_seq {l : Expr} {tl : TE} (hl : PE X l tl) : PI X tg l (iSeq X.K tl) := by
  refine ⟨fun pins s σ H R I h => ?_⟩
  refine thn (hl.run pins s σ H _ I h) fun v s1 ⟨x, H1, I1, r1, q1⟩ => ?_
  obtain ⟨a, e, q⟩ := q1
  subst e
  cases r1
  rcases q with ⟨⟨xs, hq⟩, q⟩ | ⟨⟨xs, hq⟩, q⟩
  · obtain ⟨its, rv, p, hz⟩ := I1.list hq
    refine wpAny_pyIter_list p.isList ?_
    refine ⟨s1.heap.objs.size, [s1.heap.objs.size], _, _, H1, rfl, I1.kept (t' := s1.toks) fun b o e => Heap.get?_push_of_some _ e, turn_list a _, ⟨_, Heap.get?_push_size _ rfl, rfl, rfl⟩, fun b hb => ?_, q⟩
    have e : b = s1.heap.objs.size := by simpa using hb
    subst e
    exact I1.fpOk (Nat.le_refl _) (I1.hok.fresh (Nat.le_refl _))
  · obtain ⟨its, rv, p, hz⟩ := I1.tuple hq
    refine wpAny_pyIter_tuple p ?_
    refine ⟨s1.heap.objs.size, [s1.heap.objs.size], _, _, H1, rfl, I1.kept (t' := s1.toks) fun b o e => Heap.get?_push_of_some _ e, turn_tuple a _, ⟨_, Heap.get?_push_size _ rfl, rfl, rfl⟩, fun b hb => ?_, q⟩
    have e : b = s1.heap.objs.size := by simpa using hb
    subst e
    exact I1.fpOk (Nat.le_refl _) (I1.hok.fresh (Nat.le_refl _))
/-- the tuple at a, each item in a new pair -/
def IteT (K : PySem.W.Frag) (a : Addr) : It :=
  ⟨fun i H => ∃ (xs : List V) (x : V), SqT K H a xs ∧ xs[i]? = some x, fun i H v H' => ∃ T x, v = .ref T ∧ H T = none ∧ H' = upd H T (.tup [.int (i : Nat), x]) ∧ ∀ xs, SqT K H a xs → xs[i]? = some x, fun i H => ∃ xs : List V, SqT K H a xs ∧ xs.length ≤ i⟩
end
theorem turn_enumT {P : Program} {w : World} {K : PySem.W.Frag} {elts : List Expr} {kk : Nat} {tpos : Pos} (a e it : Addr) :
    Turn P w K (.Tuple elts kk tpos) (IteT K a) [e, it] e (fun i h => (∃ old, IsEnum h e it ((i : Nat) : Int) old) ∧ h.IsTupleIter it a i ∧ e ≠ it) where
  mem := by simp
  obj := fun i h st b hb => by
    obtain ⟨⟨old, he⟩, ⟨o, ho, hc, hd⟩, _⟩ := st
    have e' : b = e ∨ b = it := by simpa using hb
    rcases e' with z | z
    · rw [z]; exact ⟨_, he, fun v q => nomatch q⟩
    · rw [z]; exact ⟨o, ho, fun v q => by rw [hd] at q; cases q⟩
  keep := fun i h h' st k => let ⟨⟨old, he⟩, hi, hne⟩ := st; ⟨⟨old, k e (by simp) _ he⟩, hi.at fun o q => k it (by simp) o q, hne⟩
  item := by
    intro X hP hw hK hc i pins s σ H E I hf st hg
    subst hP hw hK
    obtain ⟨⟨old, he⟩, hit, hne⟩ := st
    obtain ⟨xs, x, hq, hx⟩ := hg
    obtain ⟨its, rv, p, hz⟩ := I.tuple hq
    obtain ⟨u, hu, ru⟩ := rv.get hx
    have hel : e < s.heap.objs.size := Heap.lt_size he
    have hil : it < s.heap.objs.size := by obtain ⟨_, q, _⟩ := hit; exact Heap.lt_size q
    have hai : a ≠ it := fun z => by
      obtain ⟨o, ho, hcl, n, hdd⟩ := p
      obtain ⟨o2, ho2, hc2, hd2⟩ := hit
      rw [z, ho2] at ho
      cases ho
      rw [hd2] at hdd
      cases hdd
    have hea : e ≠ a := fun z => by
      obtain ⟨o, ho, hcl, n, hdd⟩ := p
      have he2 : s.heap.get? a = some _ := z ▸ he
      rw [he2] at ho
      cases ho
      cases hdd
    have hef : e ∉ [it, a] := by simp [hne, hea]
    have hilt : i < its.toArray.size := by
      have h1 := (List.getElem?_eq_some_iff.mp hu).1
      simpa using h1
    refine wpAny_pyNext_enum_itemD (Draws.tuple (A := X.A.in1) (I.ok.hd hc) it a hai its.toArray) he ⟨hit, p⟩ hilt hne hef fun x' h' tk hx' ho hst' hT hsz hk => ?_
    obtain ⟨hit', p'⟩ := hst'
    have exu : x' = u := by
      have h2 : its.toArray[i]? = some u := by simpa using hu
      exact Option.some.inj (hx'.symm.trans h2)
    subst exu
    refine ⟨_, rfl, wpAny_letOwnedTupleGo_enum (s := { s with heap := h', toks := tk + 1 }) ho fun h'' he' sb => ?_⟩
    have hT2 : h''.get? s.heap.objs.size = some { cls := .type "tuple", data := .seq #[.int i tk, x'] } := (sb.2 _ (Nat.ne_of_gt hel)).trans hT
    have new : ObjOk X.prog X.w (upd H s.heap.objs.size (.tup [.int (i : Nat), x])) h'' s.heap.objs.size (.tup [.int (i : Nat), x]) :=
      ⟨by show 2 ≤ sizeLine; decide, [.int i tk, x'], .cons ⟨_, rfl⟩ (.cons ru .nil), ⟨_, hT2, rfl, _, rfl⟩⟩
    have I1 : Inv X pins σ (upd H s.heap.objs.size (.tup [.int (i : Nat), x])) { s with heap := h'', toks := tk + 1 } :=
      I.turnedNew (ch := [e, it]) (fun b ob hb q => (sb.2 b (fun z => hb (by simp [z]))).trans (hk b ob (fun z => hb (by simp [z])) (fun z => hb (by simp [z])) q)) hf (Nat.le_refl _) new
    refine ⟨.ref s.heap.objs.size, _, I1, rfl, ⟨_, x, rfl, I.hok.fresh (Nat.le_refl _), rfl, fun ys hy => by rw [I.tuple_inj hy hq]; exact hx⟩, ⟨⟨x', ?_⟩, hit'.at fun o q => (sb.2 it (Ne.symm hne)).trans q, hne⟩, fun b hb => ?_⟩
    · have e1 : ((i + 1 : Nat) : Int) = (i : Int) + 1 := by omega
      rw [e1]; exact he'
    · have hb' : b < s.heap.objs.size := by
        have e' : b = e ∨ b = it := by simpa using hb
        rcases e' with z | z
        · rw [z]; exact hel
        · rw [z]; exact hil
      rw [upd_ne (Nat.ne_of_lt hb')]
      exact (hf b hb).1
  done := by
    intro X hP hw hK hc i pins s σ H E I hf st hg
    subst hP hw hK
    obtain ⟨⟨old, he⟩, hit, hne⟩ := st
    obtain ⟨xs, hq, hx⟩ := hg
    obtain ⟨its, rv, p, hz⟩ := I.tuple hq
    obtain ⟨f0, f1, f2, f3, f4, f5⟩ := hf it (by simp)
    have hl := rv.length
    have hsz : its.toArray.size ≤ i := by simp only [List.size_toArray]; omega
    have hai : a ≠ it := fun z => by
      obtain ⟨o, ho, hcl, n, hdd⟩ := p
      obtain ⟨o2, ho2, hc2, hd2⟩ := hit
      rw [z, ho2] at ho
      cases ho
      rw [hd2] at hdd
      cases hdd
    refine mp_enumT_end (I.ok.hd hc) he hit p (by rw [Array.getElem?_eq_none]; exact hsz) fun h' eb => ⟨rfl, I.turned (t' := s.toks) (fun b o hb q => eb b o hb q) f0 f1 f3 f4 f5⟩
  self := fun A i s Q E st h => let ⟨⟨_, he⟩, _⟩ := st; wpAny_pyIter_enum he h
end L2

set_option Elab.async false
set_option linter.all false
set_option maxRecDepth 100000
set_option maxHeartbeats 4000000
/-! Mp3: readings of the small language; operations. -/
namespace Mp
open PySem PySem.Spec PyProof.Rows L2

/-- a value in two worlds: where it stands itself, where its items stand -/
def RepW (K : PySem.W.Frag) (Ws Wt : Hp) (v : V) (d : D) : Prop := match d with
  | .lst ds => ∃ a xs, v = .ref a ∧ SqL K Ws a xs ∧ RepAll K Ws xs ds ∧ RepAll K Wt xs ds
  | .tup ds => ∃ a xs, v = .ref a ∧ SqT K Ws a xs ∧ RepAll K Ws xs ds ∧ SqT K Wt a xs ∧ RepAll K Wt xs ds
  | d => Rep K Ws v d
abbrev RepV (K : PySem.W.Frag) (G H : Hp) (L : Lb) (v : V) (x : V3) : Prop := RepW K (wld G H L x.s) (wld G H L x.t) v x.d
/-- arguments -/
inductive RepWs (K : PySem.W.Frag) (Ws Wt : Hp) : List V → List D → Prop
  | nil : RepWs K Ws Wt [] []
  | cons {v : V} {vs : List V} {d : D} {ds : List D} : RepW K Ws Wt v d → RepWs K Ws Wt vs ds → RepWs K Ws Wt (v :: vs) (d :: ds)
abbrev RepVs (K : PySem.W.Frag) (G H : Hp) (L : Lb) (vs : List V) (x : List D × List Nat × List Nat) : Prop := RepWs K (wld G H L x.2.1) (wld G H L x.2.2) vs x.1

section
variable {K : PySem.W.Frag} {G0 G G' H H' W Ws Wt Ws' Wt' : Hp} {H0 : B0} {ρ : Env} {σ : L2.St} {L : Lb} {v : V} {d : D} {x : V3}
theorem RepW.s (r : RepW K Ws Wt v d) : Rep K Ws v d := by
  cases d with
  | lst ds =>
    obtain ⟨a, xs, e, q, r, _⟩ := r
    rw [e]
    exact .lst q r
  | tup ds =>
    obtain ⟨a, xs, e, q, r, _⟩ := r
    rw [e]
    exact .tup q r
  | _ => exact r
theorem RepW.mono (s : Same Ws Ws') (t : Same Wt Wt') (r : RepW K Ws Wt v d) : RepW K Ws' Wt' v d := by
  cases d with
  | lst ds =>
    obtain ⟨a, xs, e, q, r1, r2⟩ := r
    exact ⟨a, xs, e, s.seq q, RepAll.mono s r1, RepAll.mono t r2⟩
  | tup ds =>
    obtain ⟨a, xs, e, q, r1, q2, r2⟩ := r
    exact ⟨a, xs, e, sqT_same s q, RepAll.mono s r1, sqT_same t q2, RepAll.mono t r2⟩
  | _ => exact Rep.mono s r
theorem RepWs.mono (s : Same Ws Ws') (t : Same Wt Wt') {vs : List V} {ds : List D} (r : RepWs K Ws Wt vs ds) : RepWs K Ws' Wt' vs ds := by
  induction r with
  | nil => exact .nil
  | cons a _ ih => exact .cons (a.mono s t) ih
theorem RepWs.s {vs : List V} {ds : List D} (r : RepWs K Ws Wt vs ds) : RepAll K Ws vs ds := by
  induction r with
  | nil => exact .nil
  | cons a _ ih => exact .cons a.s ih
/-- one world -/
theorem RepW.one (r : Rep K W v d) : RepW K W W v d := by
  cases r with
  | lst h r => exact ⟨_, _, rfl, h, r, r⟩
  | tup h r => exact ⟨_, _, rfl, h, r, h, r⟩
  | non => exact .non
  | bl b => exact .bl b
  | int i => exact .int i
  | str x => exact .str x
theorem RepV.mono (sr : SR K G0 H0 ρ σ G H L) (g : Same G G') (h : Same H H') (r : RepV K G H L v x) : RepV K G' H' L v x := RepW.mono (sr.wldMono g h) (sr.wldMono g h) r
theorem RepVs.mono (sr : SR K G0 H0 ρ σ G H L) {vs : List V} {y : List D × List Nat × List Nat} (g : Same G G') (h : Same H H') (r : RepVs K G H L vs y) : RepVs K G' H' L vs y :=
  RepWs.mono (sr.wldMono g h) (sr.wldMono g h) r
/-- a flat value -/
theorem RepW.flat (r : Rep K W v d) (a : atomic d = true) : RepW K Ws Wt v d := by
  cases d with
  | lst _ => cases a
  | tup _ => cases a
  | _ => exact Rep.flat r a
theorem RepV.at (r : Rep K W v d) (a : atomic d = true) : RepV K G H L v (.at d) := RepW.flat r a
theorem RepV.at' {t : List Nat} (r : Rep K W v d) (a : atomic d = true) : RepV K G H L v (.new d t) := RepW.flat r a
/-- a value whose worth hangs on t -/
theorem RepV.of {t : List Nat} (r : Rep K (wld G H L t) v d) : RepV K G H L v (.new d t) := by
  cases h : atomic d with
  | true => exact RepW.flat r h
  | false =>
    have e : dp d t = t := by
      unfold dp
      rw [h]
      rfl
    show RepW K (wld G H L (dp d t)) (wld G H L (dp d t)) v d
    rw [e]
    exact RepW.one r
theorem wld_new (sr : SR K G0 H0 ρ σ G H L) {p : Addr} {o : HO} {S : List Nat} (hp : H p = none) : wld (upd G p o) (upd H p o) L S p = some o := by
  rcases labc L p with h | ⟨p', h⟩
  · rw [wld_none h, upd_same]
  · obtain ⟨_, _, ⟨u, e⟩⟩ := sr.lab p _ h
    rw [hp] at e
    cases e
theorem RepV.newLst (sr : SR K G0 H0 ρ σ G H L) {p : Addr} {xs : List V} {ds : List D} {t : List Nat} (hp : H p = none) (ra : RepAll K (wld G H L t) xs ds) :
    RepV K (upd G p (.lst xs)) (upd H p (.lst xs)) L (.ref p) (.new (.lst ds) t) := by
  have hg : G p = none := sr.gh.free hp
  have m := sr.wldMono (S := t) (same_new (o := .lst xs) hg) (same_new (o := .lst xs) hp)
  exact RepV.of (.lst (SqL.of (wld_new sr hp)) (RepAll.mono m ra))
theorem RepV.newTup (sr : SR K G0 H0 ρ σ G H L) {p : Addr} {xs : List V} {ds : List D} {t : List Nat} (hp : H p = none) (ra : RepAll K (wld G H L t) xs ds) :
    RepV K (upd G p (.tup xs)) (upd H p (.tup xs)) L (.ref p) (.new (.tup ds) t) := by
  have hg : G p = none := sr.gh.free hp
  have m := sr.wldMono (S := t) (same_new (o := .tup xs) hg) (same_new (o := .tup xs) hp)
  exact RepV.of (.tup (SqT.of (wld_new sr hp)) (RepAll.mono m ra))
/-- a tuple is itself, its items hang on t -/
theorem RepV.sameTup {a : Addr} {xs : List V} {ds : List D} {t : List Nat} (q : SqT K (wld G H L t) a xs) (ra : RepAll K (wld G H L t) xs ds) : RepV K G H L (.ref a) (.new (.tup ds) t) :=
  RepV.of (.tup q ra)
end

/-! ### readings -/
section
variable (K : PySem.W.Frag) (G0 : Hp) (H0 : B0) (ρ : Env)
def tEv (r : R V3) : TE := fun σ H Q => ∃ G L, SR K G0 H0 ρ σ G H L ∧ ∃ x, r = .ok x ∧ ∀ v H' G', SR K G0 H0 ρ σ G' H' L → Same G G' → Same H H' → RepV K G' H' L v x → Q v H'
def tEvs (r : R (List D × List Nat × List Nat)) : TA := fun σ H Q => ∃ G L, SR K G0 H0 ρ σ G H L ∧ ∃ x, r = .ok x ∧ ∀ vs H' G', SR K G0 H0 ρ σ G' H' L → Same G G' → Same H H' → RepVs K G' H' L vs x → Q vs H'
def tTst (r : R Bool) : TT := fun σ H Q => ∃ G L, SR K G0 H0 ρ σ G H L ∧ ∃ b, r = .ok b ∧ ∀ H' G', SR K G0 H0 ρ σ G' H' L → Same G G' → Same H H' → Q b H'
end
section
variable {X : Cx} {e : Expr}
theorem pe_imp {t t' : TE} (h : PE X e t) (w : ∀ σ H Q, t' σ H Q → t σ H Q) : PE X e t' := ⟨fun pins s σ H Q I q => h.run pins s σ H Q I (w σ H Q q)⟩
theorem pt_imp {t t' : TT} (h : PT X e t) (w : ∀ σ H Q, t' σ H Q → t σ H Q) : PT X e t' := ⟨fun pins s σ H Q I q => h.run pins s σ H Q I (w σ H Q q)⟩
theorem pa_imp {es : List Expr} {t t' : TA} (h : PA X es t) (w : ∀ σ H Q, t' σ H Q → t σ H Q) : PA X es t' := ⟨fun pos pins s σ H Q I q => h.run pos pins s σ H Q I (w σ H Q q)⟩
theorem ps_imp {st : Stmt} {t t' : TS} (h : PS X st t) (w : ∀ D σ H, t' D σ H → t D σ H) : PS X st t' := ⟨fun pins s σ H D I q => h.run pins s σ H D I (w D σ H q)⟩
theorem pss_imp {st : List Stmt} {t t' : TS} (h : PSs X st t) (w : ∀ D σ H, t' D σ H → t D σ H) : PSs X st t' := ⟨fun pins s σ H D I q => h.run pins s σ H D I (w D σ H q)⟩
theorem pi_imp {tg : Expr} {t t' : TI} (h : PI X tg e t) (w : ∀ σ H Q, t' σ H Q → t σ H Q) : PI X tg e t' := ⟨fun pins s σ H Q I q => h.run pins s σ H Q I (w σ H Q q)⟩
end

/-! ### what syntax asks -/
/-- no star, no set, no slice, no set or dict comprehension -/
def okE : Expr → Bool
  | .Starred .. => false
  | .Set .. => false
  | .Slice .. => false
  | .SetComp .. => false
  | .DictComp .. => false
  | _ => true
def notLC : Expr → Bool
  | .ListComp .. => false
  | _ => true
/-- neither not, and, or, a comparison, nor a conditional -/
def plainT : Expr → Bool
  | .UnaryOp .Not _ _ => false
  | .BoolOp .. => false
  | .IfExp .. => false
  | .Compare .. => false
  | _ => true
theorem star_ok {e : Expr} (h : okE e = true) (es : List Expr) (env : PySem.Env) : starEach (e :: es) env = (false, eval e env) :: starEach es env := by
  cases e <;> first | rfl | cases h
theorem back_ok {pos : Pos} {env : PySem.Env} : ∀ {es : List Expr}, es.all okE = true → (backTo pos (starEach es env)).any (·.1) = false
  | [], _ => rfl
  | e :: es, h => by
    rw [List.all_cons, Bool.and_eq_true] at h
    rw [star_ok h.1]
    show (false || (backTo pos (starEach es env)).any (·.1)) = false
    rw [back_ok h.2]
    rfl
theorem mark_ok {e : Expr} (h : okE e = true) (op : CmpOp) : behindInMarks op e = false := by
  cases e <;> first | rfl | cases h
theorem marks2_ok {b c : Expr} (h : okE c = true) (o p : CmpOp) : lastMarks [o, p] [b, c] = false := by
  unfold lastMarks
  cases c <;> first | rfl | cases h
theorem fold_ok {e : Expr} (h : okE e = true) (env : PySem.Env) (x : Value) : foldedSetIterable e env x = pure x := by
  cases e <;> first | rfl | cases h
theorem swap_ok {e : Expr} (h : okE e = true) (h2 : notLC e = true) (t : Option Expr) (l : Nat) (env : PySem.Env) : swapsWith e t l env = pure false := by
  cases e <;> first | rfl | exact Bool.noConfusion h | exact Bool.noConfusion h2
theorem plain_ok {e : Expr} (h : plainT e = true) (env : PySem.Env) (whole : Sem Value) : isTrue e env whole = (do let v ← whole; standAt e.pos; holding [v] (truthy v)) := by
  cases e with
  | UnaryOp o a p => cases o <;> first | rfl | cases h
  | BoolOp => cases h
  | IfExp => cases h
  | Compare => cases h
  | _ => rfl
theorem ix_ok {e : Expr} (h : okE e = true) : PlainIx e := fun o i => by
  cases e <;> first | rfl | cases h

/-! ### operators -/
def opOf : BOp → Operator
  | .add => .Add
  | .sub => .Sub
  | .mul => .Mult
  | .fdiv => .FloorDiv
  | .mod => .Mod
  | .pow => .Pow
def rB (K : PySem.W.Frag) : BOp → R2
  | .add => fun x y H Q => rI0 (fun i j => .int (i + j)) x y H Q ∨ (rCatL K x y H Q ∨ rCatA K x y H Q)
  | .sub => rI0 fun i j => .int (i - j)
  | .mul => rI CMul fun i j => .int (i * j)
  | .fdiv => rI CDivN fun i j => .int (i.fdiv j)
  | .mod => rI (fun _ j => j ≠ 0) fun i j => .int (i.fmod j)
  | .pow => rI CPow fun i j => .int (i ^ j.toNat)
theorem op_B {X : Cx} : ∀ o : BOp, OpR X (binaryOp (opOf o)) (rB X.K o)
  | .add => op_add.or (op_catL.or op_catA)
  | .sub => op_sub
  | .mul => op_mul
  | .fdiv => op_fdivN
  | .mod => op_modN
  | .pow => op_pow
section
variable {K : PySem.W.Frag} {G0 G H : Hp} {H0 : B0} {ρ : Env} {σ : L2.St} {L : Lb} {v v1 v2 : V} {d z : D} {x y x1 x2 : V3} {Q : VK}
/-- how an evaluation goes on -/
abbrev Go (K : PySem.W.Frag) (G0 : Hp) (H0 : B0) (ρ : Env) (σ : L2.St) (G H : Hp) (L : Lb) (x : V3) (Q : VK) : Prop := ∀ v H' G', SR K G0 H0 ρ σ G' H' L → Same G G' → Same H H' → RepV K G' H' L v x → Q v H'
theorem Go.here (sr : SR K G0 H0 ρ σ G H L) (k : Go K G0 H0 ρ σ G H L x Q) (r : RepV K G H L v x) : Q v H := k v H G sr (Same.refl G) (Same.refl H) r
theorem Go.lst (sr : SR K G0 H0 ρ σ G H L) {xs : List V} {ds : List D} {t : List Nat} (k : Go K G0 H0 ρ σ G H L (.new (.lst ds) t) Q) (ra : RepAll K (wld G H L t) xs ds) : ∀ p, H p = none → Q (.ref p) (upd H p (.lst xs)) := fun p hp =>
  k _ _ (upd G p (.lst xs)) (sr.new hp) (same_new (sr.gh.free hp)) (same_new hp) (RepV.newLst sr hp ra)
theorem Go.tup (sr : SR K G0 H0 ρ σ G H L) {xs : List V} {ds : List D} {t : List Nat} (k : Go K G0 H0 ρ σ G H L (.new (.tup ds) t) Q) (ra : RepAll K (wld G H L t) xs ds) : ∀ p, H p = none → Q (.ref p) (upd H p (.tup xs)) := fun p hp =>
  k _ _ (upd G p (.tup xs)) (sr.new hp) (same_new (sr.gh.free hp)) (same_new hp) (RepV.newTup sr hp ra)
theorem Rep.intE {W : Hp} {i : Int} (r : Rep K W v (.int i)) : v = .int i := by
  cases r
  rfl
theorem szl_eq : szl = sizeLine := by decide
theorem mem_l {S T : List Nat} : ∀ i ∈ S, i ∈ S ++ T := fun i h => List.mem_append_left _ h
theorem mem_r {S T : List Nat} : ∀ i ∈ T, i ∈ S ++ T := fun i h => List.mem_append_right _ h
/-- a tuple stands where its items' slots let it: it is never owned -/
theorem Rep.tupT {W : Hp} {ds : List D} (r : Rep K W v (.tup ds)) : ∃ a xs, v = .ref a ∧ SqT K W a xs ∧ RepAll K W xs ds := by
  cases r with
  | tup h r => exact ⟨_, _, rfl, h, r⟩
/-- operators on data -/
theorem rB_of {bo : BOp} (sr : SR K G0 H0 ρ σ G H L) (r1 : RepV K G H L v1 x1) (r2 : RepV K G H L v2 x2) (e : bop bo x1.d x2.d = .ok z) (k : Go K G0 H0 ρ σ G H L (.new z (x1.t ++ x2.t)) Q) : rB K bo v1 v2 H Q := by
  obtain ⟨d1, s1, t1⟩ := x1
  obtain ⟨d2, s2, t2⟩ := x2
  have one := RepW.s r1
  have two := RepW.s r2
  dsimp only at e one two
  cases one with
  | int i =>
    cases two with
    | int j =>
      have fin : ∀ {n : Int}, z = .int n → Q (.int n) H := fun {n} ez => Go.here sr k (by
        rw [ez]
        exact RepV.at' (.int n) rfl (W := G))
      cases bo with
      | add =>
        have ez : D.int (i + j) = z := R.ok.inj e
        exact .inl ⟨i, j, rfl, rfl, fin ez.symm⟩
      | sub =>
        have ez : D.int (i - j) = z := R.ok.inj e
        exact ⟨i, j, rfl, rfl, fin ez.symm⟩
      | mul =>
        obtain ⟨c, e⟩ := R.of_chk e
        exact ⟨i, j, rfl, rfl, cmulB_ok c, fin (R.ok.inj e).symm⟩
      | fdiv =>
        obtain ⟨c, e⟩ := R.of_chk e
        exact ⟨i, j, rfl, rfl, c, fin (R.ok.inj e).symm⟩
      | mod =>
        obtain ⟨c, e⟩ := R.of_chk e
        exact ⟨i, j, rfl, rfl, c, fin (R.ok.inj e).symm⟩
      | pow =>
        obtain ⟨c, e⟩ := R.of_chk e
        exact ⟨i, j, rfl, rfl, c, fin (R.ok.inj e).symm⟩
    | _ => cases e
  | @lst a xs ds q1 q2 =>
    cases two with
    | @lst b ys es q3 q4 =>
      by_cases h : bo = .add
      · subst h
        have e : R.chk (ds.length + es.length ≤ szl) (R.ok (D.lst (ds ++ es))) = .ok z := e
        obtain ⟨c, e⟩ := R.of_chk e
        have ez : D.lst (ds ++ es) = z := R.ok.inj e
        subst ez
        obtain ⟨a', xs', ea, qa, _, ra⟩ := r1
        obtain ⟨b', ys', eb, qb, _, rb⟩ := r2
        refine .inr (.inl ⟨a', b', xs', ys', ea, eb, sr.wldH.seq qa, sr.wldH.seq qb, ?_, Go.lst sr k ((RepAll.mono (sr.wldSub mem_l) ra).append (RepAll.mono (sr.wldSub mem_r) rb))⟩)
        rw [ra.length, rb.length]
        exact c
      · have e : (if bo = .add then _ else R.bad) = R.ok z := e
        rw [if_neg h] at e
        cases e
    | _ => cases e
  | @tup a xs ds q1 q2 =>
    cases two with
    | @tup b ys es q3 q4 =>
      by_cases h : bo = .add
      · subst h
        have e : R.chk (ds.length + es.length ≤ szl) (R.ok (D.tup (ds ++ es))) = .ok z := e
        obtain ⟨c, e⟩ := R.of_chk e
        have ez : D.tup (ds ++ es) = z := R.ok.inj e
        subst ez
        obtain ⟨a', xs', ea, _, _, qa, ra⟩ := r1
        obtain ⟨b', ys', eb, _, _, qb, rb⟩ := r2
        have mA := RepAll.mono (sr.wldSub (T := t1 ++ t2) mem_l) ra
        have mB := RepAll.mono (sr.wldSub (T := t1 ++ t2) mem_r) rb
        refine .inr (.inr ⟨a', b', xs', ys', ea, eb, sqT_same sr.wldH qa, sqT_same sr.wldH qb, ?_, fun hx => ?_, fun _ hy => ?_, fun _ _ => Go.tup sr k (mA.append mB)⟩)
        · rw [ra.length, rb.length]
          exact c
        · subst hx
          cases ra
          exact Go.here sr k (RepV.sameTup (sqT_same (sr.wldSub mem_r) qb) mB)
        · subst hy
          cases rb
          rw [List.append_nil] at k
          exact Go.here sr k (RepV.sameTup (sqT_same (sr.wldSub mem_l) qa) mA)
      · have e : (if bo = .add then _ else R.bad) = R.ok z := e
        rw [if_neg h] at e
        cases e
    | _ => cases e
  | _ => cases e
end
end Mp

set_option Elab.async false
set_option linter.all false
set_option maxRecDepth 100000
set_option maxHeartbeats 4000000
/-! Mp4: comparisons, truth, isinstance, built-in functions. -/
namespace Mp
open PySem PySem.Spec PyProof.Rows L2

/-! ### == -/
mutual
def toP : D → PyData
  | .non => .none
  | .bl b => .bool b
  | .int i => .int i
  | .str x => .str x
  | .lst xs => .list (toPs xs)
  | .tup xs => .tuple (toPs xs)
def toPs : List D → List PyData
  | [] => []
  | x :: xs => toP x :: toPs xs
end
mutual
theorem rep_dp {K : PySem.W.Frag} {H : Hp} : ∀ {v : V} {d : D}, Rep K H v d → Dp K H v (toP d)
  | _, _, .non => by rw [toP]; exact .non
  | _, _, .bl b => by rw [toP]; exact .bl b
  | _, _, .int i => by rw [toP]; exact .int i
  | _, _, .str x => by rw [toP]; exact .str x
  | _, _, .lst h r => by rw [toP]; exact .lst h (reps_dp r)
  | _, _, .tup h r => by rw [toP]; exact .tup h (reps_dp r)
theorem reps_dp {K : PySem.W.Frag} {H : Hp} : ∀ {vs : List V} {ds : List D}, RepAll K H vs ds → DpAll K H vs (toPs ds)
  | _, _, .nil => by rw [toPs]; exact .nil
  | _, _, .cons h r => by rw [toPs]; exact .cons (rep_dp h) (reps_dp r)
end
mutual
theorem eqv_toP : ∀ a b : D, PyData.eqv (toP a) (toP b) = eqD a b
  | .non, b => by cases b <;> simp [toP, PyData.eqv, eqD]
  | .bl x, b => by cases b <;> simp [toP, PyData.eqv, eqD]
  | .int i, b => by cases b <;> simp [toP, PyData.eqv, eqD]
  | .str x, b => by cases b <;> simp [toP, PyData.eqv, eqD]
  | .lst xs, b => by
    cases b with
    | lst ys => simp only [toP, PyData.eqv, eqD]; exact eqvs_toP xs ys
    | _ => simp [toP, PyData.eqv, eqD]
  | .tup xs, b => by
    cases b with
    | tup ys => simp only [toP, PyData.eqv, eqD]; exact eqvs_toP xs ys
    | _ => simp [toP, PyData.eqv, eqD]
theorem eqvs_toP : ∀ a b : List D, PyData.eqvAll (toPs a) (toPs b) = eqDs a b
  | [], b => by cases b <;> simp [toPs, PyData.eqvAll, eqDs]
  | x :: xs, b => by
    cases b with
    | nil => simp [toPs, PyData.eqvAll, eqDs]
    | cons y ys => simp only [toPs, PyData.eqvAll, eqDs, eqv_toP x y, eqvs_toP xs ys]
end
mutual
theorem lay_toP : ∀ a : D, strsD a = true → (toP a).canLay0 = true
  | .non, _ => by simp [toP, PyData.canLay0]
  | .bl _, _ => by simp [toP, PyData.canLay0]
  | .int _, _ => by simp [toP, PyData.canLay0]
  | .str x, h => by
    simp only [toP, PyData.canLay0]
    exact h
  | .lst xs, h => by
    simp only [toP, PyData.canLay0]
    exact lays_toP xs (by simpa [strsD] using h)
  | .tup xs, h => by
    simp only [toP, PyData.canLay0]
    exact lays_toP xs (by simpa [strsD] using h)
theorem lays_toP : ∀ a : List D, strsDs a = true → PyData.canLayAll0 (toPs a) = true
  | [], _ => by simp [toPs, PyData.canLayAll0]
  | x :: xs, h => by
    have h' : strsD x = true ∧ strsDs xs = true := by simpa [strsDs] using h
    simp [toPs, PyData.canLayAll0, lay_toP x h'.1, lays_toP xs h'.2]
end
mutual
theorem depth_toP : ∀ a : D, (toP a).depth = depth a
  | .non => by simp [toP, PyData.depth, depth]
  | .bl _ => by simp [toP, PyData.depth, depth]
  | .int _ => by simp [toP, PyData.depth, depth]
  | .str _ => by simp [toP, PyData.depth, depth]
  | .lst xs => by simp [toP, PyData.depth, depth, depths_toP xs]
  | .tup xs => by simp [toP, PyData.depth, depth, depths_toP xs]
theorem depths_toP : ∀ a : List D, PyData.depthAll (toPs a) = depths a
  | [] => by simp [toPs, PyData.depthAll, depths]
  | x :: xs => by simp [toPs, PyData.depthAll, depths, depth_toP x, depths_toP xs]
end
theorem shaped_toP {a : D} (h : okD a = true) : SeqAt.shaped (toP a) = true := by
  unfold okD at h
  rw [Bool.and_eq_true] at h
  unfold SeqAt.shaped
  rw [Bool.and_eq_true, lay_toP a h.1, depth_toP]
  have := of_decide_eq_true h.2
  exact ⟨rfl, decide_eq_true (by omega)⟩

theorem eqV_rep {K : PySem.W.Frag} {W W' : Hp} {v w : V} {d e : D} (r : Rep K W v d) (q : Rep K W' w e) (a : atomic d = true) (b : atomic e = true) : eqV v w = eqD d e := by
  cases r <;> cases q <;> first | exact Bool.noConfusion a | exact Bool.noConfusion b | (simp [eqV, eqD])
theorem flat_rep {K : PySem.W.Frag} {W : Hp} {v : V} {d : D} (r : Rep K W v d) (a : atomic d = true) : flatV v = true := by
  cases r <;> first | rfl | exact Bool.noConfusion a
theorem inV_rep {K : PySem.W.Frag} {W W' : Hp} {v : V} {d : D} (r : Rep K W v d) (a : atomic d = true) : ∀ {xs : List V} {ds : List D}, RepAll K W' xs ds → ds.all atomic = true → xs.all flatV = true ∧ inV v xs = ds.any fun y => eqD y d
  | _, _, .nil, _ => ⟨rfl, rfl⟩
  | _, _, .cons h t, b => by
    rw [List.all_cons, Bool.and_eq_true] at b
    obtain ⟨h1, h2⟩ := inV_rep r a t b.2
    refine ⟨by rw [List.all_cons, flat_rep h b.1, h1]; rfl, ?_⟩
    unfold inV at h2 ⊢
    rw [List.any_cons, List.any_cons, h2, eqV_rep h r b.1 a]

/-! ### comparisons -/
def copOf : COp → CmpOp
  | .eq => .Eq
  | .ne => .NotEq
  | .lt => .Lt
  | .le => .LtE
  | .gt => .Gt
  | .ge => .GtE
  | .is => .Is
  | .isn => .IsNot
  | .in_ => .In
  | .nin => .NotIn
def rC (K : PySem.W.Frag) : COp → R2
  | .eq => rEqD K
  | .ne => rNeD K
  | .lt => rI0 fun i j => .bl (decide (i < j))
  | .le => rI0 fun i j => .bl (decide (i ≤ j))
  | .gt => rI0 fun i j => .bl (decide (j < i))
  | .ge => rI0 fun i j => .bl (decide (j ≤ i))
  | .is => fun x y H Q => y = .non ∧ Q (.bl (decide (x = .non))) H
  | .isn => fun x y H Q => y = .non ∧ Q (.bl (!decide (x = .non))) H
  | .in_ => rIn K false
  | .nin => rIn K true
theorem op_C {X : Cx} (hu : X.A.units + 64 < cLine) : ∀ o : COp, OpR X (compareOp (copOf o)) (rC X.K o)
  | .eq => op_eqD hu
  | .ne => op_neD hu
  | .lt => op_lt
  | .le => op_le
  | .gt => op_gt
  | .ge => op_ge
  | .is => op_isN
  | .isn => op_notN
  | .in_ => op_in_seq
  | .nin => op_notIn_seq
section
variable {K : PySem.W.Frag} {G0 G H W : Hp} {H0 : B0} {ρ : Env} {σ : L2.St} {L : Lb} {v v1 v2 : V} {d z : D} {x y x1 x2 : V3} {Q : VK} {b : Bool}
theorem RepW.h (sr : SR K G0 H0 ρ σ G H L) {S T : List Nat} (r : RepW K (wld G H L S) (wld G H L T) v d) : Rep K H v d := Rep.mono sr.wldH r.s
theorem Rep.decN (r : Rep K W v d) : decide (v = .non) = (match d with | .non => true | _ => false) := by
  cases r <;> first | rfl | exact decide_eq_false (fun z => nomatch z)
theorem rC_of {o : COp} (sr : SR K G0 H0 ρ σ G H L) (r1 : RepV K G H L v1 x1) (r2 : RepV K G H L v2 x2) (e : cop o x1.d x2.d = .ok b) (k : Q (.bl b) H) : rC K o v1 v2 H Q := by
  obtain ⟨d1, s1, t1⟩ := x1
  obtain ⟨d2, s2, t2⟩ := x2
  have one := RepW.h sr r1
  have two := RepW.h sr r2
  dsimp only at e one two
  have seq : ∀ {ys : List D}, (d2 = .lst ys ∨ d2 = .tup ys) → ∃ p xs, v2 = .ref p ∧ (SqL K H p xs ∨ SqT K H p xs) ∧ RepAll K H xs ys := fun {ys} h => by
    rcases h with h | h <;> subst h
    · cases two with
      | lst q r => exact ⟨_, _, rfl, .inl q, r⟩
    · cases two with
      | tup q r => exact ⟨_, _, rfl, .inr q, r⟩
  have ins : ∀ {ys : List D} {neg : Bool}, (d2 = .lst ys ∨ d2 = .tup ys) → atomic d1 = true ∧ ys.all atomic = true → (if neg then !(ys.any fun y => eqD y d1) else ys.any fun y => eqD y d1) = b → rIn K neg v1 v2 H Q := fun {ys neg} h c e => by
    obtain ⟨p, xs, e2, q, ra⟩ := seq h
    obtain ⟨h1, h2⟩ := inV_rep one c.1 ra c.2
    refine ⟨p, xs, e2, q, flat_rep one c.1, h1, ?_⟩
    rw [h2, e]
    exact k
  cases o with
  | eq =>
    obtain ⟨c, e⟩ := R.of_chk e
    have e := R.ok.inj e
    subst e
    exact ⟨_, _, rep_dp one, rep_dp two, shaped_toP c.1, shaped_toP c.2, by rw [eqv_toP]; exact k⟩
  | ne =>
    obtain ⟨c, e⟩ := R.of_chk e
    have e := R.ok.inj e
    subst e
    exact ⟨_, _, rep_dp one, rep_dp two, shaped_toP c.1, shaped_toP c.2, by rw [eqv_toP]; exact k⟩
  | lt =>
    cases one <;> first | (cases e; done) | skip
    cases two <;> first | (cases e; done) | skip
    have e := R.ok.inj e
    exact ⟨_, _, rfl, rfl, by rw [← e] at k; exact k⟩
  | le =>
    cases one <;> first | (cases e; done) | skip
    cases two <;> first | (cases e; done) | skip
    have e := R.ok.inj e
    exact ⟨_, _, rfl, rfl, by rw [← e] at k; exact k⟩
  | gt =>
    cases one <;> first | (cases e; done) | skip
    cases two <;> first | (cases e; done) | skip
    have e := R.ok.inj e
    exact ⟨_, _, rfl, rfl, by rw [← e] at k; exact k⟩
  | ge =>
    cases one <;> first | (cases e; done) | skip
    cases two <;> first | (cases e; done) | skip
    have e := R.ok.inj e
    exact ⟨_, _, rfl, rfl, by rw [← e] at k; exact k⟩
  | is =>
    cases two <;> first | (cases one <;> cases e; done) | skip
    refine ⟨rfl, ?_⟩
    rw [one.decN]
    cases one <;> (have e := R.ok.inj e; rw [← e] at k; exact k)
  | isn =>
    cases two <;> first | (cases one <;> cases e; done) | skip
    refine ⟨rfl, ?_⟩
    rw [one.decN]
    cases one <;> (have e := R.ok.inj e; rw [← e] at k; exact k)
  | in_ =>
    cases two with
    | lst q r =>
      obtain ⟨c, e⟩ := R.of_chk e
      exact ins (.inl rfl) c (R.ok.inj e)
    | tup q r =>
      obtain ⟨c, e⟩ := R.of_chk e
      exact ins (.inr rfl) c (R.ok.inj e)
    | _ => cases e
  | nin =>
    cases two with
    | lst q r =>
      obtain ⟨c, e⟩ := R.of_chk e
      exact ins (neg := true) (.inl rfl) c (R.ok.inj e)
    | tup q r =>
      obtain ⟨c, e⟩ := R.of_chk e
      exact ins (neg := true) (.inr rfl) c (R.ok.inj e)
    | _ => cases e
/-- truth -/
theorem truV_of (r : Rep K H v d) (e : truth d = .ok b) : TruV K v H b := by
  cases r with
  | non => exact (R.ok.inj e).symm
  | bl c => exact (R.ok.inj e).symm
  | int i => exact (R.ok.inj e).symm
  | str y =>
    obtain ⟨c, e⟩ := R.of_chk e
    refine ⟨c, ?_⟩
    rw [← R.ok.inj e]
    show (y.cps.size != 0) = ((y.cps.size : Int) != 0)
    cases q : y.cps.size <;> rfl
  | lst q r => exact .inl ⟨_, q, by rw [r.isEmpty]; exact (R.ok.inj e).symm⟩
  | tup q r => exact .inr (.inl ⟨_, q, by rw [r.isEmpty]; exact (R.ok.inj e).symm⟩)

end
end Mp

set_option Elab.async false
set_option linter.all false
set_option maxRecDepth 100000
set_option maxHeartbeats 4000000
namespace Mp
open PySem PySem.Spec PyProof.Rows L2
section
variable {K : PySem.W.Frag} {H : Hp} {v : V} {d : D}
/-! ### isinstance -/
def tyS : Ty → String
  | .int => "int"
  | .bool => "bool"
  | .str => "str"
  | .list => "list"
  | .tuple => "tuple"
def tyN : D → Nat
  | .non => 0
  | .bl _ => 1
  | .int _ => 2
  | .str _ => 3
  | .lst _ => 4
  | .tup _ => 5
def nmN : Nat → String
  | 0 => "NoneType"
  | 1 => "bool"
  | 2 => "int"
  | 3 => "str"
  | 4 => "list"
  | _ => "tuple"
def isN : Nat → Ty → Bool
  | 1, .int => true
  | 1, .bool => true
  | 2, .int => true
  | 3, .str => true
  | 4, .list => true
  | 5, .tuple => true
  | _, _ => false
theorem isN_ok (a : D) (t : Ty) : isTy a t = isN (tyN a) t := by
  cases a <;> cases t <;> rfl
def tyOf (a : D) : String := nmN (tyN a)
theorem kit_tab : ((List.range 6).all fun n => [Ty.int, .bool, .str, .list, .tuple].all fun t => decide (kitB (nmN n) (tyS t) = some (isN n t))) = true := by decide +kernel
theorem kit_all (a : D) (t : Ty) : kitB (tyOf a) (tyS t) = some (isTy a t) := by
  rw [isN_ok]
  have h := List.all_eq_true.mp kit_tab (tyN a) (List.mem_range.mpr (by cases a <;> (simp only [tyN]; omega)))
  exact of_decide_eq_true (List.all_eq_true.mp h t (by cases t <;> simp))
theorem rep_ty (r : Rep K H v d) : TyX K H v (.type (tyOf d)) := by
  cases r with
  | non => exact .base .non
  | bl b => exact .base (.bl b)
  | int i => exact .base (.int i)
  | str x => exact .base (.str x)
  | lst q r =>
    rcases q with (q | ⟨o, q⟩) | ⟨o, its, n, q, c, _⟩
    · exact .base (.lst q)
    · exact .base (.frz q)
    · exact .kList q c
  | tup q r =>
    rcases q with (q | ⟨o, q⟩) | ⟨o, its, n, q, c, _⟩
    · exact .base (.tup q)
    · exact .fTuple q
    · exact .kTuple q c
theorem kitAny_of {a : D} : ∀ ts : List Ty, PySem.W.kitAny K (.type (tyOf a)) (ts.map fun t => .type (tyS t)) = some (ts.any (isTy a))
  | [] => rfl
  | t :: ts => by
    refine kitAny_cons (kit_ty (kit_all a t)) (fun h => ?_) fun h => ?_
    · rw [List.any_cons, h, Bool.false_or]
      exact kitAny_of ts
    · rw [List.any_cons, h, Bool.true_or]

/-! ### built-in functions -/
def bfN : Bf → Str
  | .len => "len"
  | .int => "int"
  | .sum => "sum"
  | .max => "max"
  | .min => "min"
  | .list => "list"
  | .tuple => "tuple"
  | .abs => "abs"
def bfV : Bf → Value
  | .len => .builtin "len"
  | .int => .type "int"
  | .sum => .builtin "sum"
  | .max => .builtin "max"
  | .min => .builtin "min"
  | .list => .type "list"
  | .tuple => .type "tuple"
  | .abs => .builtin "abs"
def rBf (K : PySem.W.Frag) : Bf → List V → Hp → VK → Prop
  | .len => fun xs H Q => ∃ p ys, xs = [.ref p] ∧ (SqL K H p ys ∨ SqT K H p ys) ∧ Q (.int ys.length) H
  | .int => fun xs H Q => (∃ i, xs = [.int i] ∧ Q (.int i) H) ∨ ∃ k, xs = [.bl k] ∧ Q (.int (if k then 1 else 0)) H
  | .sum => rSumA K
  | .max => fun xs H Q => (∃ i j, xs = [.int i, .int j] ∧ Q (.int (if j > i then j else i)) H) ∨ rMax K xs H Q
  | .min => fun xs H Q => (∃ i j, xs = [.int i, .int j] ∧ Q (.int (if j < i then j else i)) H) ∨ rMin K xs H Q
  | .list => fun xs H Q => ∃ p ys, xs = [.ref p] ∧ (SqL K H p ys ∨ SqT K H p ys) ∧ ∀ l, H l = none → Q (.ref l) (upd H l (.lst ys))
  | .tuple => fun xs H Q => ∃ p ys, xs = [.ref p] ∧ ((SqL K H p ys ∧ ∀ l, H l = none → Q (.ref l) (upd H l (.tup ys))) ∨ (SqT K H p ys ∧ Q (.ref p) H))
  | .abs => fun xs H Q => ∃ i, xs = [.int i] ∧ Q (.int (if i < 0 then -i else i)) H
theorem call_Bf {X : Cx} (hc : X.calm = true) : ∀ f : Bf, CallR X (bfV f) (rBf X.K f)
  | .len => call_len_seq
  | .int => call_int1
  | .sum => cr_sumA hc
  | .max => (call_max2 hc).or (cr_max hc)
  | .min => (call_min2 hc).or (cr_min hc)
  | .list => call_list_of
  | .tuple => call_tuple_of
  | .abs => call_abs
theorem maxI_of {ns : List Int} {m : Int} (h : maxI ns = some m) {M : Int} (h1 : M ∈ ns) (h2 : ∀ y, y ∈ ns → y ≤ M) : M = m := by
  cases ns with
  | nil => cases h
  | cons x r =>
    have e : r.foldl max x = m := Option.some.inj h
    have up : ∀ (r : List Int) (x : Int), x ≤ r.foldl max x ∧ (∀ y ∈ r, y ≤ r.foldl max x) ∧ (r.foldl max x = x ∨ r.foldl max x ∈ r) := by
      intro r
      induction r with
      | nil => exact fun x => ⟨Int.le_refl _, fun _ z => (nomatch z), .inl rfl⟩
      | cons z r ih =>
        intro x
        obtain ⟨a, b, c⟩ := ih (max x z)
        rw [List.foldl_cons]
        refine ⟨by omega, fun y hy => ?_, ?_⟩
        · rcases List.mem_cons.mp hy with q | q
          · rw [q]; omega
          · exact b y q
        · rcases c with c | c
          · rcases Int.le_total x z with q | q
            · exact .inr (by rw [c, Int.max_eq_right q]; exact List.mem_cons_self)
            · exact .inl (by rw [c, Int.max_eq_left q])
          · exact .inr (List.mem_cons_of_mem _ c)
    obtain ⟨a, b, c⟩ := up r x
    rw [e] at a b c
    have h3 : m ≤ M := by
      rcases c with c | c
      · exact h2 _ (by rw [c]; exact List.mem_cons_self)
      · exact h2 _ (List.mem_cons_of_mem _ c)
    have h4 : M ≤ m := by
      rcases List.mem_cons.mp h1 with q | q
      · rw [q]; exact a
      · exact b _ q
    omega
theorem minI_of {ns : List Int} {m : Int} (h : minI ns = some m) {M : Int} (h1 : M ∈ ns) (h2 : ∀ y, y ∈ ns → M ≤ y) : M = m := by
  cases ns with
  | nil => cases h
  | cons x r =>
    have e : r.foldl min x = m := Option.some.inj h
    have up : ∀ (r : List Int) (x : Int), r.foldl min x ≤ x ∧ (∀ y ∈ r, r.foldl min x ≤ y) ∧ (r.foldl min x = x ∨ r.foldl min x ∈ r) := by
      intro r
      induction r with
      | nil => exact fun x => ⟨Int.le_refl _, fun _ z => (nomatch z), .inl rfl⟩
      | cons z r ih =>
        intro x
        obtain ⟨a, b, c⟩ := ih (min x z)
        rw [List.foldl_cons]
        refine ⟨by omega, fun y hy => ?_, ?_⟩
        · rcases List.mem_cons.mp hy with q | q
          · rw [q]; omega
          · exact b y q
        · rcases c with c | c
          · rcases Int.le_total x z with q | q
            · exact .inl (by rw [c, Int.min_eq_left q])
            · exact .inr (by rw [c, Int.min_eq_right q]; exact List.mem_cons_self)
          · exact .inr (List.mem_cons_of_mem _ c)
    obtain ⟨a, b, c⟩ := up r x
    rw [e] at a b c
    have h3 : M ≤ m := by
      rcases c with c | c
      · exact h2 _ (by rw [c]; exact List.mem_cons_self)
      · exact h2 _ (List.mem_cons_of_mem _ c)
    have h4 : m ≤ M := by
      rcases List.mem_cons.mp h1 with q | q
      · rw [q]; exact a
      · exact b _ q
    omega
theorem orBad_ok {α : Type} {o : Option α} {a : α} (h : orBad o = .ok a) : o = some a := by
  cases o with
  | none => cases h
  | some b => rw [R.ok.inj h]
end
section
variable {K : PySem.W.Frag} {G0 G H W : Hp} {H0 : B0} {ρ : Env} {σ : L2.St} {L : Lb} {v : V} {d z : D} {Q : VK} {vs : List V}
theorem bf1 {Ws Wt : Hp} (r : RepWs K Ws Wt vs [d]) : ∃ v, vs = [v] ∧ RepW K Ws Wt v d := by
  cases r with
  | cons a1 a2 =>
    cases a2
    exact ⟨_, rfl, a1⟩
theorem items_of (sr : SR K G0 H0 ρ σ G H L) {s t : List Nat} (r : RepW K (wld G H L s) (wld G H L t) v d) {ds : List D} (e : items d = .ok ds) : ∃ a xs, v = .ref a ∧ (SqL K H a xs ∨ SqT K H a xs) ∧ RepAll K (wld G H L t) xs ds := by
  cases d with
  | lst es =>
    obtain ⟨a, xs, e1, q, _, r⟩ := r
    rw [← R.ok.inj e]
    exact ⟨a, xs, e1, .inl (sr.wldH.seq q), r⟩
  | tup es =>
    obtain ⟨a, xs, e1, q, _, _, r⟩ := r
    rw [← R.ok.inj e]
    exact ⟨a, xs, e1, .inr (sqT_same sr.wldH q), r⟩
  | _ => cases e
theorem rBf_of {f : Bf} {x : List D × List Nat × List Nat} (sr : SR K G0 H0 ρ σ G H L) (r : RepVs K G H L vs x) (e : bf f x.1 = .ok z) (k : Go K G0 H0 ρ σ G H L (.new z x.2.2) Q) : rBf K f vs H Q := by
  obtain ⟨ds, s, t⟩ := x
  dsimp only at e k
  have int : ∀ {n : Int}, z = .int n → Q (.int n) H := fun {n} ez => Go.here sr k (by
    rw [ez]
    exact RepV.at' (.int n) rfl (W := G))
  match ds, e, r with
  | [], e, r => cases f <;> cases e
  | [d], e, r =>
    obtain ⟨v, rfl, r2⟩ := bf1 r
    have r1 := r2.s
    have seq : ∀ {es : List D}, (d = .lst es ∨ d = .tup es) → ∃ p ys, v = .ref p ∧ (SqL K H p ys ∨ SqT K H p ys) ∧ RepAll K (wld G H L t) ys es := fun {es} h => items_of sr r2 (by rcases h with h | h <;> rw [h] <;> rfl)
    have len : ∀ {es : List D}, (d = .lst es ∨ d = .tup es) → z = .int es.length → rBf K .len [v] H Q := fun {es} h ez => by
      obtain ⟨p, ys, e1, q, ra⟩ := seq h
      exact ⟨p, ys, by rw [e1], q, by rw [ra.length]; exact int ez⟩
    have sum : ∀ {es : List D} {ns : List Int}, (d = .lst es ∨ d = .tup es) → asInts es = some ns → z = .int ns.sum → rBf K .sum [v] H Q := fun {es ns} h hn ez => by
      obtain ⟨p, ys, e1, q, ra⟩ := seq h
      rw [ra.asInts hn] at q
      exact ⟨p, ns, by rw [e1], q, int ez⟩
    have lst : ∀ {es : List D}, (d = .lst es ∨ d = .tup es) → z = .lst es → rBf K .list [v] H Q := fun {es} h ez => by
      obtain ⟨p, ys, e1, q, ra⟩ := seq h
      rw [ez] at k
      exact ⟨p, ys, by rw [e1], q, Go.lst sr k ra⟩
    cases d with
    | non => cases f <;> cases e
    | str _ => cases f <;> cases e
    | bl b =>
      cases f <;> first | (cases e; done) | skip
      cases r1
      exact .inr ⟨b, rfl, int (R.ok.inj e).symm⟩
    | int i =>
      cases r1
      cases f <;> first | (cases e; done) | skip
      · exact .inl ⟨i, rfl, int (R.ok.inj e).symm⟩
      · exact ⟨i, rfl, int (R.ok.inj e).symm⟩
    | lst es =>
      cases f with
      | len => exact len (.inl rfl) (R.ok.inj e).symm
      | int => cases e
      | abs => cases e
      | sum =>
        obtain ⟨ns, e1, e2⟩ := R.of_bind e
        exact sum (.inl rfl) (orBad_ok e1) (R.ok.inj e2).symm
      | max =>
        obtain ⟨ns, e1, e0⟩ := R.of_bind e
        obtain ⟨m, e2, e3⟩ := R.of_bind e0
        have e1 := orBad_ok e1
        have e2 := orBad_ok e2
        obtain ⟨p, ys, e4, q, ra⟩ := seq (.inl rfl)
        obtain ⟨p', ys', e5, q5, _, ra5⟩ := r2
        have q5 := sr.wldH.seq q5
        rw [ra5.asInts e1] at q5
        refine .inr ⟨p', ns, by rw [e5], q5, ?_, fun M h1 h2 => ?_⟩
        · cases ns with
          | nil => cases e2
          | cons _ _ => exact Nat.succ_pos _
        · rw [maxI_of e2 h1 h2]
          exact int (R.ok.inj e3).symm
      | min =>
        obtain ⟨ns, e1, e0⟩ := R.of_bind e
        obtain ⟨m, e2, e3⟩ := R.of_bind e0
        have e1 := orBad_ok e1
        have e2 := orBad_ok e2
        obtain ⟨p', ys', e5, q5, _, ra5⟩ := r2
        have q5 := sr.wldH.seq q5
        rw [ra5.asInts e1] at q5
        refine .inr ⟨p', ns, by rw [e5], q5, ?_, fun M h1 h2 => ?_⟩
        · cases ns with
          | nil => cases e2
          | cons _ _ => exact Nat.succ_pos _
        · rw [minI_of e2 h1 h2]
          exact int (R.ok.inj e3).symm
      | list => exact lst (.inl rfl) (R.ok.inj e).symm
      | tuple =>
        obtain ⟨p, ys, e1, q, _, ra⟩ := r2
        rw [← R.ok.inj e] at k
        exact ⟨p, ys, by rw [e1], .inl ⟨sr.wldH.seq q, Go.tup sr k ra⟩⟩
    | tup es =>
      cases f with
      | len => exact len (.inr rfl) (R.ok.inj e).symm
      | int => cases e
      | abs => cases e
      | sum =>
        obtain ⟨ns, e1, e2⟩ := R.of_bind e
        exact sum (.inr rfl) (orBad_ok e1) (R.ok.inj e2).symm
      | max => cases e
      | min => cases e
      | list => exact lst (.inr rfl) (R.ok.inj e).symm
      | tuple =>
        obtain ⟨p, ys, e1, _, _, q, ra⟩ := r2
        rw [← R.ok.inj e] at k
        refine ⟨p, ys, by rw [e1], .inr ⟨sqT_same sr.wldH q, ?_⟩⟩
        have h := Go.here sr k (RepV.sameTup q ra)
        exact h
  | [d1, d2], e, r =>
    have ra := r.s
    cases ra with
    | cons a1 a2 =>
      cases a2 with
      | cons a2 a3 =>
        cases a3
        cases a1 <;> first | (cases f <;> cases e; done) | skip
        cases a2 <;> first | (cases f <;> cases e; done) | skip
        cases f <;> first | (cases e; done) | skip
        · exact .inl ⟨_, _, rfl, int (R.ok.inj e).symm⟩
        · exact .inl ⟨_, _, rfl, int (R.ok.inj e).symm⟩
  | d1 :: d2 :: d3 :: ds, e, r => cases f <;> cases d1 <;> first | (cases e; done) | (cases d2 <;> cases e)
end
end Mp

set_option Elab.async false
set_option linter.all false
set_option maxRecDepth 100000
set_option maxHeartbeats 4000000
/-! Mp5: targets, walks; what syntax a piece of the small language stands for (chk). -/
namespace Mp
open PySem PySem.Spec PyProof.Rows L2

/-! ### slots -/
theorem wipe_get (vs : List Nat) (σ : L2.St) (j : Nat) : (L2.wipe σ vs)[j]? = if j ∈ vs then (σ[j]?).map (fun _ => none) else σ[j]? := by
  induction vs with
  | nil => simp [L2.wipe]
  | cons v vs ih =>
    unfold L2.wipe
    by_cases h : v = j
    · subst h
      rw [List.getElem?_set]
      simp only [if_true, List.mem_cons, true_or]
      by_cases hl : v < (L2.wipe σ vs).length
      · rw [if_pos hl]
        rw [L2.wipe_length] at hl
        rw [List.getElem?_eq_getElem hl]
        rfl
      · rw [if_neg hl]
        rw [L2.wipe_length] at hl
        rw [List.getElem?_eq_none (by omega)]
        rfl
    · rw [List.getElem?_set_ne h, ih]
      have h2 : j ≠ v := fun z => h z.symm
      simp [h2]
theorem ewipe_get (vs : List Nat) (ρ : Env) (j : Nat) : (Env.wipe ρ vs)[j]? = if j ∈ vs then (ρ[j]?).map (fun _ => none) else ρ[j]? := by
  induction vs with
  | nil => simp [Env.wipe]
  | cons v vs ih =>
    unfold Env.wipe
    by_cases h : v = j
    · subst h
      have hlen : ∀ us : List Nat, (Env.wipe ρ us).length = ρ.length := fun us => by
        induction us with
        | nil => rfl
        | cons u us ih => unfold Env.wipe; rw [List.length_set, ih]
      rw [List.getElem?_set]
      simp only [if_true, List.mem_cons, true_or]
      by_cases hl : v < (Env.wipe ρ vs).length
      · rw [if_pos hl]
        rw [hlen] at hl
        rw [List.getElem?_eq_getElem hl]
        rfl
      · rw [if_neg hl]
        rw [hlen] at hl
        rw [List.getElem?_eq_none (by omega)]
        rfl
    · rw [List.getElem?_set_ne h, ih]
      have h2 : j ≠ v := fun z => h z.symm
      simp [h2]
theorem ewipe_len (vs : List Nat) (ρ : Env) : (Env.wipe ρ vs).length = ρ.length := by
  induction vs with
  | nil => rfl
  | cons u us ih => unfold Env.wipe; rw [List.length_set, ih]
theorem wipe_set {vs : List Nat} {σ : L2.St} {i : Nat} {x : Option V} (h : i ∈ vs) : L2.wipe (σ.set i x) vs = L2.wipe σ vs := by
  apply List.ext_getElem?
  intro j
  rw [wipe_get, wipe_get]
  by_cases hj : j ∈ vs
  · rw [if_pos hj, if_pos hj]
    by_cases e : i = j
    · subst e
      rw [List.getElem?_set]
      by_cases hl : i < σ.length
      · rw [if_pos rfl, if_pos hl, List.getElem?_eq_getElem hl]
        rfl
      · rw [if_pos rfl, if_neg hl, List.getElem?_eq_none (by omega)]
    · rw [List.getElem?_set_ne e]
  · rw [if_neg hj, if_neg hj, List.getElem?_set_ne (fun e => hj (by rw [← e]; exact h))]
theorem wipe_wipe {vs : List Nat} {σ : L2.St} : L2.wipe (L2.wipe σ vs) vs = L2.wipe σ vs := by
  apply List.ext_getElem?
  intro j
  rw [wipe_get, wipe_get]
  by_cases hj : j ∈ vs
  · rw [if_pos hj, if_pos hj]
    cases σ[j]? <;> rfl
  · rw [if_neg hj, if_neg hj]
section
variable {K : PySem.W.Frag} {G0 G H G' H' : Hp} {H0 : B0} {ρ : Env} {σ : L2.St} {L : Lb} {v : V} {d : D}
theorem SR.wipe (s : SR K G0 H0 ρ σ G H L) (vs : List Nat) : SR K G0 ⟨H0.h, fun j => (L2.wipe σ vs)[j]?⟩ (ρ.wipe vs) (L2.wipe σ vs) G H L where
  fx := fun _ _ => rfl
  gh := s.gh
  g0 := s.g0
  h0 := s.h0
  gnew := s.gnew
  lab := s.lab
  len := by rw [L2.wipe_length, ewipe_len, s.len]
  slot := fun i d k e => by
    rw [ewipe_get] at e
    by_cases hi : i ∈ vs
    · rw [if_pos hi] at e
      cases q : ρ[i]? <;> rw [q] at e <;> cases e
    · rw [if_neg hi] at e
      obtain ⟨v, e1, r⟩ := s.slot i d k e
      exact ⟨v, by rw [wipe_get, if_neg hi]; exact e1, r⟩
theorem SR.set (s : SR K G0 H0 ρ σ G H L) (i : Nat) (r : Rep K G v d) : SR K G0 H0 (ρ.set i (sv d)) (σ.set i (some v)) G H L where
  fx := fun j q => by
    by_cases h : i = j
    · subst h
      rw [List.getElem?_set] at q
      by_cases hl : i < ρ.length
      · rw [if_pos rfl, if_pos hl] at q
        have q2 := Option.some.inj q
        cases q2
      · rw [if_pos rfl, if_neg hl] at q
        cases q
    · rw [List.getElem?_set_ne h] at q ⊢
      exact s.fx j q
  gh := s.gh
  g0 := s.g0
  h0 := s.h0
  gnew := s.gnew
  lab := s.lab
  len := by rw [List.length_set, List.length_set, s.len]
  slot := fun j e k q => by
    by_cases h : i = j
    · subst h
      rw [List.getElem?_set] at q
      by_cases hl : i < ρ.length
      · rw [if_pos rfl, if_pos hl] at q
        have q2 : (d, 0) = (e, k) := Option.some.inj (Option.some.inj q)
        cases q2
        exact ⟨v, by rw [List.getElem?_set_self (by rw [s.len]; exact hl)], r⟩
      · rw [if_pos rfl, if_neg hl] at q
        cases q
    · rw [List.getElem?_set_ne h] at q
      obtain ⟨w, e1, r1⟩ := s.slot j e k q
      exact ⟨w, by rw [List.getElem?_set_ne h]; exact e1, r1⟩
/-- a thing of ours that nobody else holds comes to stand still -/
theorem SR.adopt (s : SR K G0 H0 ρ σ G H L) {p : Addr} {o : HO} (hp : H p = some o) (h0 : H0 p = none) (hg : G p = none) (hl : L p = none) : SR K G0 H0 ρ σ (upd G p o) H L where
  fx := s.fx
  gh := fun a x e => by
    by_cases h : a = p
    · subst h
      rw [upd_same] at e
      rw [← e]
      exact hp
    · rw [upd_ne h] at e
      exact s.gh _ _ e
  g0 := s.g0.trans (same_new hg)
  h0 := s.h0
  gnew := fun a x e => by
    by_cases h : a = p
    · subst h
      exact .inr h0
    · rw [upd_ne h] at e
      exact s.gnew _ _ e
  lab := fun a q e => by
    obtain ⟨h1, h2⟩ := s.lab a q e
    refine ⟨?_, h2⟩
    rw [upd_ne (fun z => by rw [z, hl] at e; cases e)]
    exact h1
  len := s.len
  slot := fun i d k e => by
    obtain ⟨v, e1, r⟩ := s.slot i d k e
    exact ⟨v, e1, Own.mono (same_new hg) (Same.refl H) (fun _ _ q => q) r⟩
end

/-! ### targets -/
def gNames : List Nat → TGs
  | [] => gNil
  | i :: is => gCons (gName i) (gNames is)
def gTg (K : PySem.W.Frag) : Tg → TG
  | .name i => gName i
  | .names is => fun v σ H Q => gTup K is.length (gNames is) v σ H Q ∨ gUnl K is.length (gNames is) v σ H Q
def Tg.slots : Tg → List Nat
  | .name i => [i]
  | .names is => is
section
variable {K : PySem.W.Frag} {G0 G H : Hp} {H0 : B0} {ρ ρ1 : Env} {σ : L2.St} {L : Lb} {v : V} {d : D} {Q : L2.St → Hp → Prop}
theorem gNames_of : ∀ {is : List Nat} {xs : List V} {ds : List D} {ρ : Env} {σ : L2.St}, SR K G0 H0 ρ σ G H L → RepAll K G xs ds → setAll is ds ρ = some ρ1 →
    (∀ σ1, SR K G0 H0 ρ1 σ1 G H L → (∀ vs : List Nat, (∀ i ∈ is, i ∈ vs) → L2.wipe σ1 vs = L2.wipe σ vs) → Q σ1 H) → gNames is xs σ H Q
  | [], xs, ds, ρ, σ, s, r, e, k => by
    cases r with
    | nil =>
      have e : ρ = ρ1 := Option.some.inj e
      subst e
      exact ⟨rfl, k σ s fun _ _ => rfl⟩
    | cons => cases e
  | i :: is, xs, ds, ρ, σ, s, r, e, k => by
    cases r with
    | nil => cases e
    | @cons x xs d ds h r =>
      exact ⟨x, xs, rfl, gNames_of (s.set i h) r e fun σ1 s1 w => k σ1 s1 fun vs hv => by
        rw [w vs fun j hj => hv j (List.mem_cons_of_mem _ hj), wipe_set (hv i List.mem_cons_self)]⟩
theorem setAll_len : ∀ {is : List Nat} {ds : List D} {ρ : Env}, setAll is ds ρ = some ρ1 → ds.length = is.length
  | [], [], _, _ => rfl
  | [], _ :: _, _, e => by cases e
  | _ :: _, [], _, e => by cases e
  | _ :: is, _ :: ds, _, e => by rw [List.length_cons, List.length_cons, setAll_len (is := is) (ds := ds) e]
theorem gTg_of {t : Tg} (s : SR K G0 H0 ρ σ G H L) (r : Rep K G v d) (e : t.set d ρ = .ok ρ1)
    (k : ∀ σ1, SR K G0 H0 ρ1 σ1 G H L → (∀ vs : List Nat, (∀ i ∈ t.slots, i ∈ vs) → L2.wipe σ1 vs = L2.wipe σ vs) → Q σ1 H) : gTg K t v σ H Q := by
  cases t with
  | name i =>
    have e := R.ok.inj e
    subst e
    exact k _ (s.set i r) fun vs hv => wipe_set (hv i (List.mem_singleton.mpr rfl))
  | names is =>
    cases r with
    | @lst a xs ds q ra =>
      have e := orBad_ok e
      exact .inr ⟨a, xs, rfl, s.gh.seq q, by rw [ra.length, setAll_len e], gNames_of s ra e k⟩
    | @tup a xs ds q ra =>
      have e := orBad_ok e
      exact .inl ⟨a, xs, rfl, sqT_same s.gh q, by rw [ra.length, setAll_len e], gNames_of s ra e k⟩
    | _ => cases e
end
/-- a name that a def or block may store -/
def tgN (sc : Scope) (x : Str) : Bool := decide (sc.names.lookup x = some .local) || decide (sc.names.lookup x = some .cell)
def pName : Expr → Option Str
  | .Name x _ => some x
  | _ => none
theorem pName_ok {e : Expr} {x : Str} (h : pName e = some x) : ∃ p, e = .Name x p := by
  cases e <;> first | (cases h; done) | exact ⟨_, by rw [← Option.some.inj h]⟩
def pTuple : Expr → Option (List Expr)
  | .Tuple es _ _ => some es
  | _ => none
theorem pTuple_ok {e : Expr} {x : List Expr} (h : pTuple e = some x) : ∃ k p, e = .Tuple x k p := by
  cases e <;> first | (cases h; done) | exact ⟨_, _, by rw [← Option.some.inj h]⟩
def nameOk (N : List Str) (sc : Scope) (i : Nat) (e : Expr) : Bool := match pName e with
  | some x => decide (N[i]? = some x) && tgN sc x
  | none => false
def chkNames (N : List Str) (sc : Scope) : List Nat → List Expr → Bool
  | [], [] => true
  | i :: is, e :: es => nameOk N sc i e && chkNames N sc is es
  | _, _ => false
def chkTg (N : List Str) (sc : Scope) : Tg → Expr → Bool
  | .name i, e => nameOk N sc i e
  | .names is, e => match pTuple e with
    | some es => chkNames N sc is es
    | none => false
section
variable {X : Cx} {sc : Scope}
/-- the names that sc says may be stored here may be -/
def TgOk (X : Cx) (sc : Scope) : Prop := ∀ x, tgN sc x = true → Loc X.env.scope x ∧ (X.fn x = true ∨ X.env.scope.names.lookup x = some .local)
theorem pg_nm (hN : X.N.Nodup) (ok : TgOk X sc) {i : Nat} {e : Expr} (h : nameOk X.N sc i e = true) : PG X e (gName i) := by
  unfold nameOk at h
  cases q : pName e with
  | none => rw [q] at h; cases h
  | some x =>
    rw [q, Bool.and_eq_true] at h
    obtain ⟨p, rfl⟩ := pName_ok q
    obtain ⟨h1, h2⟩ := ok x h.2
    exact pg_name hN (of_decide_eq_true h.1) h1 h2
theorem pgs_nms (hN : X.N.Nodup) (ok : TgOk X sc) : ∀ {is : List Nat} {es : List Expr}, chkNames X.N sc is es = true →
    PGs X es (gNames is) ∧ (assignEach es X.env).length = is.length ∧ (assignEach es X.env).findIdx? (·.1) = none
  | [], [], _ => ⟨pgs_nil, rfl, rfl⟩
  | [], _ :: _, h => by cases h
  | _ :: _, [], h => by cases h
  | i :: is, e :: es, h => by
    have h : (nameOk X.N sc i e && chkNames X.N sc is es) = true := h
    rw [Bool.and_eq_true] at h
    obtain ⟨a, b, c⟩ := pgs_nms hN ok h.2
    have hp := pg_nm hN ok h.1
    have hn : ∃ x p, e = .Name x p := by
      have h1 := h.1
      unfold nameOk at h1
      cases q : pName e with
      | none => rw [q] at h1; cases h1
      | some x =>
        obtain ⟨p, e1⟩ := pName_ok q
        exact ⟨x, p, e1⟩
    obtain ⟨x, p, rfl⟩ := hn
    have ea : assignEach (.Name x p :: es) X.env = (false, assign (.Name x p) X.env) :: assignEach es X.env := rfl
    refine ⟨pgs_cons hp a, ?_, ?_⟩
    · rw [ea, List.length_cons, b, List.length_cons]
    · rw [ea, List.findIdx?_cons, c]
      rfl
theorem pg_tg (hc : X.calm = true) (hN : X.N.Nodup) (ok : TgOk X sc) {t : Tg} {e : Expr} (h : chkTg X.N sc t e = true) : PG X e (gTg X.K t) := by
  cases t with
  | name i => exact pg_nm hN ok h
  | names is =>
    have h : (match pTuple e with | some es => chkNames X.N sc is es | none => false) = true := h
    cases q : pTuple e with
    | none => rw [q] at h; cases h
    | some es =>
      rw [q] at h
      obtain ⟨k, p, rfl⟩ := pTuple_ok q
      obtain ⟨a, b, c⟩ := pgs_nms hN ok h
      have one := pg_tup (pos := p) (k := k) hc a b c
      have two := pg_unl (pos := p) (k := k) hc a b c
      refine ⟨fun pins s σ H v u Q I r hw => ?_⟩
      rcases hw with hw | hw
      · exact one.run pins s σ H v u Q I r hw
      · exact two.run pins s σ H v u Q I r hw
end

/-! ### walks -/
inductive Yl (K : PySem.W.Frag) (W H : Hp) (x : V) (H' : Hp) (d : D) : Prop
  | same : H' = H → Rep K W x d → Yl K W H x H' d
  | new {T : Addr} {xs : List V} {es : List D} : H T = none → H' = upd H T (.tup xs) → x = .ref T → d = .tup es → RepAll K W xs es → Yl K W H x H' d
structure Wk (K : PySem.W.Frag) (J : It) (Sd : Hp → Prop) (W : Hp) (ds : List D) : Prop where
  mono : ∀ H H', Same H H' → Sd H → Sd H'
  go : ∀ i H, Sd H → i < ds.length → J.go i H
  stop : ∀ i H, Sd H → ds.length ≤ i → J.stop i H
  yl : ∀ i H x H', Sd H → i < ds.length → J.yld i H x H' → ∃ d, ds[i]? = some d ∧ Yl K W H x H' d
def tIv (K : PySem.W.Frag) (G0 : Hp) (H0 : B0) (ρ : Env) (r : R V3) : TI := fun σ H Q => ∃ G L, SR K G0 H0 ρ σ G H L ∧ ∃ x ds, r = .ok x ∧ items x.d = .ok ds ∧
  ∀ J Sd H' G', SR K G0 H0 ρ σ G' H' L → Same G G' → Same H H' → Sd (wld G' H' L x.s) → Wk K J Sd (wld G' H' L x.t) ds → Q J H'
section
variable {K : PySem.W.Frag} {W H : Hp} {a : Addr} {xs : List V} {ds : List D}
theorem wk_list (r : RepAll K W xs ds) : Wk K (Itl K a) (fun H => SqL K H a xs) W ds where
  mono := fun H H' s h => s.seq h
  go := fun i H h hi => ⟨xs, xs[i]'(by rw [r.length]; exact hi), h, by simp [r.length, hi]⟩
  stop := fun i H h hi => ⟨xs, h, by rw [r.length]; exact hi⟩
  yl := fun i H x H' h hi y => by
    obtain ⟨e, y⟩ := y
    obtain ⟨d, e1, e2⟩ := r.at (y xs h)
    exact ⟨d, e1, .same e e2⟩
theorem wk_tup (r : RepAll K W xs ds) : Wk K (Itt K a) (fun H => SqT K H a xs) W ds where
  mono := fun H H' s h => sqT_same s h
  go := fun i H h hi => ⟨xs, xs[i]'(by rw [r.length]; exact hi), h, by simp [r.length, hi]⟩
  stop := fun i H h hi => ⟨xs, h, by rw [r.length]; exact hi⟩
  yl := fun i H x H' h hi y => by
    obtain ⟨e, y⟩ := y
    obtain ⟨d, e1, e2⟩ := r.at (y xs h)
    exact ⟨d, e1, .same e e2⟩
theorem upto_get {lo : Int} {n i : Nat} (h : i < n) : (upto lo n)[i]? = some (.int (lo + i)) := by
  unfold upto
  rw [List.getElem?_map, List.getElem?_range h]
  rfl
theorem upto_len {lo : Int} {n : Nat} : (upto lo n).length = n := by
  unfold upto
  rw [List.length_map, List.length_range]
theorem wk_rng {lo : Int} {n : Nat} : Wk K (Itr lo n) (fun _ => True) W (upto lo n) where
  mono := fun _ _ _ _ => trivial
  go := fun i H _ hi => by
    rw [upto_len] at hi
    exact hi
  stop := fun i H _ hi => by
    rw [upto_len] at hi
    exact hi
  yl := fun i H x H' _ hi y => by
    rw [upto_len] at hi
    exact ⟨_, upto_get hi, .same y.1 (by rw [y.2]; exact .int _)⟩
theorem enumD_get {i : Nat} {d : D} (h : ds[i]? = some d) : (enumD ds)[i]? = some (.tup [.int (i : Nat), d]) := by
  have hl : i < ds.length := (List.getElem?_eq_some_iff.mp h).1
  unfold enumD
  rw [List.getElem?_zipWith, List.getElem?_range hl, h]
theorem enumD_len : (enumD ds).length = ds.length := by
  unfold enumD
  rw [List.length_zipWith, List.length_range, Nat.min_self]
theorem wk_enum (r : RepAll K W xs ds) : Wk K (Ite K a) (fun H => SqL K H a xs) W (enumD ds) where
  mono := fun H H' s h => s.seq h
  go := fun i H h hi => by
    rw [enumD_len] at hi
    exact ⟨xs, xs[i]'(by rw [r.length]; exact hi), h, by simp [r.length, hi]⟩
  stop := fun i H h hi => ⟨xs, h, by rw [r.length, ← enumD_len (ds := ds)]; exact hi⟩
  yl := fun i H x H' h hi y => by
    obtain ⟨T, x', e, hT, eH, y⟩ := y
    obtain ⟨d, e1, e2⟩ := r.at (y xs h)
    exact ⟨_, enumD_get e1, .new hT eH e rfl (.cons (.int _) (.cons e2 .nil))⟩
theorem wk_enumT (r : RepAll K W xs ds) : Wk K (IteT K a) (fun H => SqT K H a xs) W (enumD ds) where
  mono := fun H H' s h => sqT_same s h
  go := fun i H h hi => by
    rw [enumD_len] at hi
    exact ⟨xs, xs[i]'(by rw [r.length]; exact hi), h, by simp [r.length, hi]⟩
  stop := fun i H h hi => ⟨xs, h, by rw [r.length, ← enumD_len (ds := ds)]; exact hi⟩
  yl := fun i H x H' h hi y => by
    obtain ⟨T, x', e, hT, eH, y⟩ := y
    obtain ⟨d, e1, e2⟩ := r.at (y xs h)
    exact ⟨_, enumD_get e1, .new hT eH e rfl (.cons (.int _) (.cons e2 .nil))⟩
theorem wk_rev (r : RepAll K W xs ds) : Wk K (Itv K a xs.length) (fun H => SqL K H a xs) W ds.reverse where
  mono := fun H H' s h => s.seq h
  go := fun i H h hi => by
    rw [List.length_reverse] at hi
    have hl := r.length
    have h1 : xs.length - 1 - i < xs.length := by omega
    exact ⟨by omega, xs, xs[xs.length - 1 - i], h, List.getElem?_eq_getElem h1⟩
  stop := fun i H h hi => by
    rw [List.length_reverse] at hi
    have hl := r.length
    show xs.length ≤ i
    omega
  yl := fun i H x H' h hi y => by
    rw [List.length_reverse] at hi
    have hl := r.length
    obtain ⟨e, y⟩ := y
    obtain ⟨d, e1, e2⟩ := r.at (y xs h)
    refine ⟨d, ?_, .same e e2⟩
    rw [List.getElem?_reverse hi, ← e1, hl]
theorem wk_revT (r : RepAll K W xs ds) : Wk K (RT.ItvT K a xs.length) (fun H => SqT K H a xs) W ds.reverse where
  mono := fun H H' s h => sqT_same s h
  go := fun i H h hi => by
    rw [List.length_reverse] at hi
    have hl := r.length
    have h1 : xs.length - 1 - i < xs.length := by omega
    exact ⟨by omega, xs, xs[xs.length - 1 - i], h, List.getElem?_eq_getElem h1⟩
  stop := fun i H h hi => by
    rw [List.length_reverse] at hi
    have hl := r.length
    show xs.length ≤ i
    omega
  yl := fun i H x H' h hi y => by
    rw [List.length_reverse] at hi
    have hl := r.length
    obtain ⟨e, y⟩ := y
    obtain ⟨d, e1, e2⟩ := r.at (y xs h)
    refine ⟨d, ?_, .same e e2⟩
    rw [List.getElem?_reverse hi, ← e1, hl]
end
end Mp

set_option Elab.async false
set_option linter.all false
set_option maxRecDepth 100000
set_option maxHeartbeats 4000000
/-! Mp6: chk: an expression of the small language stands for this syntax; what it then keeps. -/
namespace Mp
open PySem PySem.Spec PyProof.Rows L2

/-! ### syntax taken apart -/
def pConst : Expr → Option Const
  | .Constant c _ _ => some c
  | _ => none
theorem pConst_ok {e : Expr} {c : Const} (h : pConst e = some c) : ∃ k p, e = .Constant c k p := by
  cases e <;> first | (cases h; done) | exact ⟨_, _, by rw [← Option.some.inj h]⟩
def pBin : Expr → Option (Expr × Operator × Expr)
  | .BinOp a o b _ => some (a, o, b)
  | _ => none
theorem pBin_ok {e a b : Expr} {o : Operator} (h : pBin e = some (a, o, b)) : ∃ p, e = .BinOp a o b p := by
  cases e <;> first | (cases h; done) | (cases h; exact ⟨_, rfl⟩)
def pUn : Expr → Option (UnaryOp × Expr)
  | .UnaryOp o a _ => some (o, a)
  | _ => none
theorem pUn_ok {e a : Expr} {o : UnaryOp} (h : pUn e = some (o, a)) : ∃ p, e = .UnaryOp o a p := by
  cases e <;> first | (cases h; done) | (cases h; exact ⟨_, rfl⟩)
def pBool : Expr → Option (BoolOp × List Expr)
  | .BoolOp o es _ => some (o, es)
  | _ => none
theorem pBool_ok {e : Expr} {o : BoolOp} {es : List Expr} (h : pBool e = some (o, es)) : ∃ p, e = .BoolOp o es p := by
  cases e <;> first | (cases h; done) | (cases h; exact ⟨_, rfl⟩)
def pCmp : Expr → Option (Expr × List CmpOp × List Expr)
  | .Compare a os bs _ => some (a, os, bs)
  | _ => none
theorem pCmp_ok {e a : Expr} {os : List CmpOp} {bs : List Expr} (h : pCmp e = some (a, os, bs)) : ∃ p, e = .Compare a os bs p := by
  cases e <;> first | (cases h; done) | (cases h; exact ⟨_, rfl⟩)
def pIf : Expr → Option (Expr × Expr × Expr)
  | .IfExp c a b _ => some (c, a, b)
  | _ => none
theorem pIf_ok {e a b c : Expr} (h : pIf e = some (c, a, b)) : ∃ p, e = .IfExp c a b p := by
  cases e <;> first | (cases h; done) | (cases h; exact ⟨_, rfl⟩)
def pList : Expr → Option (List Expr)
  | .List es _ => some es
  | _ => none
theorem pList_ok {e : Expr} {es : List Expr} (h : pList e = some es) : ∃ p, e = .List es p := by
  cases e <;> first | (cases h; done) | (cases h; exact ⟨_, rfl⟩)
def pSub : Expr → Option (Expr × Expr)
  | .Subscript a b _ => some (a, b)
  | _ => none
theorem pSub_ok {e a b : Expr} (h : pSub e = some (a, b)) : ∃ p, e = .Subscript a b p := by
  cases e <;> first | (cases h; done) | (cases h; exact ⟨_, rfl⟩)
def pSlice : Expr → Option (Option Expr × Option Expr)
  | .Slice l h none _ => some (l, h)
  | _ => none
theorem pSlice_ok {e : Expr} {l h : Option Expr} (q : pSlice e = some (l, h)) : ∃ p, e = .Slice l h none p := by
  cases e with
  | Slice a b c p =>
    cases c with
    | none =>
      cases q
      exact ⟨_, rfl⟩
    | some _ => cases q
  | _ => cases q
/-- f(e, ..) -/
def pCall : Expr → Option (Str × Expr × List Expr)
  | .Call (.Name x _) (e :: es) [] _ => some (x, e, es)
  | _ => none
theorem pCall_ok {c e : Expr} {x : Str} {es : List Expr} (h : pCall c = some (x, e, es)) : ∃ p pos, c = .Call (.Name x p) (e :: es) [] pos := by
  unfold pCall at h
  split at h
  · cases h
    exact ⟨_, _, rfl⟩
  · cases h
/-- o.m(e, ..) on one line -/
def pMeth : Expr → Option (Expr × Str × Expr × List Expr)
  | .Call (.Attribute o m ap) (e :: es) [] cp => if (ap.endLine == cp.line) = true then some (o, m, e, es) else none
  | _ => none
theorem pMeth_ok {c o e : Expr} {m : Str} {es : List Expr} (h : pMeth c = some (o, m, e, es)) : ∃ ap cp, c = .Call (.Attribute o m ap) (e :: es) [] cp ∧ (ap.endLine == cp.line) = true := by
  unfold pMeth at h
  split at h
  · split at h
    · cases h
      exact ⟨_, _, rfl, ‹_›⟩
    · cases h
  · cases h
def pLC : Expr → Option (Expr × Expr × Expr × List Expr × Scope)
  | .ListComp elt [⟨tg, iter, ifs, 0⟩] sc _ => some (elt, tg, iter, ifs, sc)
  | _ => none
theorem pLC_ok {c elt tg iter : Expr} {ifs : List Expr} {sc : Scope} (h : pLC c = some (elt, tg, iter, ifs, sc)) : ∃ p, c = .ListComp elt [⟨tg, iter, ifs, 0⟩] sc p := by
  unfold pLC at h
  split at h
  · cases h
    exact ⟨_, rfl⟩
  · cases h

/-! ### the check -/
structure Tb where
  N : List Str
  fn : List Str
  con : List (Str × Int)
/-- what is asked: an expression, the rest of an and | or, arguments, what a loop with this target walks -/
inductive Ag where
  | ex (e : Expr)
  | bo (o : BoolOp) (es : List Expr)
  | args (es : List Expr)
  | it (e tg : Expr)
def Ag.e : Ag → Option Expr
  | .ex e => some e
  | .bo _ [e] => some e
  | .it e _ => some e
  | _ => none
/-- the first of an and | or and its rest -/
def Ag.b (o : BoolOp) : Ag → Option (Expr × Expr × List Expr)
  | .bo p (a :: b :: r) => if p = o then some (a, b, r) else none
  | .bo _ [e] => (match pBool e with
    | some (p, a :: b :: r) => if p = o then some (a, b, r) else none
    | _ => none)
  | .ex e => (match pBool e with
    | some (p, a :: b :: r) => if p = o then some (a, b, r) else none
    | _ => none)
  | _ => none
def visN (sc : Scope) (x : Str) : Bool := (decide (sc.names.lookup x = some .local) || decide (sc.names.lookup x = some .cell) || decide (sc.names.lookup x = some .free)) && !(x == "__debug__") && !(x == "__classdict__")
def glN (sc : Scope) (x : Str) : Bool := decide (sc.names.lookup x = some .globalImplicit) && !(x == "__debug__")
def isNon : M → Bool
  | .con .non => true
  | _ => false
def ownN (N : List Str) (own : List Nat) : List (Str × Nat) := own.map fun i => (N.getD i "", i)
section
variable (T : Tb)
def conOk (d : D) (sc : Scope) (e : Expr) : Bool := match pConst e with
  | some c => (match d, c with
    | .non, .none => true
    | .bl b, .bool c => b == c
    | .int i, .int j => decide (i = j)
    | .str x, .str y => decide (x = y)
    | _, _ => false)
  | none => (match pName e, d with
    | some x, .int i => decide (T.con.lookup x = some i) && glN sc x
    | _, _ => false)
def tyOk (sc : Scope) (t : Ty) (e : Expr) : Bool := match pName e with
  | some x => decide (x = Str.ofString (tyS t)) && glN sc x
  | none => false
def tysOk (sc : Scope) : List Ty → List Expr → Bool
  | [], [] => true
  | t :: ts, e :: es => okE e && tyOk sc t e && tysOk sc ts es
  | _, _ => false
def chk : M → Scope → Ag → Bool
  | .var i, sc, g => (match g.e with
    | some e => (match pName e with
      | some x => decide (T.N[i]? = some x) && visN sc x
      | none => false)
    | none => false)
  | .con d, sc, g => (match g.e with
    | some e => conOk T d sc e
    | none => false)
  | .bin o a b, sc, g => (match g.e.bind pBin with
    | some (x, p, y) => decide (p = opOf o) && chk a sc (.ex x) && chk b sc (.ex y)
    | none => false)
  | .neg a, sc, g => (match g.e.bind pUn with
    | some (p, x) => decide (p = .USub) && chk a sc (.ex x)
    | none => false)
  | .not a, sc, g => (match g.e.bind pUn with
    | some (p, x) => decide (p = .Not) && chk a sc (.ex x)
    | none => false)
  | .and a b, sc, g => (match g.b .And with
    | some (x, y, r) => chk a sc (.ex x) && chk b sc (.bo .And (y :: r))
    | none => false)
  | .or a b, sc, g => (match g.b .Or with
    | some (x, y, r) => chk a sc (.ex x) && chk b sc (.bo .Or (y :: r))
    | none => false)
  | .cmp o a b, sc, g => (match g.e.bind pCmp with
    | some (x, [p], [y]) => decide (p = copOf o) && okE y && chk a sc (.ex x) && chk b sc (.ex y)
    | _ => false)
  | .chain o p a b c, sc, g => (match g.e.bind pCmp with
    | some (x, [o', p'], [y, z]) => decide (o' = copOf o) && decide (p' = copOf p) && okE z && chk a sc (.ex x) && chk b sc (.ex y) && chk c sc (.ex z)
    | _ => false)
  | .ite c a b, sc, g => (match g.e.bind pIf with
    | some (z, x, y) => chk c sc (.ex z) && chk a sc (.ex x) && chk b sc (.ex y)
    | none => false)
  | .nil, _, g => (match g with
    | .args [] => true
    | _ => false)
  | .cons a r, sc, g => (match g with
    | .args (e :: es) => okE e && chk a sc (.ex e) && chk r sc (.args es)
    | _ => false)
  | .lst es, sc, g => (match g.e.bind pList with
    | some xs => chk es sc (.args xs)
    | none => false)
  | .tup es, sc, g => (match g.e.bind pTuple with
    | some xs => chk es sc (.args xs)
    | none => false)
  | .ix a b, sc, g => (match g.e.bind pSub with
    | some (x, y) => okE y && chk a sc (.ex x) && chk b sc (.ex y)
    | none => false)
  | .sl a lo hi, sc, g => (match g.e.bind pSub with
    | some (x, y) => (match pSlice y with
      | some (l, h) => chk a sc (.ex x) && (match l with
          | none => isNon lo
          | some l => !isNon lo && chk lo sc (.ex l)) && (match h with
          | none => isNon hi
          | some h => !isNon hi && chk hi sc (.ex h))
      | none => false)
    | none => false)
  | .isi a ts, sc, g => (match g.e.bind pCall with
    | some (f, x, [t]) => decide (f = "isinstance") && glN sc f && okE x && okE t && chk a sc (.ex x) && decide (ts.length ≤ 100) && (match pTuple t with
      | some es => tysOk sc ts es
      | none => false)
    | _ => false)
  | .isi1 a t, sc, g => (match g.e.bind pCall with
    | some (f, x, [y]) => decide (f = "isinstance") && glN sc f && okE x && okE y && chk a sc (.ex x) && tyOk sc t y
    | _ => false)
  | .bf f es, sc, g => (match g.e.bind pCall with
    | some (x, e, r) => decide (x = bfN f) && glN sc x && okE e && r.all okE && chk es sc (.args (e :: r))
    | none => false)
  | .call f es, sc, g => (match g.e.bind pCall with
    | some (x, e, r) => decide (T.fn[f]? = some x) && glN sc x && okE e && r.all okE && chk es sc (.args (e :: r))
    | none => false)
  | .lc e t own it, sc, g => (match g.e.bind pLC with
    | some (elt, tg, iter, [], cs) => okE iter && blkC T.N sc cs (ownN T.N own) && chkTg T.N cs t tg && t.slots.all (fun i => own.contains i) && chk it sc (.it iter tg) && chk e (relS cs sc) (.ex elt)
    | _ => false)
  | .lcIf e t own it c, sc, g => (match g.e.bind pLC with
    | some (elt, tg, iter, [k], cs) => okE iter && blkC T.N sc cs (ownN T.N own) && chkTg T.N cs t tg && t.slots.all (fun i => own.contains i) && chk it sc (.it iter tg) && chk e (relS cs sc) (.ex elt) && chk c (relS cs sc) (.ex k)
    | _ => false)
  | .index a b, sc, g => (match g.e.bind pMeth with
    | some (o, m, e, []) => decide (m = "index") && okE e && chk a sc (.ex o) && chk b sc (.ex e) && ((pName o).isSome || (pCall o).isSome)
    | _ => false)
  | .rng1 a, sc, g => (match g with
    | .it e _ => (match pCall e with
      | some (f, x, []) => decide (f = "range") && glN sc f && okE x && chk a sc (.ex x)
      | _ => false)
    | _ => false)
  | .rng2 a b, sc, g => (match g with
    | .it e _ => (match pCall e with
      | some (f, x, [y]) => decide (f = "range") && glN sc f && okE x && okE y && chk a sc (.ex x) && chk b sc (.ex y)
      | _ => false)
    | _ => false)
  | .enum a, sc, g => (match g with
    | .it e tg => (match pCall e with
      | some (f, x, []) => decide (f = "enumerate") && glN sc f && okE x && (pTuple tg).isSome && chk a sc (.ex x)
      | _ => false)
    | _ => false)
  | .zip a b, sc, g => (match g with
    | .it e tg => (match pCall e with
      | some (f, x, [y]) => decide (f = "zip") && glN sc f && okE x && okE y && (pTuple tg).isSome && chk a sc (.ex x) && chk b sc (.ex y)
      | _ => false)
    | _ => false)
  | .rev a, sc, g => (match g with
    | .it e _ => (match pCall e with
      | some (f, x, []) => decide (f = "reversed") && glN sc f && okE x && chk a sc (.ex x)
      | _ => false)
    | _ => false)
end

/-! ### what a context offers; what a piece keeps -/
def bltAll : List Str := ["len", "int", "sum", "max", "min", "list", "tuple", "abs", "bool", "str", "range", "enumerate", "zip", "reversed", "isinstance"]
def spF (K : PySem.W.Frag) (n : Nat) (F : Fn) : Sp := fun vs H Q _ => ∃ (G : Hp) (ds : List D) (r : D × Nat), vs.length = n ∧ Same G H ∧ RepAll K G vs ds ∧ F ds = .ok r ∧
  ∀ (v : V) (H' G' : Hp) (L' : Lb), Same H H' → Same G G' → Same G' H' → (∀ a o, G' a = some o → G a = some o ∨ H a = none) →
    (∀ a p, L' a = some p → G' a = none ∧ H a = none ∧ (∃ o, H' a = some o) ∧ ∃ t, p = 0 :: t) → Own K G' H' L' r.2 [0] v r.1 → Q v H'
structure Cn (T : Tb) (Φ : Nat → Fn) (k : Nat) (X : Cx) : Prop where
  N : X.N = T.N
  calm : X.calm = true
  nd : X.N.Nodup
  room : Room k X.A
  blt : ∀ x ∈ bltAll, X.mg x = none
  con : ∀ x i, T.con.lookup x = some i → ∃ t, X.mg x = some (.int i t)
  fns : ∀ j x, T.fn[j]? = some x → ∃ f fd ps, X.mg x = some (.ref f) ∧ PySem.W.keepIn X.K (.ref f) = true ∧ Binds X.K fd ps [] ∧ FnOk X.prog X.w X.K X.mg X.base CX0 k f fd ps (spF X.K ps.length (Φ j)) ∧ ∀ ds r, Φ j ds = .ok r → ds.length = ps.length
def Goal (Φ : Nat → Fn) (X : Cx) (m : M) : Ag → Prop
  | .ex e => ∀ G0 H0 ρ, PE X e (tEv X.K G0 H0 ρ (ev Φ m ρ)) ∧ PT X e (tTst X.K G0 H0 ρ (tst Φ m ρ))
  | .bo o es => ∀ pos G0 H0 ρ, PE X (.BoolOp o es pos) (tEv X.K G0 H0 ρ (ev Φ m ρ)) ∧ PW X (.BoolOp o es pos) (tTst X.K G0 H0 ρ (tst Φ m ρ))
  | .args es => ∀ G0 H0 ρ, PA X es (tEvs X.K G0 H0 ρ (evs Φ m ρ))
  | .it e tg => ∀ G0 H0 ρ, PI X tg e (tIv X.K G0 H0 ρ (ev Φ m ρ))
def Sound (T : Tb) (Φ : Nat → Fn) (k : Nat) (m : M) : Prop := ∀ (X : Cx) (sc : Scope) (g : Ag), Cn T Φ k X → X.env.scope = sc → chk T m sc g = true → Goal Φ X m g
section
variable {T : Tb} {Φ : Nat → Fn} {k : Nat} {X : Cx} {m : M} {e : Expr}
/-- a test of a value by its truth -/
theorem pt_of {G0 : Hp} {H0 : B0} {ρ : Env} (h : PE X e (tEv X.K G0 H0 ρ (ev Φ m ρ))) (p : plainT e = true) : PT X e (tTst X.K G0 H0 ρ (tst Φ m ρ)) := by
  refine pt_imp (pt_truth h (plain_ok p X.env)) fun σ H Q h => ?_
  obtain ⟨G, L, sr, b, e1, k⟩ := h
  obtain ⟨x, ex, e2⟩ := R.of_bind e1
  exact ⟨G, L, sr, x, ex, fun v H' G' sr' g h r => ⟨b, truV_of (RepW.h sr' r) e2, k H' G' sr' g h⟩⟩
/-- walked as a list or tuple -/
theorem pi_of {G0 : Hp} {H0 : B0} {ρ : Env} {tg : Expr} (h : PE X e (tEv X.K G0 H0 ρ (ev Φ m ρ))) : PI X tg e (tIv X.K G0 H0 ρ (ev Φ m ρ)) := by
  refine pi_imp (pi_seq h) fun σ H Q h => ?_
  obtain ⟨G, L, sr, x, ds, ex, ei, k⟩ := h
  refine ⟨G, L, sr, x, ex, fun v H' G' sr' g h r => ?_⟩
  obtain ⟨d, s, t⟩ := x
  cases d with
  | lst es =>
    have ei := R.ok.inj ei
    subst ei
    obtain ⟨a, xs, e1, q, _, ra⟩ := r
    exact ⟨a, e1, .inl ⟨⟨xs, sr'.wldH.seq q⟩, k _ (fun H => SqL X.K H a xs) H' G' sr' g h q (wk_list ra)⟩⟩
  | tup es =>
    have ei := R.ok.inj ei
    subst ei
    obtain ⟨a, xs, e1, q, _, _, ra⟩ := r
    exact ⟨a, e1, .inr ⟨⟨xs, sqT_same sr'.wldH q⟩, k _ (fun H => SqT X.K H a xs) H' G' sr' g h q (wk_tup ra)⟩⟩
  | _ => cases ei
end
end Mp

set_option Elab.async false
set_option linter.all false
set_option maxRecDepth 100000
set_option maxHeartbeats 4000000
/-! Mp7: each form of expression keeps what chk says. -/
namespace Mp
open PySem PySem.Spec PyProof.Rows L2
section
variable {T : Tb} {Φ : Nat → Fn} {k : Nat} {X : Cx} {m a b c : M} {e : Expr} {g : Ag}

theorem lift (h : ∀ G0 H0 ρ, PE X e (tEv X.K G0 H0 ρ (ev Φ m ρ)) ∧ PT X e (tTst X.K G0 H0 ρ (tst Φ m ρ))) (hg : g.e = some e) : Goal Φ X m g := by
  cases g with
  | ex e' =>
    cases hg
    exact h
  | bo o es =>
    match es, hg with
    | [e'], hg =>
      cases hg
      intro pos G0 H0 ρ
      refine ⟨pe_one (h G0 H0 ρ).1, ?_⟩
      cases o with
      | And => exact pw_and1 (h G0 H0 ρ).2
      | Or => exact pw_or1 (h G0 H0 ρ).2
    | [], hg => cases hg
    | _ :: _ :: _, hg => cases hg
  | args es => cases hg
  | it e' tg =>
    cases hg
    exact fun G0 H0 ρ => pi_of (h G0 H0 ρ).1
/-- .. whose test is by truth -/
theorem liftP (h : ∀ G0 H0 ρ, PE X e (tEv X.K G0 H0 ρ (ev Φ m ρ))) (p : plainT e = true) (hg : g.e = some e) : Goal Φ X m g :=
  lift (fun G0 H0 ρ => ⟨h G0 H0 ρ, pt_of (h G0 H0 ρ) p⟩) hg
theorem of_bindE {α : Type} {f : Expr → Option α} {o : Option Expr} {z : α} (h : o.bind f = some z) : ∃ e, o = some e ∧ f e = some z := by
  cases o with
  | none => cases h
  | some e => exact ⟨e, rfl, h⟩
theorem and2 {p q : Bool} (h : (p && q) = true) : p = true ∧ q = true := by
  rwa [Bool.and_eq_true] at h
theorem gl_of {sc : Scope} {x : Str} (hs : X.env.scope = sc) (h : glN sc x = true) : Gl X x ∧ (x == ("__debug__" : Str)) = false := by
  obtain ⟨h1, h2⟩ := and2 h
  refine ⟨?_, by simpa using h2⟩
  show X.env.scope.names.lookup x = _
  rw [hs]
  exact of_decide_eq_true h1

/-! ### names, constants -/
theorem snd_var (i : Nat) : Sound T Φ k (.var i) := fun X sc g C hs h => by
  unfold chk at h
  cases hg : g.e with
  | none => rw [hg] at h; cases h
  | some e =>
    rw [hg] at h
    dsimp only at h
    cases hx : pName e with
    | none => rw [hx] at h; cases h
    | some x =>
      rw [hx] at h
      obtain ⟨h1, h2⟩ := and2 h
      obtain ⟨h2, h4⟩ := and2 h2
      obtain ⟨h2, h3⟩ := and2 h2
      obtain ⟨p, rfl⟩ := pName_ok hx
      refine liftP (fun G0 H0 ρ => ?_) rfl hg
      have hv : Vis X.env.scope x := by
        rw [hs]
        rw [Bool.or_eq_true, Bool.or_eq_true] at h2
        rcases h2 with (h2 | h2) | h2
        · exact .inl (of_decide_eq_true h2)
        · exact .inr (.inl (of_decide_eq_true h2))
        · exact .inr (.inr (of_decide_eq_true h2))
      refine pe_imp (pe_var (i := i) (by rw [C.N]; exact of_decide_eq_true h1) hv (by simpa using h3) (by simpa using h4)) fun σ H Q q => ?_
      obtain ⟨G, L, sr, x, ex, k⟩ := q
      obtain ⟨d, e1, e2⟩ := R.of_bind ex
      have e2 := R.ok.inj e2
      subst e2
      unfold Env.val at e1
      split at e1
      · rename_i d' n q
        cases e1
        obtain ⟨v, e3, o⟩ := sr.slot i d n q
        refine ⟨v, e3, Go.here sr k ?_⟩
        have hd : ρ.dep i = if n = 0 then [] else [i] := by
          unfold Env.dep
          rw [q]
          cases n <;> rfl
        have hd1 : ρ.dep1 i = if n ≤ 1 then [] else [i] := by
          unfold Env.dep1
          rw [q]
        show RepW X.K (wld G H L (dp d (ρ.dep i))) (wld G H L (dp d (ρ.dep1 i))) v d
        cases ha : atomic d with
        | true =>
          cases n with
          | zero => exact RepW.flat (W := G) o ha
          | succ n =>
            obtain ⟨a, xs, ds, _, ed, _⟩ := o
            rw [ed] at ha
            cases ha
        | false =>
          have ed : ∀ s, dp d s = s := fun s => by
            unfold dp
            rw [ha]
            rfl
          rw [ed, ed, hd, hd1]
          cases n with
          | zero =>
            rw [if_pos rfl, if_pos (Nat.zero_le 1), sr.wld0]
            exact RepW.one o
          | succ n =>
            rw [if_neg (Nat.succ_ne_zero n)]
            have w : ∀ a p', L a = some p' → p'.head? = [i].head? → [i] ≠ [] → ∀ o, H a = some o → wld G H L [i] a = some o := fun a p' hl hh _ o ho => by
              cases p' with
              | nil => cases hh
              | cons j t =>
                have ej : j = i := Option.some.inj hh
                subst ej
                rw [wld_in hl inS_one]
                exact ho
            obtain ⟨a, xs, ds, ev, ed, eh, el, ra⟩ := Own.items sr.gwld w (by simp) o
            obtain ⟨a2, xs2, ds2, ev2, ed2, eh2, _, elen, its⟩ := o
            subst ev ed
            cases ev2
            cases ed2
            rw [eh] at eh2
            cases eh2
            refine ⟨a, xs, rfl, SqL.of (w a _ el rfl (by simp) _ eh), ra, ?_⟩
            cases n with
            | zero =>
              rw [if_pos (Nat.le_refl 1), sr.wld0]
              exact repAll_of elen fun j x e q1 q2 => its j x e q1 q2
            | succ n =>
              rw [if_neg (by omega)]
              exact ra
      · cases e1
theorem snd_con (d : D) : Sound T Φ k (.con d) := fun X sc g C hs h => by
  unfold chk at h
  cases hg : g.e with
  | none => rw [hg] at h; cases h
  | some e =>
    rw [hg] at h
    have h : conOk T d sc e = true := h
    unfold conOk at h
    have fin : ∀ {v : V}, atomic d = true → (∀ W, Rep X.K W v d) → PE X e (tC v) → plainT e = true → Goal Φ X (.con d) g := fun {v} ha hr hp pt => liftP (fun G0 H0 ρ => pe_imp hp fun σ H Q q => by
      obtain ⟨G, L, sr, x, ex, k⟩ := q
      have e2 := R.ok.inj ex
      subst e2
      exact Go.here sr k (RepV.at (W := G) (hr G) ha)) pt hg
    cases hc : pConst e with
    | some c =>
      rw [hc] at h
      obtain ⟨k', p, rfl⟩ := pConst_ok hc
      cases d with
      | non =>
        cases c <;> first | (cases h; done) | skip
        exact fin rfl (fun _ => .non) pe_non rfl
      | bl b =>
        cases c with
        | bool b' =>
          have e : b = b' := by simpa using h
          subst e
          exact fin rfl (fun _ => .bl _) pe_bl rfl
        | _ => cases h
      | int i =>
        cases c with
        | int i' =>
          have e : i = i' := of_decide_eq_true h
          subst e
          exact fin rfl (fun _ => .int _) pe_int rfl
        | _ => cases h
      | str x =>
        cases c with
        | str x' =>
          have e : x = x' := of_decide_eq_true h
          subst e
          exact fin rfl (fun _ => .str _) pe_str rfl
        | _ => cases h
      | lst _ => cases c <;> cases h
      | tup _ => cases c <;> cases h
    | none =>
      rw [hc] at h
      cases hx : pName e with
      | none => rw [hx] at h; cases h
      | some x =>
        rw [hx] at h
        cases d with
        | int i =>
          obtain ⟨h1, h2⟩ := and2 h
          obtain ⟨p, rfl⟩ := pName_ok hx
          obtain ⟨g1, g2⟩ := gl_of hs h2
          obtain ⟨t, ht⟩ := C.con x i (of_decide_eq_true h1)
          exact fin rfl (fun _ => .int _) (pe_glob (v := .int i) g1 ht ⟨t, rfl⟩ g2) rfl
        | _ => cases h

/-! ### operators -/
theorem snd_bin (o : BOp) (A : Sound T Φ k a) (B : Sound T Φ k b) : Sound T Φ k (.bin o a b) := fun X sc g C hs h => by
  unfold chk at h
  cases hp : g.e.bind pBin with
  | none => rw [hp] at h; cases h
  | some z =>
    obtain ⟨x, p, y⟩ := z
    rw [hp] at h
    obtain ⟨h1, h3⟩ := and2 h
    obtain ⟨h1, h2⟩ := and2 h1
    obtain ⟨e, hg, he⟩ := of_bindE hp
    obtain ⟨pos, rfl⟩ := pBin_ok he
    have e1 := of_decide_eq_true h1
    subst e1
    refine liftP (fun G0 H0 ρ => pe_imp (pe_op (op_B o) (A X sc (.ex x) C hs h2 G0 H0 ρ).1 (B X sc (.ex y) C hs h3 G0 H0 ρ).1) fun σ H Q q => ?_) rfl hg
    obtain ⟨G, L, sr, r, er, k⟩ := q
    obtain ⟨x1, e1, er⟩ := R.of_bind er
    obtain ⟨x2, e2, er⟩ := R.of_bind er
    obtain ⟨z, e3, er⟩ := R.of_bind er
    have er := R.ok.inj er
    subst er
    exact ⟨G, L, sr, x1, e1, fun v1 H1 G1 sr1 g1 h1 r1 => ⟨G1, L, sr1, x2, e2, fun v2 H2 G2 sr2 g2 h2 r2 =>
      rB_of sr2 (RepV.mono sr1 g2 h2 r1) r2 e3 fun v H' G' s' g h r => k v H' G' s' (g1.trans (g2.trans g)) (h1.trans (h2.trans h)) r⟩⟩
theorem intOf_ok {d : D} {i : Int} (h : intOf d = .ok i) : d = .int i := by
  cases d <;> first | (cases h; done) | rw [R.ok.inj h]
theorem snd_neg (A : Sound T Φ k a) : Sound T Φ k (.neg a) := fun X sc g C hs h => by
  unfold chk at h
  cases hp : g.e.bind pUn with
  | none => rw [hp] at h; cases h
  | some z =>
    obtain ⟨p, x⟩ := z
    rw [hp] at h
    obtain ⟨h1, h2⟩ := and2 h
    obtain ⟨e, hg, he⟩ := of_bindE hp
    obtain ⟨pos, rfl⟩ := pUn_ok he
    have e1 := of_decide_eq_true h1
    subst e1
    refine liftP (fun G0 H0 ρ => pe_imp (pe_un un_neg (A X sc (.ex x) C hs h2 G0 H0 ρ).1) fun σ H Q q => ?_) rfl hg
    obtain ⟨G, L, sr, r, er, k⟩ := q
    obtain ⟨x1, e1, er⟩ := R.of_bind er
    obtain ⟨i, e3, er⟩ := R.of_bind er
    have er := R.ok.inj er
    subst er
    refine ⟨G, L, sr, x1, e1, fun v1 H1 G1 sr1 g1 h1 r1 => ?_⟩
    have r2 := RepW.s r1
    rw [intOf_ok e3] at r2
    exact ⟨i, Rep.intE r2, k _ H1 G1 sr1 g1 h1 (RepV.at (W := G1) (.int _) rfl)⟩
theorem tst_not (ρ : Env) : tst Φ (.not a) ρ = (tst Φ a ρ >>= fun c => .ok !c) := by
  unfold tst
  show ((ev Φ a ρ >>= fun x => truth x.d >>= fun c => R.ok (V3.at (.bl !c))) >>= fun x => truth x.d) = ((ev Φ a ρ >>= fun x => truth x.d) >>= fun c => R.ok !c)
  cases ev Φ a ρ with
  | ok x =>
    show ((truth x.d >>= fun c => R.ok (V3.at (.bl !c))) >>= fun x => truth x.d) = (truth x.d >>= fun c => R.ok !c)
    cases truth x.d <;> rfl
  | bad => rfl
  | exc c fs => rfl
theorem snd_not (A : Sound T Φ k a) : Sound T Φ k (.not a) := fun X sc g C hs h => by
  unfold chk at h
  cases hp : g.e.bind pUn with
  | none => rw [hp] at h; cases h
  | some z =>
    obtain ⟨p, x⟩ := z
    rw [hp] at h
    obtain ⟨h1, h2⟩ := and2 h
    obtain ⟨e, hg, he⟩ := of_bindE hp
    obtain ⟨pos, rfl⟩ := pUn_ok he
    have e1 := of_decide_eq_true h1
    subst e1
    have Ax := A X sc (.ex x) C hs h2
    refine lift (fun G0 H0 ρ => ⟨pe_imp (pe_notT (Ax G0 H0 ρ).1) fun σ H Q q => ?_, pt_imp (pt_not (Ax G0 H0 ρ).2) fun σ H Q q => ?_⟩) hg
    · obtain ⟨G, L, sr, r, er, k⟩ := q
      obtain ⟨x1, e1, er⟩ := R.of_bind er
      obtain ⟨c, e3, er⟩ := R.of_bind er
      have er := R.ok.inj er
      subst er
      exact ⟨G, L, sr, x1, e1, fun v1 H1 G1 sr1 g1 h1 r1 => ⟨c, truV_of (RepW.h sr1 r1) e3, k _ H1 G1 sr1 g1 h1 (RepV.at (W := G1) (.bl _) rfl)⟩⟩
    · obtain ⟨G, L, sr, r, er, k⟩ := q
      rw [tst_not] at er
      obtain ⟨c, e1, e2⟩ := R.of_bind er
      have e2 := R.ok.inj e2
      subst e2
      exact ⟨G, L, sr, c, e1, fun H1 G1 sr1 g1 h1 => k H1 G1 sr1 g1 h1⟩
theorem tst_and (ρ : Env) : tst Φ (.and a b) ρ = (tst Φ a ρ >>= fun c => if c = true then tst Φ b ρ else .ok false) := by
  unfold tst
  show ((ev Φ a ρ >>= fun x => truth x.d >>= fun c => if c = true then ev Φ b ρ else R.ok x) >>= fun x => truth x.d) = ((ev Φ a ρ >>= fun x => truth x.d) >>= fun c => if c = true then (ev Φ b ρ >>= fun x => truth x.d) else R.ok false)
  cases ev Φ a ρ with
  | ok x =>
    show ((truth x.d >>= fun c => if c = true then ev Φ b ρ else R.ok x) >>= fun x => truth x.d) = (truth x.d >>= fun c => if c = true then (ev Φ b ρ >>= fun x => truth x.d) else R.ok false)
    cases q : truth x.d with
    | ok c =>
      cases c with
      | true => rfl
      | false => exact q
    | bad => rfl
    | exc c fs => rfl
  | bad => rfl
  | exc c fs => rfl
theorem tst_or (ρ : Env) : tst Φ (.or a b) ρ = (tst Φ a ρ >>= fun c => if c = true then .ok true else tst Φ b ρ) := by
  unfold tst
  show ((ev Φ a ρ >>= fun x => truth x.d >>= fun c => if c = true then R.ok x else ev Φ b ρ) >>= fun x => truth x.d) = ((ev Φ a ρ >>= fun x => truth x.d) >>= fun c => if c = true then R.ok true else (ev Φ b ρ >>= fun x => truth x.d))
  cases ev Φ a ρ with
  | ok x =>
    show ((truth x.d >>= fun c => if c = true then R.ok x else ev Φ b ρ) >>= fun x => truth x.d) = (truth x.d >>= fun c => if c = true then R.ok true else (ev Φ b ρ >>= fun x => truth x.d))
    cases q : truth x.d with
    | ok c =>
      cases c with
      | false => rfl
      | true => exact q
    | bad => rfl
    | exc c fs => rfl
  | bad => rfl
  | exc c fs => rfl
/-- an and | or, wherever it stands -/
theorem liftB {o : BoolOp} {x y : Expr} {r : List Expr} (h : ∀ pos G0 H0 ρ, PE X (.BoolOp o (x :: y :: r) pos) (tEv X.K G0 H0 ρ (ev Φ m ρ)) ∧ PW X (.BoolOp o (x :: y :: r) pos) (tTst X.K G0 H0 ρ (tst Φ m ρ))) (hg : g.b o = some (x, y, r)) : Goal Φ X m g := by
  have one : ∀ {e : Expr} {p : BoolOp} {a b : Expr} {s : List Expr}, pBool e = some (p, a :: b :: s) → (if p = o then some (a, b, s) else none) = some (x, y, r) → ∀ G0 H0 ρ, PE X e (tEv X.K G0 H0 ρ (ev Φ m ρ)) ∧ PT X e (tTst X.K G0 H0 ρ (tst Φ m ρ)) := fun {e p a b s} q q2 G0 H0 ρ => by
    by_cases hp : p = o
    · rw [if_pos hp] at q2
      cases q2
      subst hp
      obtain ⟨pos, rfl⟩ := pBool_ok q
      exact ⟨(h pos G0 H0 ρ).1, (h pos G0 H0 ρ).2.pt⟩
    · rw [if_neg hp] at q2
      cases q2
  have ex : ∀ {e : Expr}, (match pBool e with
    | some (p, a :: b :: s) => if p = o then some (a, b, s) else none
    | _ => none) = some (x, y, r) → ∀ G0 H0 ρ, PE X e (tEv X.K G0 H0 ρ (ev Φ m ρ)) ∧ PT X e (tTst X.K G0 H0 ρ (tst Φ m ρ)) := fun {e} q => by
    split at q
    · exact one ‹_› q
    · cases q
  cases g with
  | ex e => exact ex hg
  | bo p es =>
    match es, hg with
    | [e], hg => exact lift (g := .bo p [e]) (ex hg) rfl
    | [], hg => cases hg
    | a :: b :: s, hg =>
      have hg : (if p = o then some (a, b, s) else none) = some (x, y, r) := hg
      by_cases hp : p = o
      · rw [if_pos hp] at hg
        cases hg
        subst hp
        exact h
      · rw [if_neg hp] at hg
        cases hg
  | args es => cases hg
  | it e tg => cases hg
theorem snd_and (A : Sound T Φ k a) (B : Sound T Φ k b) : Sound T Φ k (.and a b) := fun X sc g C hs h => by
  unfold chk at h
  cases hp : g.b .And with
  | none => rw [hp] at h; cases h
  | some z =>
    obtain ⟨x, y, r⟩ := z
    rw [hp] at h
    obtain ⟨h1, h2⟩ := and2 h
    have Ax := A X sc (.ex x) C hs h1
    have Bx := B X sc (.bo .And (y :: r)) C hs h2
    refine liftB (fun pos G0 H0 ρ => ⟨pe_imp (pe_andT (Ax G0 H0 ρ).1 (Bx pos G0 H0 ρ).1) fun σ H Q q => ?_, ⟨fun w pins s σ H Q I q => (pw_and (Ax G0 H0 ρ).2 (Bx pos G0 H0 ρ).2).run w pins s σ H Q I ?_⟩⟩) hp
    · obtain ⟨G, L, sr, r, er, k⟩ := q
      obtain ⟨x1, e1, er⟩ := R.of_bind er
      obtain ⟨c, e3, er⟩ := R.of_bind er
      refine ⟨G, L, sr, x1, e1, fun v1 H1 G1 sr1 g1 h1 r1 => ⟨c, truV_of (RepW.h sr1 r1) e3, ?_⟩⟩
      cases c with
      | true =>
        rw [if_pos rfl] at er ⊢
        exact ⟨G1, L, sr1, r, er, fun v H' G' s' g h r => k v H' G' s' (g1.trans g) (h1.trans h) r⟩
      | false =>
        rw [if_neg Bool.false_ne_true] at er ⊢
        have er := R.ok.inj er
        subst er
        exact k v1 H1 G1 sr1 g1 h1 r1
    · obtain ⟨G, L, sr, r, er, k⟩ := q
      rw [tst_and] at er
      obtain ⟨c, e1, er⟩ := R.of_bind er
      refine ⟨G, L, sr, c, e1, fun H1 G1 sr1 g1 h1 => ?_⟩
      cases c with
      | true =>
        rw [if_pos rfl] at er ⊢
        exact ⟨G1, L, sr1, r, er, fun H' G' s' g h => k H' G' s' (g1.trans g) (h1.trans h)⟩
      | false =>
        rw [if_neg Bool.false_ne_true] at er ⊢
        have er := R.ok.inj er
        subst er
        exact k H1 G1 sr1 g1 h1
theorem snd_or (A : Sound T Φ k a) (B : Sound T Φ k b) : Sound T Φ k (.or a b) := fun X sc g C hs h => by
  unfold chk at h
  cases hp : g.b .Or with
  | none => rw [hp] at h; cases h
  | some z =>
    obtain ⟨x, y, r⟩ := z
    rw [hp] at h
    obtain ⟨h1, h2⟩ := and2 h
    have Ax := A X sc (.ex x) C hs h1
    have Bx := B X sc (.bo .Or (y :: r)) C hs h2
    refine liftB (fun pos G0 H0 ρ => ⟨pe_imp (pe_orT (Ax G0 H0 ρ).1 (Bx pos G0 H0 ρ).1) fun σ H Q q => ?_, ⟨fun w pins s σ H Q I q => (pw_or (Ax G0 H0 ρ).2 (Bx pos G0 H0 ρ).2).run w pins s σ H Q I ?_⟩⟩) hp
    · obtain ⟨G, L, sr, r, er, k⟩ := q
      obtain ⟨x1, e1, er⟩ := R.of_bind er
      obtain ⟨c, e3, er⟩ := R.of_bind er
      refine ⟨G, L, sr, x1, e1, fun v1 H1 G1 sr1 g1 h1 r1 => ⟨c, truV_of (RepW.h sr1 r1) e3, ?_⟩⟩
      cases c with
      | true =>
        rw [if_pos rfl] at er ⊢
        have er := R.ok.inj er
        subst er
        exact k v1 H1 G1 sr1 g1 h1 r1
      | false =>
        rw [if_neg Bool.false_ne_true] at er ⊢
        exact ⟨G1, L, sr1, r, er, fun v H' G' s' g h r => k v H' G' s' (g1.trans g) (h1.trans h) r⟩
    · obtain ⟨G, L, sr, r, er, k⟩ := q
      rw [tst_or] at er
      obtain ⟨c, e1, er⟩ := R.of_bind er
      refine ⟨G, L, sr, c, e1, fun H1 G1 sr1 g1 h1 => ?_⟩
      cases c with
      | true =>
        rw [if_pos rfl] at er ⊢
        have er := R.ok.inj er
        subst er
        exact k H1 G1 sr1 g1 h1
      | false =>
        rw [if_neg Bool.false_ne_true] at er ⊢
        exact ⟨G1, L, sr1, r, er, fun H' G' s' g h => k H' G' s' (g1.trans g) (h1.trans h)⟩
theorem snd_cmp (o : COp) (A : Sound T Φ k a) (B : Sound T Φ k b) : Sound T Φ k (.cmp o a b) := fun X sc g C hs h => by
  unfold chk at h
  split at h
  · rename_i x p y hp
    obtain ⟨h1, h4⟩ := and2 h
    obtain ⟨h1, h3⟩ := and2 h1
    obtain ⟨h1, h2⟩ := and2 h1
    obtain ⟨e, hg, he⟩ := of_bindE hp
    obtain ⟨pos, rfl⟩ := pCmp_ok he
    have e1 := of_decide_eq_true h1
    subst e1
    have Ax := A X sc (.ex x) C hs h3
    have Bx := B X sc (.ex y) C hs h4
    have hu : X.A.units + 64 < cLine := C.room.units
    refine lift (fun G0 H0 ρ => ⟨pe_imp (pe_cmpR (op_C hu o) (Ax G0 H0 ρ).1 (Bx G0 H0 ρ).1 (mark_ok h2 _)) fun σ H Q q => ?_, pt_imp (pt_cmpR (op_C hu o) (Ax G0 H0 ρ).1 (Bx G0 H0 ρ).1 (mark_ok h2 _)) fun σ H Q q => ?_⟩) hg
    · obtain ⟨G, L, sr, r, er, k⟩ := q
      obtain ⟨x1, e1, er⟩ := R.of_bind er
      obtain ⟨x2, e2, er⟩ := R.of_bind er
      obtain ⟨z, e3, er⟩ := R.of_bind er
      have er := R.ok.inj er
      subst er
      exact ⟨G, L, sr, x1, e1, fun v1 H1 G1 sr1 g1 h1 r1 => ⟨G1, L, sr1, x2, e2, fun v2 H2 G2 sr2 g2 h2 r2 =>
        rC_of sr2 (RepV.mono sr1 g2 h2 r1) r2 e3 (k _ H2 G2 sr2 (g1.trans g2) (h1.trans h2) (RepV.at (W := G2) (.bl _) rfl))⟩⟩
    · obtain ⟨G, L, sr, r, er, k⟩ := q
      obtain ⟨x0, er, et⟩ := R.of_bind er
      obtain ⟨x1, e1, er⟩ := R.of_bind er
      obtain ⟨x2, e2, er⟩ := R.of_bind er
      obtain ⟨z, e3, er⟩ := R.of_bind er
      have er := R.ok.inj er
      subst er
      have et : z = r := R.ok.inj et
      subst et
      exact ⟨G, L, sr, x1, e1, fun v1 H1 G1 sr1 g1 h1 r1 => ⟨G1, L, sr1, x2, e2, fun v2 H2 G2 sr2 g2 h2 r2 =>
        rC_of sr2 (RepV.mono sr1 g2 h2 r1) r2 e3 ⟨z, rfl, k H2 G2 sr2 (g1.trans g2) (h1.trans h2)⟩⟩⟩
  · cases h
theorem snd_chain (o p : COp) (A : Sound T Φ k a) (B : Sound T Φ k b) (C' : Sound T Φ k c) : Sound T Φ k (.chain o p a b c) := fun X sc g C hs h => by
  unfold chk at h
  split at h
  · rename_i x o' p' y z hp
    obtain ⟨h1, h6⟩ := and2 h
    obtain ⟨h1, h5⟩ := and2 h1
    obtain ⟨h1, h4⟩ := and2 h1
    obtain ⟨h1, h3⟩ := and2 h1
    obtain ⟨h1, h2⟩ := and2 h1
    obtain ⟨e, hg, he⟩ := of_bindE hp
    obtain ⟨pos, rfl⟩ := pCmp_ok he
    have e1 := of_decide_eq_true h1
    subst e1
    have e1 := of_decide_eq_true h2
    subst e1
    have Ax := A X sc (.ex x) C hs h4
    have Bx := B X sc (.ex y) C hs h5
    have Cx := C' X sc (.ex z) C hs h6
    have hu : X.A.units + 64 < cLine := C.room.units
    have key : ∀ {G0 : Hp} {H0 : B0} {ρ : Env} {σ : L2.St} {H : Hp} {Q : VK} {G : Hp} {L : Lb} {r : V3}, SR X.K G0 H0 ρ σ G H L → ev Φ (.chain o p a b c) ρ = .ok r →
        (∀ v H' G' (k : Bool), r.d = .bl k → v = .bl k → SR X.K G0 H0 ρ σ G' H' L → Same G G' → Same H H' → Q v H') → tChain (rC X.K o) (rC X.K p) (tEv X.K G0 H0 ρ (ev Φ a ρ)) (tEv X.K G0 H0 ρ (ev Φ b ρ)) (tEv X.K G0 H0 ρ (ev Φ c ρ)) σ H Q := by
      intro G0 H0 ρ σ H Q G L r sr er k
      obtain ⟨x1, e1, er⟩ := R.of_bind er
      obtain ⟨x2, e2, er⟩ := R.of_bind er
      obtain ⟨z, e3, er⟩ := R.of_bind er
      refine ⟨G, L, sr, x1, e1, fun v1 H1 G1 sr1 g1 h1 r1 => ⟨G1, L, sr1, x2, e2, fun v2 H2 G2 sr2 g2 h2 r2 => rC_of sr2 (RepV.mono sr1 g2 h2 r1) r2 e3 ⟨z, rfl, ?_⟩⟩⟩
      cases z with
      | true =>
        rw [if_pos rfl] at er ⊢
        obtain ⟨x3, e4, er⟩ := R.of_bind er
        obtain ⟨w, e5, er⟩ := R.of_bind er
        have er := R.ok.inj er
        subst er
        exact ⟨G2, L, sr2, x3, e4, fun v3 H3 G3 sr3 g3 h3 r3 => rC_of sr3 (RepV.mono sr2 g3 h3 r2) r3 e5 (k _ H3 G3 w rfl rfl sr3 (g1.trans (g2.trans g3)) (h1.trans (h2.trans h3)))⟩
      | false =>
        rw [if_neg Bool.false_ne_true] at er ⊢
        have er := R.ok.inj er
        subst er
        exact k _ H2 G2 false rfl rfl sr2 (g1.trans g2) (h1.trans h2)
    refine lift (fun G0 H0 ρ => ⟨pe_imp (pe_chain (op_C hu o) (op_C hu p) (Ax G0 H0 ρ).1 (Bx G0 H0 ρ).1 (Cx G0 H0 ρ).1 (marks2_ok h3 _ _)) fun σ H Q q => ?_, pt_imp (pt_chain (op_C hu o) (op_C hu p) (Ax G0 H0 ρ).1 (Bx G0 H0 ρ).1 (Cx G0 H0 ρ).1 (marks2_ok h3 _ _)) fun σ H Q q => ?_⟩) hg
    · obtain ⟨G, L, sr, r, er, k⟩ := q
      refine key sr er fun v H' G' c e1 e2 sr' g h => k v H' G' sr' g h ?_
      show RepW X.K _ _ v r.d
      rw [e1, e2]
      exact Rep.bl c
    · obtain ⟨G, L, sr, r, er, k⟩ := q
      obtain ⟨x0, er, et⟩ := R.of_bind er
      refine key sr er fun v H' G' c e1 e2 sr' g h => ⟨c, e2, ?_⟩
      rw [e1] at et
      have et : c = r := R.ok.inj et
      rw [et]
      exact k H' G' sr' g h
  · cases h
end
end Mp

set_option Elab.async false
set_option linter.all false
set_option maxRecDepth 100000
set_option maxHeartbeats 4000000
/-! Mp8: the further forms: conditionals, displays, items, slices, calls, walks. -/
namespace Mp
open PySem PySem.Spec PyProof.Rows L2
section
variable {T : Tb} {Φ : Nat → Fn} {k : Nat} {X : Cx} {m a b c : M} {e : Expr} {g : Ag}

theorem pt_ifExp {x y z : Expr} {pos : Pos} {t u v : TT} (hc : PT X z t) (ha : PT X x u) (hb : PT X y v) : PT X (.IfExp z x y pos) (fun σ H Q => t σ H fun c H1 => if c = true then u σ H1 Q else v σ H1 Q) := by
  refine ⟨fun pins s σ H Q I h => ?_⟩
  refine isTrue_IfExp (thn (hc.run pins s σ H _ I h) fun d s1 ⟨H1, I1, q1⟩ => ?_)
  cases d with
  | true => exact ha.run pins s1 σ H1 Q I1 q1
  | false => exact hb.run pins s1 σ H1 Q I1 q1
theorem tst_ite (ρ : Env) : tst Φ (.ite c a b) ρ = (tst Φ c ρ >>= fun k => if k = true then tst Φ a ρ else tst Φ b ρ) := by
  unfold tst
  show ((ev Φ c ρ >>= fun x => truth x.d >>= fun k => if k = true then ev Φ a ρ else ev Φ b ρ) >>= fun x => truth x.d) = ((ev Φ c ρ >>= fun x => truth x.d) >>= fun k => if k = true then (ev Φ a ρ >>= fun x => truth x.d) else (ev Φ b ρ >>= fun x => truth x.d))
  cases ev Φ c ρ with
  | ok x =>
    show ((truth x.d >>= fun k => if k = true then ev Φ a ρ else ev Φ b ρ) >>= fun x => truth x.d) = (truth x.d >>= fun k => if k = true then (ev Φ a ρ >>= fun x => truth x.d) else (ev Φ b ρ >>= fun x => truth x.d))
    cases truth x.d with
    | ok c => cases c <;> rfl
    | bad => rfl
    | exc c fs => rfl
  | bad => rfl
  | exc c fs => rfl
theorem snd_ite (C' : Sound T Φ k c) (A : Sound T Φ k a) (B : Sound T Φ k b) : Sound T Φ k (.ite c a b) := fun X sc g C hs h => by
  unfold chk at h
  cases hp : g.e.bind pIf with
  | none => rw [hp] at h; cases h
  | some w =>
    obtain ⟨z, x, y⟩ := w
    rw [hp] at h
    obtain ⟨h1, h3⟩ := and2 h
    obtain ⟨h1, h2⟩ := and2 h1
    obtain ⟨e, hg, he⟩ := of_bindE hp
    obtain ⟨pos, rfl⟩ := pIf_ok he
    have Cx := C' X sc (.ex z) C hs h1
    have Ax := A X sc (.ex x) C hs h2
    have Bx := B X sc (.ex y) C hs h3
    refine lift (fun G0 H0 ρ => ⟨pe_imp (pe_ifExp (Cx G0 H0 ρ).2 (Ax G0 H0 ρ).1 (Bx G0 H0 ρ).1) fun σ H Q q => ?_, pt_imp (pt_ifExp (Cx G0 H0 ρ).2 (Ax G0 H0 ρ).2 (Bx G0 H0 ρ).2) fun σ H Q q => ?_⟩) hg
    · obtain ⟨G, L, sr, r, er, k⟩ := q
      obtain ⟨x1, e1, er⟩ := R.of_bind er
      obtain ⟨d, e3, er⟩ := R.of_bind er
      refine ⟨G, L, sr, d, ?_, fun H1 G1 sr1 g1 h1 => ?_⟩
      · unfold tst
        rw [e1]
        exact e3
      · cases d with
        | true =>
          rw [if_pos rfl] at er ⊢
          exact ⟨G1, L, sr1, r, er, fun v H' G' s' g h r => k v H' G' s' (g1.trans g) (h1.trans h) r⟩
        | false =>
          rw [if_neg Bool.false_ne_true] at er ⊢
          exact ⟨G1, L, sr1, r, er, fun v H' G' s' g h r => k v H' G' s' (g1.trans g) (h1.trans h) r⟩
    · obtain ⟨G, L, sr, r, er, k⟩ := q
      rw [tst_ite] at er
      obtain ⟨d, e1, er⟩ := R.of_bind er
      refine ⟨G, L, sr, d, e1, fun H1 G1 sr1 g1 h1 => ?_⟩
      cases d with
      | true =>
        rw [if_pos rfl] at er ⊢
        exact ⟨G1, L, sr1, r, er, fun H' G' s' g h => k H' G' s' (g1.trans g) (h1.trans h)⟩
      | false =>
        rw [if_neg Bool.false_ne_true] at er ⊢
        exact ⟨G1, L, sr1, r, er, fun H' G' s' g h => k H' G' s' (g1.trans g) (h1.trans h)⟩

/-! ### arguments, displays -/
theorem snd_nil : Sound T Φ k .nil := fun X sc g C hs h => by
  unfold chk at h
  split at h
  · intro G0 H0 ρ
    refine pa_imp pa_nil fun σ H Q q => ?_
    obtain ⟨G, L, sr, r, er, k⟩ := q
    have er := R.ok.inj er
    subst er
    exact k [] H G sr (Same.refl G) (Same.refl H) .nil
  · cases h
theorem snd_cons (A : Sound T Φ k a) (B : Sound T Φ k b) : Sound T Φ k (.cons a b) := fun X sc g C hs h => by
  unfold chk at h
  split at h
  · rename_i e es
    obtain ⟨h1, h3⟩ := and2 h
    obtain ⟨h1, h2⟩ := and2 h1
    have Ax := A X sc (.ex e) C hs h2
    have Bx := B X sc (.args es) C hs h3
    intro G0 H0 ρ
    refine pa_imp (pa_cons (Ax G0 H0 ρ).1 (Bx G0 H0 ρ) (star_ok h1 es X.env)) fun σ H Q q => ?_
    obtain ⟨G, L, sr, r, er, k⟩ := q
    obtain ⟨x1, e1, er⟩ := R.of_bind er
    obtain ⟨x2, e2, er⟩ := R.of_bind er
    have er := R.ok.inj er
    subst er
    exact ⟨G, L, sr, x1, e1, fun v1 H1 G1 sr1 g1 h1 r1 => ⟨G1, L, sr1, x2, e2, fun vs H2 G2 sr2 g2 h2 r2 =>
      k _ H2 G2 sr2 (g1.trans g2) (h1.trans h2) (.cons (RepW.mono (sr2.wldSub mem_l) (sr2.wldSub mem_l) (RepV.mono sr1 g2 h2 r1)) (RepWs.mono (sr2.wldSub mem_r) (sr2.wldSub mem_r) r2))⟩⟩
  · cases h
theorem snd_lst (A : Sound T Φ k a) : Sound T Φ k (.lst a) := fun X sc g C hs h => by
  unfold chk at h
  cases hp : g.e.bind pList with
  | none => rw [hp] at h; cases h
  | some es =>
    rw [hp] at h
    obtain ⟨e, hg, he⟩ := of_bindE hp
    obtain ⟨pos, rfl⟩ := pList_ok he
    have Ax := A X sc (.args es) C hs h
    refine liftP (fun G0 H0 ρ => pe_imp (pe_lst (Ax G0 H0 ρ)) fun σ H Q q => ?_) rfl hg
    obtain ⟨G, L, sr, r, er, k⟩ := q
    obtain ⟨x1, e1, er⟩ := R.of_bind er
    obtain ⟨c, er⟩ := R.of_chk er
    have er := R.ok.inj er
    subst er
    exact ⟨G, L, sr, x1, e1, fun vs H1 G1 sr1 g1 h1 r1 => ⟨by rw [r1.s.length]; exact c, Go.lst sr1 (fun v H' G' s' g h r => k v H' G' s' (g1.trans g) (h1.trans h) r) r1.s⟩⟩
theorem snd_tup (A : Sound T Φ k a) : Sound T Φ k (.tup a) := fun X sc g C hs h => by
  unfold chk at h
  cases hp : g.e.bind pTuple with
  | none => rw [hp] at h; cases h
  | some es =>
    rw [hp] at h
    obtain ⟨e, hg, he⟩ := of_bindE hp
    obtain ⟨k1, pos, rfl⟩ := pTuple_ok he
    have Ax := A X sc (.args es) C hs h
    refine liftP (fun G0 H0 ρ => pe_imp (pe_tup (Ax G0 H0 ρ)) fun σ H Q q => ?_) rfl hg
    obtain ⟨G, L, sr, r, er, k⟩ := q
    obtain ⟨x1, e1, er⟩ := R.of_bind er
    obtain ⟨c, er⟩ := R.of_chk er
    have er := R.ok.inj er
    subst er
    exact ⟨G, L, sr, x1, e1, fun vs H1 G1 sr1 g1 h1 r1 => ⟨by rw [r1.s.length]; exact c, Go.tup sr1 (fun v H' G' s' g h r => k v H' G' s' (g1.trans g) (h1.trans h) r) r1.s⟩⟩

/-! ### items, slices -/
theorem atI_rep {K : PySem.W.Frag} {W : Hp} {xs : List V} {ds : List D} {i : Int} {d : D} (r : RepAll K W xs ds) (h : atI ds i = some d) : ∃ v, L2.atI xs i = some v ∧ Rep K W v d := by
  unfold Mp.atI at h
  cases q : Mp.ixN ds.length i with
  | none => rw [q] at h; cases h
  | some j =>
    rw [q] at h
    obtain ⟨v, e1, e2⟩ := r.get (i := j) h
    refine ⟨v, ?_, e2⟩
    unfold L2.atI
    rw [r.length]
    have q2 : L2.ixN ds.length i = some j := q
    rw [q2]
    exact e1
theorem snd_ix (A : Sound T Φ k a) (B : Sound T Φ k b) : Sound T Φ k (.ix a b) := fun X sc g C hs h => by
  unfold chk at h
  cases hp : g.e.bind pSub with
  | none => rw [hp] at h; cases h
  | some z =>
    obtain ⟨x, y⟩ := z
    rw [hp] at h
    obtain ⟨h1, h3⟩ := and2 h
    obtain ⟨h1, h2⟩ := and2 h1
    obtain ⟨e, hg, he⟩ := of_bindE hp
    obtain ⟨pos, rfl⟩ := pSub_ok he
    refine liftP (fun G0 H0 ρ => pe_imp (pe_ix (ix_list.or ix_tup) (A X sc (.ex x) C hs h2 G0 H0 ρ).1 (B X sc (.ex y) C hs h3 G0 H0 ρ).1 (ix_ok h1)) fun σ H Q q => ?_) rfl hg
    obtain ⟨G, L, sr, r, er, k⟩ := q
    obtain ⟨x1, e1, er⟩ := R.of_bind er
    obtain ⟨x2, e2, er⟩ := R.of_bind er
    obtain ⟨i, e3, er⟩ := R.of_bind er
    obtain ⟨ds, e4, er⟩ := R.of_bind er
    obtain ⟨z, e5, er⟩ := R.of_bind er
    have er := R.ok.inj er
    subst er
    refine ⟨G, L, sr, x1, e1, fun v1 H1 G1 sr1 g1 h1 r1 => ⟨G1, L, sr1, x2, e2, fun v2 H2 G2 sr2 g2 h2 r2 => ?_⟩⟩
    have r3 := RepW.s r2
    rw [intOf_ok e3] at r3
    obtain ⟨p, xs, ep, q, ra⟩ := items_of sr2 (RepV.mono sr1 g2 h2 r1) e4
    obtain ⟨v, ev, rv⟩ := atI_rep ra (orBad_ok e5)
    have fin := k v H2 G2 sr2 (g1.trans g2) (h1.trans h2) (RepV.of rv)
    rcases q with q | q
    · exact .inl ⟨p, xs, i, v, ep, Rep.intE r3, q, ev, fin⟩
    · exact .inr ⟨p, xs, i, v, ep, Rep.intE r3, q, ev, fin⟩
theorem cut_rep {K : PySem.W.Frag} {W : Hp} {xs : List V} {ds : List D} {lo hi : Option Int} (r : RepAll K W xs ds) : RepAll K W (cutV xs lo hi) (cut ds lo hi) := by
  unfold cutV cut
  rw [r.length]
  exact (r.drop _).take _
def tPO (K : PySem.W.Frag) (G0 : Hp) (H0 : B0) (ρ : Env) (m : M) (r : R V3) : TO := fun σ H Q => ∃ G L, SR K G0 H0 ρ σ G H L ∧ ∃ x l, r = .ok x ∧ part m x.d = .ok l ∧ ∀ H' G', SR K G0 H0 ρ σ G' H' L → Same G G' → Same H H' → Q l H'
theorem part_none {d : D} (h : isNon m = true) : part m d = .ok none := by
  unfold isNon at h
  split at h
  · rfl
  · cases h
theorem part_some {d : D} {l : Option Int} (h : isNon m = false) (e : part m d = .ok l) : ∃ i, d = .int i ∧ l = some i := by
  unfold part at e
  split at e
  · cases h
  · exact ⟨_, rfl, (R.ok.inj e).symm⟩
  · cases e
theorem po_of {sc : Scope} {o : Option Expr} (A : Sound T Φ k m) (C : Cn T Φ k X) (hs : X.env.scope = sc) (h : (match o with
    | none => isNon m
    | some l => !isNon m && chk T m sc (.ex l)) = true) (G0 : Hp) (H0 : B0) (ρ : Env) : PO X o (tPO X.K G0 H0 ρ m (ev Φ m ρ)) := by
  cases o with
  | none =>
    have h : isNon m = true := h
    refine ⟨fun pins s σ H Q I q => po_none.run pins s σ H Q I ?_⟩
    obtain ⟨G, L, sr, x, l, e1, e2, k⟩ := q
    rw [part_none h] at e2
    have e2 := R.ok.inj e2
    subst e2
    exact k H G sr (Same.refl G) (Same.refl H)
  | some l =>
    obtain ⟨h1, h2⟩ := and2 h
    have h1 : isNon m = false := by simpa using h1
    have Ax := A X sc (.ex l) C hs h2
    refine ⟨fun pins s σ H Q I q => (po_some (Ax G0 H0 ρ).1).run pins s σ H Q I ?_⟩
    obtain ⟨G, L, sr, x, l, e1, e2, k⟩ := q
    obtain ⟨i, ed, el⟩ := part_some h1 e2
    subst el
    refine ⟨G, L, sr, x, e1, fun v H' G' s' g h r => ⟨i, ?_, k H' G' s' g h⟩⟩
    have r1 := RepW.s r
    rw [ed] at r1
    exact Rep.intE r1
theorem snd_sl (A : Sound T Φ k a) (B : Sound T Φ k b) (C' : Sound T Φ k c) : Sound T Φ k (.sl a b c) := fun X sc g C hs h => by
  unfold chk at h
  cases hp : g.e.bind pSub with
  | none => rw [hp] at h; cases h
  | some z =>
    obtain ⟨x, y⟩ := z
    rw [hp] at h
    dsimp only at h
    cases hy : pSlice y with
    | none => rw [hy] at h; cases h
    | some w =>
      obtain ⟨l, u⟩ := w
      rw [hy] at h
      obtain ⟨h1, h3⟩ := and2 h
      obtain ⟨h1, h2⟩ := and2 h1
      obtain ⟨e, hg, he⟩ := of_bindE hp
      obtain ⟨pos, rfl⟩ := pSub_ok he
      obtain ⟨p2, rfl⟩ := pSlice_ok hy
      refine liftP (fun G0 H0 ρ => pe_imp (pe_slice (sl_list.or sl_tupA) (A X sc (.ex x) C hs h1 G0 H0 ρ).1 (po_of B C hs h2 G0 H0 ρ) (po_of C' C hs h3 G0 H0 ρ)) fun σ H Q q => ?_) rfl hg
      obtain ⟨G, L, sr, r, er, k⟩ := q
      obtain ⟨x1, e1, er⟩ := R.of_bind er
      obtain ⟨x2, e2, er⟩ := R.of_bind er
      obtain ⟨x3, e3, er⟩ := R.of_bind er
      obtain ⟨lo, e4, er⟩ := R.of_bind er
      obtain ⟨hi, e5, er⟩ := R.of_bind er
      refine ⟨G, L, sr, x1, e1, fun v1 H1 G1 sr1 g1 h1 r1 => ⟨G1, L, sr1, x2, lo, e2, e4, fun H2 G2 sr2 g2 h2 => ⟨G2, L, sr2, x3, hi, e3, e5, fun H3 G3 sr3 g3 h3 => ?_⟩⟩⟩
      have r1 := RepV.mono sr1 (g2.trans g3) (h2.trans h3) r1
      have k : Go X.K G0 H0 ρ σ G3 H3 L r Q := fun v H' G' s' g h r => k v H' G' s' (g1.trans (g2.trans (g3.trans g))) (h1.trans (h2.trans (h3.trans h))) r
      obtain ⟨d, s, t⟩ := x1
      cases d with
      | lst ds =>
        have er := R.ok.inj er
        subst er
        obtain ⟨p, xs, ep, q, _, ra⟩ := r1
        exact .inl ⟨p, xs, ep, sr3.wldH.seq q, Go.lst sr3 k (cut_rep ra)⟩
      | tup ds =>
        have er := R.ok.inj er
        subst er
        obtain ⟨p, xs, ep, _, _, q, ra⟩ := r1
        refine .inr ⟨p, xs, ep, sqT_same sr3.wldH q, fun hw => ?_, fun _ => Go.tup sr3 k (cut_rep ra)⟩
        have hw : Mp.sIx xs.length 0 lo = 0 ∧ Mp.sIx xs.length xs.length hi = xs.length := hw
        have ec : cut ds lo hi = ds := by
          unfold cut
          rw [← ra.length, hw.1, hw.2]
          simp [ra.length]
        rw [ec] at k
        have r : Q (.ref p) H3 := Go.here sr3 k (RepV.sameTup q ra)
        exact r
      | _ => cases er

/-! ### isinstance -/
theorem ty_pe {sc : Scope} {t : Ty} {e : Expr} (C : Cn T Φ k X) (hs : X.env.scope = sc) (h : tyOk sc t e = true) : PE X e (tC (.ty (tyS t))) := by
  unfold tyOk at h
  cases hx : pName e with
  | none => rw [hx] at h; cases h
  | some x =>
    rw [hx] at h
    obtain ⟨h1, h2⟩ := and2 h
    obtain ⟨p, rfl⟩ := pName_ok hx
    obtain ⟨g1, g2⟩ := gl_of hs h2
    have e1 := of_decide_eq_true h1
    subst e1
    refine pe_bltn (u := .type (tyS t)) g1 (C.blt _ ?_) ?_ rfl ?_ g2
    · cases t <;> decide
    · cases t <;> decide +kernel
    · cases t <;> decide
theorem tys_pa {sc : Scope} (C : Cn T Φ k X) (hs : X.env.scope = sc) : ∀ {ts : List Ty} {es : List Expr}, tysOk sc ts es = true → ∃ t, PA X es t ∧ ∀ σ H Q, Q (ts.map fun t => V.ty (tyS t)) H → t σ H Q
  | [], [], _ => ⟨_, pa_nil, fun σ H Q q => q⟩
  | [], _ :: _, h => by cases h
  | _ :: _, [], h => by cases h
  | t :: ts, e :: es, h => by
    have h : (okE e && tyOk sc t e && tysOk sc ts es) = true := h
    obtain ⟨h1, h3⟩ := and2 h
    obtain ⟨h1, h2⟩ := and2 h1
    obtain ⟨u, hu, k⟩ := tys_pa C hs h3
    exact ⟨_, pa_cons (ty_pe C hs h2) hu (star_ok h1 es X.env), fun σ H Q q => k σ H _ q⟩
theorem boot_isi : bootBuiltins "isinstance" = some (.builtin "isinstance") := by decide +kernel
theorem snd_isi1 (t : Ty) (A : Sound T Φ k a) : Sound T Φ k (.isi1 a t) := fun X sc g C hs h => by
  unfold chk at h
  split at h
  · rename_i f x y hp
    obtain ⟨h1, h6⟩ := and2 h
    obtain ⟨h1, h5⟩ := and2 h1
    obtain ⟨h1, h4⟩ := and2 h1
    obtain ⟨h1, h3⟩ := and2 h1
    obtain ⟨h1, h2⟩ := and2 h1
    obtain ⟨e, hg, he⟩ := of_bindE hp
    obtain ⟨p, pos, rfl⟩ := pCall_ok he
    have e1 := of_decide_eq_true h1
    subst e1
    obtain ⟨g1, g2⟩ := gl_of hs h2
    have Ax := A X sc (.ex x) C hs h5
    refine liftP (fun G0 H0 ρ => pe_imp (pe_callB call_isi g1 (C.blt _ (by decide)) boot_isi (pa_cons (Ax G0 H0 ρ).1 (pa_cons (ty_pe C hs h6) pa_nil (star_ok h4 [] X.env)) (star_ok h3 [y] X.env)) (by decide) g2 (star_ok h3 [y] X.env) (back_ok (by simp [h4]))) fun σ H Q q => ?_) rfl hg
    obtain ⟨G, L, sr, r, er, k⟩ := q
    obtain ⟨x1, e1, er⟩ := R.of_bind er
    have er := R.ok.inj er
    subst er
    exact ⟨G, L, sr, x1, e1, fun v1 H1 G1 sr1 g1 h1 r1 => ⟨v1, .ty (tyS t), .type (tyOf x1.d), .type (tyS t), isTy x1.d t, rfl, .ty _, rep_ty (RepW.h sr1 r1), kit_ty (kit_all _ _), k _ H1 G1 sr1 g1 h1 (RepV.at (W := G1) (.bl _) rfl)⟩⟩
  · cases h
theorem tys_cls : ∀ ts : List Ty, Paired ClsV (ts.map fun t => V.ty (tyS t)) (ts.map fun t => Value.type (tyS t))
  | [] => .nil
  | t :: ts => .cons (.ty _) (tys_cls ts)
theorem tysOk_len {sc : Scope} : ∀ {ts : List Ty} {es : List Expr}, tysOk sc ts es = true → ts.length = es.length
  | [], [], _ => rfl
  | [], _ :: _, h => by cases h
  | _ :: _, [], h => by cases h
  | t :: ts, e :: es, h => by
    have h : (okE e && tyOk sc t e && tysOk sc ts es) = true := h
    rw [List.length_cons, List.length_cons, tysOk_len (and2 h).2]
theorem snd_isi (ts : List Ty) (A : Sound T Φ k a) : Sound T Φ k (.isi a ts) := fun X sc g C hs h => by
  unfold chk at h
  split at h
  · rename_i f x y hp
    obtain ⟨h1, h6⟩ := and2 h
    obtain ⟨h1, h7⟩ := and2 h1
    obtain ⟨h1, h5⟩ := and2 h1
    obtain ⟨h1, h4⟩ := and2 h1
    obtain ⟨h1, h3⟩ := and2 h1
    obtain ⟨h1, h2⟩ := and2 h1
    have h7 := of_decide_eq_true h7
    obtain ⟨e, hg, he⟩ := of_bindE hp
    obtain ⟨p, pos, rfl⟩ := pCall_ok he
    have e1 := of_decide_eq_true h1
    subst e1
    obtain ⟨g1, g2⟩ := gl_of hs h2
    have Ax := A X sc (.ex x) C hs h5
    cases hy : pTuple y with
    | none => rw [hy] at h6; cases h6
    | some es =>
      rw [hy] at h6
      obtain ⟨k1, p1, rfl⟩ := pTuple_ok hy
      obtain ⟨u, hu, ku⟩ := tys_pa C hs h6
      refine liftP (fun G0 H0 ρ => pe_imp (pe_callB call_isiT g1 (C.blt _ (by decide)) boot_isi (pa_cons (Ax G0 H0 ρ).1 (pa_cons (pe_tup hu) pa_nil (star_ok h4 [] X.env)) (star_ok h3 _ X.env)) (by decide) g2 (star_ok h3 _ X.env) (back_ok (by simp [h4]))) fun σ H Q q => ?_) rfl hg
      obtain ⟨G, L, sr, r, er, k⟩ := q
      obtain ⟨x1, e1, er⟩ := R.of_bind er
      have er := R.ok.inj er
      subst er
      refine ⟨G, L, sr, x1, e1, fun v1 H1 G1 sr1 g1 h1 r1 => ku _ _ _ ⟨?_, fun q hq => ?_⟩⟩
      · rw [List.length_map]
        exact Nat.le_trans h7 (by rw [← szl_eq]; decide)
      · exact ⟨v1, q, _, .type (tyOf x1.d), _, ts.any (isTy x1.d), rfl, upd_same, tys_cls ts, rep_ty (Rep.mono (same_new hq) (RepW.h sr1 r1)), kitAny_of ts, k _ _ _ (sr1.new hq) (g1.trans (same_new (sr1.gh.free hq))) (h1.trans (same_new hq)) (RepV.at (W := G1) (.bl _) rfl)⟩
  · cases h
end
end Mp

set_option Elab.async false
set_option linter.all false
set_option maxRecDepth 100000
set_option maxHeartbeats 4000000
/-! Mp9: calls, walks, comprehensions; all expressions are sound. -/
namespace Mp
open PySem PySem.Spec PyProof.Rows L2
section
variable {T : Tb} {Φ : Nat → Fn} {k : Nat} {X : Cx} {m a b c : M} {e : Expr} {g : Ag}

/-! ### calls -/
theorem bfN_in (f : Bf) : bfN f ∈ bltAll := by cases f <;> decide
theorem bfN_ne (f : Bf) : bfN f ≠ "__name__" := by cases f <;> decide
theorem boot_bf : ∀ f : Bf, bootBuiltins (bfN f) = some (bfV f)
  | .len => by decide +kernel
  | .int => by decide +kernel
  | .sum => by decide +kernel
  | .max => by decide +kernel
  | .min => by decide +kernel
  | .list => by decide +kernel
  | .tuple => by decide +kernel
  | .abs => by decide +kernel
theorem pe_bf {f : Bf} {e : Expr} {es : List Expr} {t : TA} {p pos : Pos} (hc : X.calm = true) (hg : Gl X (bfN f)) (hm : X.mg (bfN f) = none) (ha : PA X (e :: es) t) (hdb : (bfN f == ("__debug__" : Str)) = false)
    (he : starEach (e :: es) X.env = (false, eval e X.env) :: starEach es X.env) (hpl : (backTo pos (starEach es X.env)).any (·.1) = false) : PE X (.Call (.Name (bfN f) p) (e :: es) [] pos) (tCB (rBf X.K f) t) := by
  have hv := boot_bf f
  have hr := call_Bf (X := X) hc f
  have hn := bfN_ne f
  cases f <;> first
    | exact pe_callB hr hg hm hv ha hn hdb he hpl
    | exact pe_callTy hr hg hm hv ha hn hdb he hpl
theorem snd_bf (f : Bf) (A : Sound T Φ k a) : Sound T Φ k (.bf f a) := fun X sc g C hs h => by
  unfold chk at h
  cases hp : g.e.bind pCall with
  | none => rw [hp] at h; cases h
  | some z =>
    obtain ⟨x, e0, r⟩ := z
    rw [hp] at h
    obtain ⟨h1, h5⟩ := and2 h
    obtain ⟨h1, h4⟩ := and2 h1
    obtain ⟨h1, h3⟩ := and2 h1
    obtain ⟨h1, h2⟩ := and2 h1
    obtain ⟨e, hg, he⟩ := of_bindE hp
    obtain ⟨p, pos, rfl⟩ := pCall_ok he
    have e1 := of_decide_eq_true h1
    subst e1
    obtain ⟨g1, g2⟩ := gl_of hs h2
    have Ax := A X sc (.args (e0 :: r)) C hs h5
    refine liftP (fun G0 H0 ρ => pe_imp (pe_bf C.calm g1 (C.blt _ (bfN_in f)) (Ax G0 H0 ρ) g2 (star_ok h3 r X.env) (back_ok h4)) fun σ H Q q => ?_) rfl hg
    obtain ⟨G, L, sr, r, er, k⟩ := q
    obtain ⟨x1, e1, er⟩ := R.of_bind er
    obtain ⟨z, e2, er⟩ := R.of_bind er
    have er := R.ok.inj er
    subst er
    exact ⟨G, L, sr, x1, e1, fun vs H1 G1 sr1 g1 h1 r1 => rBf_of sr1 r1 e2 fun v H' G' s' g h r => k v H' G' s' (g1.trans g) (h1.trans h) r⟩
/-- behind a call: what is handed over is shared -/
theorem shared_of {K : PySem.W.Frag} {G0 G H H' Gc : Hp} {H0 : B0} {ρ : Env} {σ : L2.St} {L Lc : Lb} {S : List Nat} {v : V} {d : D} {n : Nat} (sr : SR K G0 H0 ρ σ G H L) (hH : Same H H') (hG : Same (wld G H L S) Gc) (gh : Same Gc H')
    (gn : ∀ a o, Gc a = some o → wld G H L S a = some o ∨ H a = none) (lb : ∀ a p, Lc a = some p → Gc a = none ∧ H a = none ∧ (∃ o, H' a = some o) ∧ ∃ t, p = 0 :: t) (o : Own K Gc H' Lc n [0] v d) :
    ∃ G', SR K G0 H0 ρ σ G' H' L ∧ Same G G' ∧ RepV K G' H' L v (.new d S) := by
  have lbc : ∀ a, Lc a = none ∨ ∃ t, Lc a = some (0 :: t) := fun a => by
    cases q : Lc a with
    | none => exact .inl rfl
    | some p =>
      obtain ⟨_, _, _, t, rfl⟩ := lb a p q
      exact .inr ⟨t, rfl⟩
  have n0 : ∀ a t, Lc a = some (0 :: t) → ∃ o, wld Gc H' Lc [0] a = some o ∧ H' a = some o ∧ H a = none := fun a t q => by
    obtain ⟨_, h2, ⟨o, h3⟩, _⟩ := lb a _ q
    exact ⟨o, by rw [wld_in q inS_one]; exact h3, h3, h2⟩
  have gW : Same Gc (wld Gc H' Lc [0]) := fun a o e => by
    rcases lbc a with q | ⟨t, q⟩
    · rw [wld_none q]
      exact e
    · rw [(lb a _ q).1] at e
      cases e
  have hW : Same (wld Gc H' Lc [0]) H' := fun a o e => by
    rcases lbc a with q | ⟨t, q⟩
    · rw [wld_none q] at e
      exact gh _ _ e
    · rw [wld_in q inS_one] at e
      exact e
  have nW : ∀ a o, wld Gc H' Lc [0] a = some o → wld G H L S a = some o ∨ H a = none := fun a o e => by
    rcases lbc a with q | ⟨t, q⟩
    · rw [wld_none q] at e
      exact gn a o e
    · exact .inr (lb a _ q).2.1
  have out : ∀ a p, L a = some p → ¬ inS p S → wld Gc H' Lc [0] a = none := fun a p q hi => by
    cases e : wld Gc H' Lc [0] a with
    | none => rfl
    | some o =>
      rcases nW a o e with z | z
      · rw [wld_out q hi] at z
        cases z
      · obtain ⟨_, _, ⟨u, z2⟩⟩ := sr.lab a _ q
        rw [z] at z2
        cases z2
  obtain ⟨G', s', g', _, w'⟩ := sr.unlend (S := S) hH (hG.trans gW) hW (fun a o e => (nW a o e).imp id sr.h0.free) out
  refine ⟨G', s', g', RepV.of ?_⟩
  have r1 : Rep K (wld Gc H' Lc [0]) v d := Own.rep gW n [0] v d (fun a p' hl hh _ o ho => by
    cases p' with
    | nil => cases hh
    | cons j t =>
      have ej : j = 0 := Option.some.inj hh
      subst ej
      rw [wld_in hl inS_one]
      exact ho) (by simp) o
  have r2 : Same (wld Gc H' Lc [0]) (wld (wld Gc H' Lc [0]) H' (lbO L S) []) := fun a o e => by
    rcases labc L a with q | ⟨p, q⟩
    · rw [wld_none (lbO_none q)]
      exact e
    · by_cases hi : inS p S
      · rw [wld_none (lbO_in q hi)]
        exact e
      · rw [out a p q hi] at e
        cases e
  have r3 := w' []
  rw [List.append_nil] at r3
  exact Rep.mono (r2.trans r3) r1
theorem snd_call (f : Nat) (A : Sound T Φ k a) : Sound T Φ k (.call f a) := fun X sc g C hs h => by
  unfold chk at h
  cases hp : g.e.bind pCall with
  | none => rw [hp] at h; cases h
  | some z =>
    obtain ⟨x, e0, r⟩ := z
    rw [hp] at h
    obtain ⟨h1, h5⟩ := and2 h
    obtain ⟨h1, h4⟩ := and2 h1
    obtain ⟨h1, h3⟩ := and2 h1
    obtain ⟨h1, h2⟩ := and2 h1
    obtain ⟨e, hg, he⟩ := of_bindE hp
    obtain ⟨p, pos, rfl⟩ := pCall_ok he
    obtain ⟨g1, g2⟩ := gl_of hs h2
    have Ax := A X sc (.args (e0 :: r)) C hs h5
    obtain ⟨fa, fd, ps, m1, m2, m3, m4, m5⟩ := C.fns f x (of_decide_eq_true h1)
    refine liftP (fun G0 H0 ρ => pe_imp (pe_call m4 C.room g1 m1 m2 m3 .nil pass0 (Ax G0 H0 ρ) g2 (star_ok h3 r X.env) (back_ok h4)) fun σ H Q q => ?_) rfl hg
    obtain ⟨G, L, sr, r, er, k⟩ := q
    obtain ⟨x1, e1, er⟩ := R.of_bind er
    obtain ⟨z, e2, er⟩ := R.of_bind er
    have er := R.ok.inj er
    subst er
    refine ⟨G, L, sr, x1, e1, fun vs H1 G1 sr1 g1 h1 r1 => ?_⟩
    refine ⟨wld G1 H1 L x1.2.1, x1.1, z, ?_, sr1.wldH, ?_, e2, fun v H' Gc Lc hH hG gh gn lb o => ?_⟩
    · rw [List.append_nil, r1.s.length]
      exact m5 _ _ e2
    · rw [List.append_nil]
      exact r1.s
    · obtain ⟨G', s', g', r'⟩ := shared_of sr1 hH hG gh gn lb o
      exact k v H' G' s' (g1.trans g') (h1.trans hH) r'

/-! ### list.index -/
theorem asInts_at : ∀ {ds : List D} {ns : List Int} {j : Nat}, asInts ds = some ns → ds[j]? = (ns[j]?).map D.int
  | [], ns, j, e => by
    cases e
    simp
  | d :: ds, ns, j, e => by
    cases d with
    | int i =>
      unfold asInts at e
      cases q : asInts ds with
      | none => rw [q] at e; cases e
      | some ms =>
        rw [q] at e
        have e2 : i :: ms = ns := Option.some.inj e
        subst e2
        cases j with
        | zero => rfl
        | succ j =>
          rw [List.getElem?_cons_succ, List.getElem?_cons_succ]
          exact asInts_at q
    | _ => cases e
theorem attr_ok {o : Expr} {f : Str} {env : PySem.Env} (h : ((pName o).isSome || (pCall o).isSome) = true) : attributeBase o f env (eval o env) = eval o env := by
  rw [Bool.or_eq_true] at h
  rcases h with h | h
  · cases q : pName o with
    | none => rw [q] at h; cases h
    | some x =>
      obtain ⟨p, rfl⟩ := pName_ok q
      rfl
  · cases q : pCall o with
    | none => rw [q] at h; cases h
    | some x =>
      obtain ⟨x, e, es⟩ := x
      obtain ⟨p, pos, rfl⟩ := pCall_ok q
      rfl
theorem snd_index (A : Sound T Φ k a) (B : Sound T Φ k b) : Sound T Φ k (.index a b) := fun X sc g C hs h => by
  unfold chk at h
  split at h
  · rename_i o m e0 hp
    obtain ⟨h1, h5⟩ := and2 h
    obtain ⟨h1, h4⟩ := and2 h1
    obtain ⟨h1, h3⟩ := and2 h1
    obtain ⟨h1, h2⟩ := and2 h1
    obtain ⟨e, hg, he⟩ := of_bindE hp
    obtain ⟨ap, cp, rfl, hl⟩ := pMeth_ok he
    have e1 := of_decide_eq_true h1
    subst e1
    have Ax := A X sc (.ex o) C hs h3
    have Bx := B X sc (.ex e0) C hs h4
    refine liftP (fun G0 H0 ρ => pe_imp (pe_bm PySem.F.plainAttrs_list PySem.F.slot_list_index PySem.F.type_list_index mt_index (Ax G0 H0 ρ).1 (pa_cons (Bx G0 H0 ρ).1 pa_nil (star_ok h2 [] X.env)) (attr_ok h5) (by rw [star_ok h2]; rfl) hl (star_ok h2 [] X.env) rfl) fun σ H Q q => ?_) rfl hg
    obtain ⟨G, L, sr, r, er, k⟩ := q
    obtain ⟨x1, e1, er⟩ := R.of_bind er
    obtain ⟨x2, e2, er⟩ := R.of_bind er
    obtain ⟨i, e3, er⟩ := R.of_bind er
    obtain ⟨ds, e4, er⟩ := R.of_bind er
    obtain ⟨ns, e5, er⟩ := R.of_bind er
    obtain ⟨j, e6, er⟩ := R.of_bind er
    have er := R.ok.inj er
    subst er
    have e5 := orBad_ok e5
    have e6 := orBad_ok e6
    obtain ⟨d, s, t⟩ := x1
    cases d with
    | lst es =>
      have e4 := R.ok.inj e4
      subst e4
      refine ⟨G, L, sr, _, e1, fun v1 H1 G1 sr1 g1 h1 r1 => ?_⟩
      obtain ⟨p, xs, ep, q, ra, ra2⟩ := r1
      refine ⟨?_, G1, L, sr1, x2, e2, fun v2 H2 G2 sr2 g2 h2 r2 => ?_⟩
      · rw [ep]
        exact .inl ⟨rfl, xs, sr1.wldH.seq q⟩
      · have r3 := RepW.s r2
        rw [intOf_ok e3] at r3
        have exs := ra.asInts e5
        subst exs
        obtain ⟨hj, hz, hno⟩ := List.findIdx?_eq_some_iff_getElem.mp e6
        refine ⟨p, _, .int i, j, .int i, ep, by rw [Rep.intE r3], h2.seq (sr1.wldH.seq q), rfl, ?_, ?_, by simp [eqV], fun m z' hm hz' => ?_, k _ H2 G2 sr2 (g1.trans g2) (h1.trans h2) (RepV.at (W := G2) (.int _) rfl)⟩
        · rw [List.all_map]
          exact List.all_eq_true.mpr fun _ _ => rfl
        · have ez : ns[j] = i := by simpa using hz
          rw [List.getElem?_map, List.getElem?_eq_getElem hj, ez]
          rfl
        · have hml : m < ns.length := Nat.lt_trans hm hj
          rw [List.getElem?_map, List.getElem?_eq_getElem hml] at hz'
          have ez' : V.int ns[m] = z' := Option.some.inj hz'
          subst ez'
          have := hno m hm
          simpa [eqV] using this
    | _ => cases e4
  · cases h

/-! ### walks -/
theorem goal_it {e tg : Expr} (h : ∀ G0 H0 ρ, PI X tg e (tIv X.K G0 H0 ρ (ev Φ m ρ))) : Goal Φ X m (.it e tg) := h
theorem snd_rng1 (A : Sound T Φ k a) : Sound T Φ k (.rng1 a) := fun X sc g C hs h => by
  unfold chk at h
  split at h
  · rename_i e tg
    split at h
    · rename_i f x hp
      obtain ⟨h1, h4⟩ := and2 h
      obtain ⟨h1, h3⟩ := and2 h1
      obtain ⟨h1, h2⟩ := and2 h1
      obtain ⟨p, pos, rfl⟩ := pCall_ok hp
      have e1 := of_decide_eq_true h1
      subst e1
      obtain ⟨g1, g2⟩ := gl_of hs h2
      have Ax := A X sc (.ex x) C hs h4
      refine goal_it fun G0 H0 ρ => pi_imp (pi_range1 g1 (C.blt _ (by decide)) (pa_cons (Ax G0 H0 ρ).1 pa_nil (star_ok h3 [] X.env)) (star_ok h3 [] X.env)) fun σ H Q q => ?_
      obtain ⟨G, L, sr, r, ds, er, ei, k⟩ := q
      obtain ⟨x1, e1, er⟩ := R.of_bind er
      obtain ⟨j, e2, er⟩ := R.of_bind er
      obtain ⟨c, er⟩ := R.of_chk er
      have er := R.ok.inj er
      subst er
      have ei := R.ok.inj ei
      subst ei
      refine ⟨G, L, sr, x1, e1, fun v1 H1 G1 sr1 g1 h1 r1 => ?_⟩
      have r3 := RepW.s r1
      rw [intOf_ok e2] at r3
      exact ⟨j, by rw [Rep.intE r3], (rngOk_ok c).1, (rngOk_ok c).2, k _ (fun _ => True) H1 G1 sr1 g1 h1 trivial wk_rng⟩
    · cases h
  · cases h
theorem snd_rng2 (A : Sound T Φ k a) (B : Sound T Φ k b) : Sound T Φ k (.rng2 a b) := fun X sc g C hs h => by
  unfold chk at h
  split at h
  · rename_i e tg
    split at h
    · rename_i f x y hp
      obtain ⟨h1, h6⟩ := and2 h
      obtain ⟨h1, h5⟩ := and2 h1
      obtain ⟨h1, h4⟩ := and2 h1
      obtain ⟨h1, h3⟩ := and2 h1
      obtain ⟨h1, h2⟩ := and2 h1
      obtain ⟨p, pos, rfl⟩ := pCall_ok hp
      have e1 := of_decide_eq_true h1
      subst e1
      obtain ⟨g1, g2⟩ := gl_of hs h2
      have Ax := A X sc (.ex x) C hs h5
      have Bx := B X sc (.ex y) C hs h6
      refine goal_it fun G0 H0 ρ => pi_imp (pi_range2 g1 (C.blt _ (by decide)) (pa_cons (Ax G0 H0 ρ).1 (pa_cons (Bx G0 H0 ρ).1 pa_nil (star_ok h4 [] X.env)) (star_ok h3 [y] X.env)) (by rw [star_ok h3, star_ok h4]; rfl) (star_ok h4 [] X.env)) fun σ H Q q => ?_
      obtain ⟨G, L, sr, r, ds, er, ei, k⟩ := q
      obtain ⟨x1, e1, er⟩ := R.of_bind er
      obtain ⟨x2, e2, er⟩ := R.of_bind er
      obtain ⟨i, e3, er⟩ := R.of_bind er
      obtain ⟨j, e4, er⟩ := R.of_bind er
      obtain ⟨c, er⟩ := R.of_chk er
      have er := R.ok.inj er
      subst er
      have ei := R.ok.inj ei
      subst ei
      refine ⟨G, L, sr, x1, e1, fun v1 H1 G1 sr1 g1 h1 r1 => ⟨G1, L, sr1, x2, e2, fun v2 H2 G2 sr2 g2 h2 r2 => ?_⟩⟩
      have r3 := RepW.s r1
      rw [intOf_ok e3] at r3
      have r4 := RepW.s r2
      rw [intOf_ok e4] at r4
      exact ⟨i, j, by rw [Rep.intE r3, Rep.intE r4], ⟨(rngOk_ok c.1).1, (rngOk_ok c.1).2, (rngOk_ok c.2).1, (rngOk_ok c.2).2⟩, k _ (fun _ => True) H2 G2 sr2 (g1.trans g2) (h1.trans h2) trivial wk_rng⟩
    · cases h
  · cases h
/-- enumerate(x), a list or a tuple -/
def iEnumA (K : PySem.W.Frag) (ta : TA) : TI := fun σ H R => ta σ H fun vs H1 => ∃ a xs, vs = [.ref a] ∧ ((SqL K H1 a xs ∧ R (Ite K a) H1) ∨ (SqT K H1 a xs ∧ R (IteT K a) H1))
theorem pi_enumA {e : Expr} {ta : TA} {p pos tpos : Pos} {elts : List Expr} {kk : Nat} (hg : Gl X "enumerate") (hm : X.mg "enumerate" = none) (ha : PA X [e] ta) (hs : starEach [e] X.env = [(false, eval e X.env)]) :
    PI X (.Tuple elts kk tpos) (.Call (.Name "enumerate" p) [e] [] pos) (iEnumA X.K ta) := by
  refine ⟨fun pins s σ H R I h => ?_⟩
  refine Call_ (ld_blt I hg hm boot_enumerate (PyProof.Rows.callWith_type1 (thn (ha.run pos pins s σ H _ I h) fun us s1 ⟨vs, H1, I1, r1, q1⟩ => ?_) hs rfl))
  obtain ⟨a, xs, ex, q⟩ := q1
  subst ex
  cases r1 with
  | cons r rr =>
    cases rr
    cases r
    rcases q with ⟨hq, q⟩ | ⟨hq, q⟩
    · obtain ⟨its, rv, p', hz⟩ := I1.list hq
      refine call_enumerate_list p'.isList fun h' he hit hsz hk => wpAny_pyIter_enum he ?_
      have I2 : Inv X pins σ H1 { s1 with heap := h' } := I1.kept (t' := s1.toks) hk
      refine ⟨s1.heap.objs.size + 1, [s1.heap.objs.size + 1, s1.heap.objs.size], _, _, H1, rfl, I2, turn_enum a (s1.heap.objs.size + 1) s1.heap.objs.size, ⟨⟨.none, he⟩, hit, Nat.succ_ne_self _⟩, fun b hb => ?_, q⟩
      have e' : b = s1.heap.objs.size + 1 ∨ b = s1.heap.objs.size := by simpa using hb
      have hle : s1.heap.objs.size ≤ b := by
        rcases e' with z | z
        · rw [z]; exact Nat.le_add_right _ _
        · rw [z]; exact Nat.le_refl _
      exact I1.fpOk hle (I1.hok.fresh hle)
    · obtain ⟨its, rv, p', hz⟩ := I1.tuple hq
      refine mp_call_enumerate_tuple p' fun h' he hit hsz hk => wpAny_pyIter_enum he ?_
      have I2 : Inv X pins σ H1 { s1 with heap := h' } := I1.kept (t' := s1.toks) hk
      refine ⟨s1.heap.objs.size + 1, [s1.heap.objs.size + 1, s1.heap.objs.size], _, _, H1, rfl, I2, turn_enumT a (s1.heap.objs.size + 1) s1.heap.objs.size, ⟨⟨.none, he⟩, hit, Nat.succ_ne_self _⟩, fun b hb => ?_, q⟩
      have e' : b = s1.heap.objs.size + 1 ∨ b = s1.heap.objs.size := by simpa using hb
      have hle : s1.heap.objs.size ≤ b := by
        rcases e' with z | z
        · rw [z]; exact Nat.le_add_right _ _
        · rw [z]; exact Nat.le_refl _
      exact I1.fpOk hle (I1.hok.fresh hle)
theorem some_ok {α : Type} {o : Option α} (h : o.isSome = true) : ∃ a, o = some a := by
  cases o with
  | none => cases h
  | some a => exact ⟨a, rfl⟩
theorem snd_enum (A : Sound T Φ k a) : Sound T Φ k (.enum a) := fun X sc g C hs h => by
  unfold chk at h
  split at h
  · rename_i e tg
    split at h
    · rename_i f x hp
      obtain ⟨h1, h5⟩ := and2 h
      obtain ⟨h1, h4⟩ := and2 h1
      obtain ⟨h1, h3⟩ := and2 h1
      obtain ⟨h1, h2⟩ := and2 h1
      obtain ⟨p, pos, rfl⟩ := pCall_ok hp
      have e1 := of_decide_eq_true h1
      subst e1
      obtain ⟨ts, ht⟩ := some_ok h4
      obtain ⟨k1, p1, rfl⟩ := pTuple_ok ht
      obtain ⟨g1, g2⟩ := gl_of hs h2
      have Ax := A X sc (.ex x) C hs h5
      refine goal_it fun G0 H0 ρ => pi_imp (pi_enumA g1 (C.blt _ (by decide)) (pa_cons (Ax G0 H0 ρ).1 pa_nil (star_ok h3 [] X.env)) (star_ok h3 [] X.env)) fun σ H Q q => ?_
      obtain ⟨G, L, sr, r, ds, er, ei, k⟩ := q
      obtain ⟨x1, e1, er⟩ := R.of_bind er
      obtain ⟨xs, e2, er⟩ := R.of_bind er
      have er := R.ok.inj er
      subst er
      have ei := R.ok.inj ei
      subst ei
      refine ⟨G, L, sr, x1, e1, fun v1 H1 G1 sr1 g1 h1 r1 => ?_⟩
      obtain ⟨d, s, t⟩ := x1
      cases d with
      | lst es =>
        have e2 := R.ok.inj e2
        subst e2
        obtain ⟨p, ys, ep, q, _, ra⟩ := r1
        exact ⟨p, ys, by rw [ep], .inl ⟨sr1.wldH.seq q, k _ (fun H => SqL X.K H p ys) H1 G1 sr1 g1 h1 q (wk_enum ra)⟩⟩
      | tup es =>
        have e2 := R.ok.inj e2
        subst e2
        obtain ⟨p, ys, ep, q, _, _, ra⟩ := r1
        exact ⟨p, ys, by rw [ep], .inr ⟨sqT_same sr1.wldH q, k _ (fun H => SqT X.K H p ys) H1 G1 sr1 g1 h1 q (wk_enumT ra)⟩⟩
      | _ => cases e2
    · cases h
  · cases h
theorem snd_rev (A : Sound T Φ k a) : Sound T Φ k (.rev a) := fun X sc g C hs h => by
  unfold chk at h
  split at h
  · rename_i e tg
    split at h
    · rename_i f x hp
      obtain ⟨h1, h4⟩ := and2 h
      obtain ⟨h1, h3⟩ := and2 h1
      obtain ⟨h1, h2⟩ := and2 h1
      obtain ⟨p, pos, rfl⟩ := pCall_ok hp
      have e1 := of_decide_eq_true h1
      subst e1
      obtain ⟨g1, g2⟩ := gl_of hs h2
      have Ax := A X sc (.ex x) C hs h4
      refine goal_it fun G0 H0 ρ => pi_imp (RT.pi_revA g1 (C.blt _ (by decide)) (Ax G0 H0 ρ).1 (star_ok h3 [] X.env)) fun σ H Q q => ?_
      obtain ⟨G, L, sr, r, ds, er, ei, k⟩ := q
      obtain ⟨x1, e1, er⟩ := R.of_bind er
      obtain ⟨xs, e2, er⟩ := R.of_bind er
      have er := R.ok.inj er
      subst er
      have ei := R.ok.inj ei
      subst ei
      refine ⟨G, L, sr, x1, e1, fun v1 H1 G1 sr1 g1 h1 r1 => ?_⟩
      obtain ⟨d, s, t⟩ := x1
      cases d with
      | lst es =>
        have e2 := R.ok.inj e2
        subst e2
        obtain ⟨p, ys, ep, q, _, ra⟩ := r1
        exact ⟨p, ys, ep, .inl ⟨sr1.wldH.seq q, k _ (fun H => SqL X.K H p ys) H1 G1 sr1 g1 h1 q (wk_rev ra)⟩⟩
      | tup es =>
        have e2 := R.ok.inj e2
        subst e2
        obtain ⟨p, ys, ep, q, _, _, ra⟩ := r1
        exact ⟨p, ys, ep, .inr ⟨sqT_same sr1.wldH q, k _ (fun H => SqT X.K H p ys) H1 G1 sr1 g1 h1 q (wk_revT ra)⟩⟩
      | _ => cases e2
    · cases h
  · cases h
theorem zipD_get {xs ys : List D} {i : Nat} {x y : D} (h1 : xs[i]? = some x) (h2 : ys[i]? = some y) : (zipD xs ys)[i]? = some (.tup [x, y]) := by
  unfold zipD
  rw [List.getElem?_zipWith, h1, h2]
theorem zipD_len {xs ys : List D} : (zipD xs ys).length = min xs.length ys.length := by
  unfold zipD
  rw [List.length_zipWith]
theorem wk_zip {K : PySem.W.Frag} {W : Hp} {a b : Addr} {xs ys : List V} {ds es : List D} (r : RepAll K W xs ds) (q : RepAll K W ys es) : Wk K (Itz K a b) (fun H => SqL K H a xs ∧ SqL K H b ys) W (zipD ds es) where
  mono := fun H H' s h => ⟨s.seq h.1, s.seq h.2⟩
  go := fun i H h hi => by
    rw [zipD_len, ← r.length, ← q.length] at hi
    have h1 : i < xs.length := by omega
    have h2 : i < ys.length := by omega
    exact ⟨xs, ys, xs[i], ys[i], h.1, h.2, List.getElem?_eq_getElem h1, List.getElem?_eq_getElem h2⟩
  stop := fun i H h hi => by
    rw [zipD_len, ← r.length, ← q.length] at hi
    exact ⟨xs, ys, h.1, h.2, by omega⟩
  yl := fun i H x H' h hi y => by
    obtain ⟨T, x', y', e, hT, eH, y1, y2⟩ := y
    obtain ⟨d1, e1, e2⟩ := r.at (y1 xs h.1)
    obtain ⟨d2, e3, e4⟩ := q.at (y2 ys h.2)
    exact ⟨_, zipD_get e1 e3, .new hT eH e rfl (.cons e2 (.cons e4 .nil))⟩
theorem wk_zipT {K : PySem.W.Frag} {W : Hp} {a b : Addr} {xs ys : List V} {ds es : List D} (r : RepAll K W xs ds) (q : RepAll K W ys es) : Wk K (RZ.ItzT K a b) (fun H => SqT K H a xs ∧ SqT K H b ys) W (zipD ds es) where
  mono := fun H H' s h => ⟨sqT_same s h.1, sqT_same s h.2⟩
  go := fun i H h hi => by
    rw [zipD_len, ← r.length, ← q.length] at hi
    have h1 : i < xs.length := by omega
    have h2 : i < ys.length := by omega
    exact ⟨xs, ys, xs[i], ys[i], h.1, h.2, List.getElem?_eq_getElem h1, List.getElem?_eq_getElem h2⟩
  stop := fun i H h hi => by
    rw [zipD_len, ← r.length, ← q.length] at hi
    exact ⟨xs, ys, h.1, h.2, by omega⟩
  yl := fun i H x H' h hi y => by
    obtain ⟨T, x', y', e, hT, eH, y1, y2⟩ := y
    obtain ⟨d1, e1, e2⟩ := r.at (y1 xs h.1)
    obtain ⟨d2, e3, e4⟩ := q.at (y2 ys h.2)
    exact ⟨_, zipD_get e1 e3, .new hT eH e rfl (.cons e2 (.cons e4 .nil))⟩
theorem snd_zip (A : Sound T Φ k a) (B : Sound T Φ k b) : Sound T Φ k (.zip a b) := fun X sc g C hs h => by
  unfold chk at h
  split at h
  · rename_i e tg
    split at h
    · rename_i f x y hp
      obtain ⟨h1, h7⟩ := and2 h
      obtain ⟨h1, h6⟩ := and2 h1
      obtain ⟨h1, h5⟩ := and2 h1
      obtain ⟨h1, h4⟩ := and2 h1
      obtain ⟨h1, h3⟩ := and2 h1
      obtain ⟨h1, h2⟩ := and2 h1
      obtain ⟨p, pos, rfl⟩ := pCall_ok hp
      have e1 := of_decide_eq_true h1
      subst e1
      obtain ⟨ts, ht⟩ := some_ok h5
      obtain ⟨k1, p1, rfl⟩ := pTuple_ok ht
      obtain ⟨g1, g2⟩ := gl_of hs h2
      have Ax := A X sc (.ex x) C hs h6
      have Bx := B X sc (.ex y) C hs h7
      refine goal_it fun G0 H0 ρ => pi_imp (RZ.pi_zipA g1 (C.blt _ (by decide)) (pa_cons (Ax G0 H0 ρ).1 (pa_cons (Bx G0 H0 ρ).1 pa_nil (star_ok h4 [] X.env)) (star_ok h3 [y] X.env)) (star_ok h3 [y] X.env) (back_ok (by simp [h4]))) fun σ H Q q => ?_
      obtain ⟨G, L, sr, r, ds, er, ei, k⟩ := q
      obtain ⟨x1, e1, er⟩ := R.of_bind er
      obtain ⟨x2, e2, er⟩ := R.of_bind er
      refine ⟨G, L, sr, x1, e1, fun v1 H1 G1 sr1 g1 h1 r1 => ⟨G1, L, sr1, x2, e2, fun v2 H2 G2 sr2 g2 h2 r2 => ?_⟩⟩
      have r1 := RepV.mono sr1 g2 h2 r1
      obtain ⟨d1, s1, t1⟩ := x1
      obtain ⟨d2, s2, t2⟩ := x2
      cases d1 with
      | lst xs =>
        cases d2 with
        | lst ys =>
          have er := R.ok.inj er
          subst er
          have ei := R.ok.inj ei
          subst ei
          obtain ⟨p, us, ep, q, _, ra⟩ := r1
          obtain ⟨p2, us2, ep2, q2, _, ra2⟩ := r2
          exact ⟨p, p2, us, us2, by rw [ep, ep2], .inl ⟨sr2.wldH.seq q, sr2.wldH.seq q2, k _ (fun H => SqL X.K H p us ∧ SqL X.K H p2 us2) H2 G2 sr2 (g1.trans g2) (h1.trans h2)
            ⟨(sr2.wldSub mem_l).seq q, (sr2.wldSub mem_r).seq q2⟩ (wk_zip (RepAll.mono (sr2.wldSub mem_l) ra) (RepAll.mono (sr2.wldSub mem_r) ra2))⟩⟩
        | _ => cases er
      | tup xs =>
        cases d2 with
        | tup ys =>
          have er := R.ok.inj er
          subst er
          have ei := R.ok.inj ei
          subst ei
          obtain ⟨p, us, ep, q, _, _, ra⟩ := r1
          obtain ⟨p2, us2, ep2, q2, _, _, ra2⟩ := r2
          exact ⟨p, p2, us, us2, by rw [ep, ep2], .inr ⟨sqT_same sr2.wldH q, sqT_same sr2.wldH q2, k _ (fun H => SqT X.K H p us ∧ SqT X.K H p2 us2) H2 G2 sr2 (g1.trans g2) (h1.trans h2)
            ⟨sqT_same (sr2.wldSub mem_l) q, sqT_same (sr2.wldSub mem_r) q2⟩ (wk_zipT (RepAll.mono (sr2.wldSub mem_l) ra) (RepAll.mono (sr2.wldSub mem_r) ra2))⟩⟩
        | _ => cases er
      | _ => cases er
    · cases h
  · cases h
end
end Mp

set_option Elab.async false
set_option linter.all false
set_option maxRecDepth 100000
set_option maxHeartbeats 4000000
/-! Mp10: list comprehensions; every expression is sound. -/
namespace Mp
open PySem PySem.Spec PyProof.Rows L2

section
variable {K : PySem.W.Frag} {G0 G G' H H' : Hp} {H0 : B0} {ρ : Env} {σ : L2.St} {L L' : Lb} {S : List Nat}
theorem Own.monoN (g : Same G G') (h : ∀ a p o, L a = some p → p ≠ [] → H a = some o → H' a = some o) (l : ∀ a p, p ≠ [] → L a = some p → L' a = some p) : ∀ (k : Nat) (p : List Nat) (v : V) (d : D), p ≠ [] → Own K G H L k p v d → Own K G' H' L' k p v d := by
  intro k
  induction k with
  | zero => exact fun p v d _ r => Rep.mono g r
  | succ k ih =>
    rintro p v d hp ⟨a, xs, ds, e1, e2, e3, e4, e5, e6⟩
    exact ⟨a, xs, ds, e1, e2, h a p _ e4 hp e3, l _ _ hp e4, e5, fun j x e q1 q2 => ih _ x e (by simp) (e6 j x e q1 q2)⟩
/-- a list that is being made: labelled [] -/
noncomputable def lbD (L : Lb) (D : Addr) : Lb := open Classical in fun a => if a = D then some [] else L a
theorem lbD_same (L : Lb) (D : Addr) : lbD L D D = some [] := by
  unfold lbD
  exact if_pos rfl
theorem lbD_ne {L : Lb} {D a : Addr} (h : a ≠ D) : lbD L D a = L a := by
  unfold lbD
  exact if_neg h
theorem not_inS_nil : ¬ inS [] S := fun ⟨_, e, _⟩ => by cases e
theorem SR.begin (s : SR K G0 H0 ρ σ G H L) {p : Addr} {o : HO} (hp : H p = none) : SR K G0 H0 ρ σ G (upd H p o) (lbD L p) := by
  have hL : L p = none := by
    cases q : L p with
    | none => rfl
    | some x =>
      obtain ⟨_, _, u, e⟩ := s.lab p x q
      rw [hp] at e
      cases e
  have hl : ∀ a x, L a = some x → lbD L p a = some x := fun a x e => by
    rw [lbD_ne (fun z => by rw [z, hL] at e; cases e)]
    exact e
  refine ⟨s.gh.trans (same_new hp), s.g0, s.h0.trans (same_new hp), s.gnew, fun a x e => ?_, s.len, fun i d k e => ?_, s.fx⟩
  · by_cases h : a = p
    · subst h
      exact ⟨s.gh.free hp, s.h0.free hp, o, upd_same⟩
    · rw [lbD_ne h] at e
      obtain ⟨h1, h2, u, h3⟩ := s.lab a x e
      exact ⟨h1, h2, u, same_new hp _ _ h3⟩
  · obtain ⟨v, e1, r⟩ := s.slot i d k e
    exact ⟨v, e1, Own.mono (Same.refl G) (same_new hp) hl r⟩
theorem SR.mut0 (s : SR K G0 H0 ρ σ G H L) {p : Addr} {o : HO} (hp : L p = some []) : SR K G0 H0 ρ σ G (upd H p o) L := by
  obtain ⟨h1, h2, u, h3⟩ := s.lab p _ hp
  have hs : ∀ {F : Hp}, F p = none → Same F H → Same F (upd H p o) := fun {F} hF hs a x e => by
    rw [upd_ne (ne_of_none e hF)]
    exact hs _ _ e
  refine ⟨hs h1 s.gh, s.g0, hs h2 s.h0, s.gnew, fun a x e => ?_, s.len, fun i d k e => ?_, s.fx⟩
  · obtain ⟨q1, q2, w, q3⟩ := s.lab a x e
    by_cases h : a = p
    · subst h
      exact ⟨q1, q2, o, upd_same⟩
    · exact ⟨q1, q2, w, by rw [upd_ne h]; exact q3⟩
  · obtain ⟨v, e1, r⟩ := s.slot i d k e
    refine ⟨v, e1, Own.monoN (Same.refl G) (fun a x w e hx q => ?_) (fun _ _ _ q => q) k [i] v d (by simp) r⟩
    rw [upd_ne (fun z => by rw [z, hp] at e; cases e; exact hx rfl)]
    exact q
theorem wld_mut0 {p : Addr} {o : HO} (hp : L p = some []) : wld G (upd H p o) L S = wld G H L S := funext fun a => by
  rcases labc L a with h | ⟨x, h⟩
  · rw [wld_none h, wld_none h]
  · by_cases hi : inS x S
    · rw [wld_in h hi, wld_in h hi, upd_ne]
      intro z
      rw [z, hp] at h
      cases h
      exact not_inS_nil hi
    · rw [wld_out h hi, wld_out h hi]
theorem SR.unD {q0 : Addr} (s : SR K G0 H0 ρ σ G H (lbD L q0)) (hL : L q0 = none) : SR K G0 H0 ρ σ G H L := by
  refine ⟨s.gh, s.g0, s.h0, s.gnew, fun a x e => ?_, s.len, fun i d k e => ?_, s.fx⟩
  · have h : a ≠ q0 := fun z => by rw [z, hL] at e; cases e
    exact s.lab a x (by rw [lbD_ne h]; exact e)
  · obtain ⟨v, e1, r⟩ := s.slot i d k e
    refine ⟨v, e1, Own.monoN (Same.refl G) (fun _ _ _ _ _ q => q) (fun a x hx q => ?_) k [i] v d (by simp) r⟩
    by_cases h : a = q0
    · subst h
      rw [lbD_same] at q
      cases q
      exact absurd rfl hx
    · rw [lbD_ne h] at q
      exact q
theorem wld_unD {q0 : Addr} (s : SR K G0 H0 ρ σ G H (lbD L q0)) : Same (wld G H (lbD L q0) S) (wld G H L S) := fun a x e => by
  by_cases h : a = q0
  · subst h
    rw [wld_out (lbD_same L a) not_inS_nil] at e
    cases e
  · rcases labc L a with q | ⟨y, q⟩
    · rw [wld_none (by rw [lbD_ne h]; exact q)] at e
      rw [wld_none q]
      exact e
    · by_cases hi : inS y S
      · rw [wld_in (by rw [lbD_ne h]; exact q) hi] at e
        rw [wld_in q hi]
        exact e
      · rw [wld_out (by rw [lbD_ne h]; exact q) hi] at e
        cases e
theorem wld_begin (s : SR K G0 H0 ρ σ G H L) {p : Addr} {o : HO} (hp : H p = none) : Same (wld G H L S) (wld G (upd H p o) (lbD L p) S) := fun a x e => by
  rcases labc L a with q | ⟨y, q⟩
  · rw [wld_none q] at e
    have h : a ≠ p := fun z => by
      rw [z, s.gh.free hp] at e
      cases e
    rw [wld_none (by rw [lbD_ne h]; exact q)]
    exact e
  · have h : a ≠ p := fun z => by
      obtain ⟨_, _, u, e2⟩ := s.lab a y q
      rw [z, hp] at e2
      cases e2
    by_cases hi : inS y S
    · rw [wld_in q hi] at e
      rw [wld_in (by rw [lbD_ne h]; exact q) hi, upd_ne h]
      exact e
    · rw [wld_out q hi] at e
      cases e

/-! ### readings that find their state -/
def tEvX (K : PySem.W.Frag) (G0 : Hp) (H0 : B0) (f : Env → R V3) : TE := fun σ H Q => ∃ z ρ, tEv K G0 ⟨H0.h, z⟩ ρ (f ρ) σ H Q
def tTstX (K : PySem.W.Frag) (G0 : Hp) (H0 : B0) (f : Env → R Bool) : TT := fun σ H Q => ∃ z ρ, tTst K G0 ⟨H0.h, z⟩ ρ (f ρ) σ H Q
theorem lcGo_if {f : D → R V3} : ∀ ds : List D, lcGo f ds = lcGoIf (fun _ => .ok true) f ds
  | [] => rfl
  | d :: ds => by
    unfold lcGo lcGoIf
    rw [lcGo_if ds]
    rfl
/-- how an evaluation goes on whose value is a new list that nobody else holds -/
abbrev GoF (K : PySem.W.Frag) (G0 : Hp) (H0 : B0) (ρ : Env) (σ : L2.St) (G H : Hp) (L : Lb) (ds : List D) (t : List Nat) (Q : VK) : Prop := ∀ p xs H' G', SR K G0 H0 ρ σ G' H' L → Same G G' → Same H H' → H' p = some (.lst xs) → G' p = none → H0 p = none → L p = none →
  RepAll K (wld G' H' L t) xs ds → Q (.ref p) H'
theorem Go.f {ds : List D} {t : List Nat} {Q : VK} (k : Go K G0 H0 ρ σ G H L (.new (.lst ds) t) Q) : GoF K G0 H0 ρ σ G H L ds t Q := fun p xs H' G' s g h hp gp h0 lp ra =>
  k (.ref p) H' (upd G' p (.lst xs)) (s.adopt hp h0 gp lp) (g.trans (same_new gp)) h (RepV.of (.lst (SqL.of (by rw [wld_none lp, upd_same])) (RepAll.mono (s.wldMono (same_new gp) (Same.refl _)) ra)))
/-- .. laid at one stroke -/
theorem GoF.lst (sr : SR K G0 H0 ρ σ G H L) {xs : List V} {ds : List D} {t : List Nat} {Q : VK} (k : GoF K G0 H0 ρ σ G H L ds t Q) (ra : RepAll K (wld G H L t) xs ds) : ∀ p, H p = none → Q (.ref p) (upd H p (.lst xs)) := fun p hp => by
  have hL : L p = none := by
    cases q : L p with
    | none => rfl
    | some x =>
      obtain ⟨_, _, u, e⟩ := sr.lab p x q
      rw [hp] at e
      cases e
  exact k p xs _ G (sr.grow (Same.refl G) (same_new hp) (sr.gh.trans (same_new hp)) fun a o e => .inl e) (Same.refl G) (same_new hp) upd_same (sr.gh.free hp) (sr.h0.free hp) hL (RepAll.mono (sr.wldMono (Same.refl G) (same_new hp)) ra)
/-- how a comprehension's turns go -/
theorem lc_turns {t : Tg} {own : List Nat} {cf : Env → R Bool} {f : Env → R V3} {r : R V3} {v : V3} {ds : List D} {es : List D × List Nat} {Q : VK}
    (sr : SR K G0 H0 ρ σ G H L) (er : r = .ok v) (ei : items v.d = .ok ds) (ht : t.slots.all (fun i => own.contains i) = true)
    (eg : lcGoIf (fun d => do
      let ρ1 ← t.set d ((ρ.frz v.t).wipe own)
      cf ρ1) (fun d => do
      let ρ1 ← t.set d ((ρ.frz v.t).wipe own)
      f ρ1) ds = .ok es) (hz : es.1.length ≤ szl) (k : GoF K G0 H0 ρ σ G H L es.1 (v.t ++ es.2) Q) :
    tLc (tIv K G0 H0 ρ r) (gTg K t) (tTstX K G0 H0 cf) (tEvX K G0 H0 f) own σ H Q := by
  refine ⟨G, L, sr, v, ds, er, ei, fun J Sd H1 G1 sr1 g1 h1 hSd wk q0 hD => ?_⟩
  have ht : ∀ i ∈ t.slots, i ∈ own := fun i hi => by
    have := List.all_eq_true.mp ht i hi
    simpa using this
  have srL := sr1.lend v.t
  have hLD : lbO L v.t q0 = none := by
    cases q : lbO L v.t q0 with
    | none => rfl
    | some x =>
      obtain ⟨_, _, u, e⟩ := srL.lab q0 x q
      rw [hD] at e
      cases e
  let Lb := lbO L v.t
  let Gb := wld G1 H1 L v.t
  let P : Nat → Hp → Prop := fun i H' => ∃ Gi acc dacc rest, SR K G0 H0 (ρ.frz v.t) σ Gi H' (lbD Lb q0) ∧ Same Gb Gi ∧ Same H1 H' ∧ H' q0 = some (.lst acc) ∧
    RepAll K (wld Gi H' (lbD Lb q0) es.2) acc dacc ∧ lcGoIf (fun d => do
      let ρ1 ← t.set d ((ρ.frz v.t).wipe own)
      cf ρ1) (fun d => do
      let ρ1 ← t.set d ((ρ.frz v.t).wipe own)
      f ρ1) (ds.drop i) = .ok rest ∧ es.1 = dacc ++ rest.1 ∧ ∀ j ∈ rest.2, j ∈ es.2
  have hSd' : ∀ {H'}, Same H1 H' → Sd H' := fun {H'} h => wk.mono _ _ (sr1.wldH.trans h) hSd
  refine ⟨fun i m H' => m = ds.length - i ∧ i ≤ ds.length ∧ P i H', ⟨ds.length, by simp, Nat.zero_le _, Gb, [], [], es, srL.begin hD, Same.refl _, same_new hD, upd_same, .nil, by simpa using eg, rfl, fun _ h => h⟩, ?_⟩
  rintro i m H' ⟨rfl, hi, Gi, acc, dacc, rest, sri, gi, hi', hacc, ra, eg', ees, hsub⟩
  by_cases hlt : i < ds.length
  · refine .inr ⟨wk.go i H' (hSd' hi') hlt, P (i + 1), fun H'' p => ⟨ds.length - (i + 1), by omega, rfl, hlt, p⟩, fun x H2 y => ?_⟩
    obtain ⟨d, ed, yl⟩ := wk.yl i H' x H2 (hSd' hi') hlt y
    -- the item's state
    have step : ∃ G2, SR K G0 H0 (ρ.frz v.t) σ G2 H2 (lbD Lb q0) ∧ Same Gi G2 ∧ Same H' H2 ∧ Rep K G2 x d := by
      cases yl with
      | same e r =>
        subst e
        exact ⟨Gi, sri, Same.refl _, Same.refl _, Rep.mono gi r⟩
      | @new T' xs es' hT e ex ed r =>
        subst e ex ed
        exact ⟨_, sri.new hT, same_new (sri.gh.free hT), same_new hT, .tup (SqT.of upd_same) (RepAll.mono (gi.trans (same_new (sri.gh.free hT))) r)⟩
    obtain ⟨G2, sr2, g2, h2, rx⟩ := step
    have edrop : ds.drop i = d :: ds.drop (i + 1) := by
      rw [← List.getElem_cons_drop hlt]
      congr 1
      exact Option.some.inj ((List.getElem?_eq_getElem hlt).symm.trans ed)
    rw [edrop] at eg'
    unfold lcGoIf at eg'
    obtain ⟨b, eb, eg'⟩ := R.of_bind eg'
    obtain ⟨ρ1, eρ, eb⟩ := R.of_bind eb
    refine gTg_of (sr2.wipe own) rx eρ fun σ1 s1 hw => ⟨(hw own ht).trans wipe_wipe, _, ρ1, G2, lbD Lb q0, s1, b, eb, fun H3 G3 sr3 g3 h3 => ?_⟩
    have back : ∀ {z ρ' σ' G' H' ρ2 σ2 G2 H2}, SR K G0 ⟨H0.h, z⟩ ρ' σ' G' H' (lbD Lb q0) → SR K G0 H0 ρ2 σ2 G2 H2 (lbD Lb q0) → Same G2 G' → Same H2 H' → SR K G0 H0 ρ2 σ2 G' H' (lbD Lb q0) := fun {z ρ' σ' G' H' ρ2 σ2 G2 H2} s' s2 g h =>
      ⟨s'.gh, s'.g0, s'.h0, s'.gnew, s'.lab, s2.len, fun i d k e => by
        obtain ⟨w, e1, r⟩ := s2.slot i d k e
        exact ⟨w, e1, Own.mono g h (fun _ _ q => q) r⟩, s2.fx⟩
    cases b with
    | true =>
      rw [if_pos rfl] at eg'
      show tEvX K G0 H0 f σ1 H3 _
      obtain ⟨w, ew, eg'⟩ := R.of_bind eg'
      obtain ⟨ρ1', eρ', ew⟩ := R.of_bind ew
      rw [eρ] at eρ'
      have eρ' := R.ok.inj eρ'
      subst eρ'
      obtain ⟨rest', er', eg'⟩ := R.of_bind eg'
      have eg' := R.ok.inj eg'
      subst eg'
      refine ⟨_, ρ1, G3, lbD Lb q0, sr3, w, ew, fun yv H4 G4 sr4 g4 h4 r4 => ⟨acc, h4 _ _ (h3 _ _ (h2 _ _ hacc)), ?_, ?_⟩⟩
      · rw [ra.length]
        have : es.1.length = dacc.length + (rest'.1.length + 1) := by
          rw [ees, List.length_append, List.length_cons]
        have hz2 : es.1.length ≤ sizeLine := by
          rw [← szl_eq]
          exact hz
        omega
      · have s5 := back sr4 sri (g2.trans (g3.trans g4)) (h2.trans (h3.trans h4))
        have m5 := sri.wldMono (S := es.2) (g2.trans (g3.trans g4)) (h2.trans (h3.trans h4))
        refine ⟨G4, acc ++ [yv], dacc ++ [w.d], rest', s5.mut0 (lbD_same Lb q0), gi.trans (g2.trans (g3.trans g4)), fun a o e => ?_, upd_same, ?_, er', ?_, fun j hj => hsub j (List.mem_append_right _ hj)⟩
        · rw [upd_ne (ne_of_none e hD)]
          exact h4 _ _ (h3 _ _ (h2 _ _ (hi' _ _ e)))
        · rw [wld_mut0 (lbD_same Lb q0)]
          refine (RepAll.mono m5 ra).append (.cons (Rep.mono (s5.wldSub fun j hj => hsub j (List.mem_append_left _ hj)) (RepW.s r4)) .nil)
        · rw [ees, List.append_assoc]
          rfl
    | false =>
      rw [if_neg Bool.false_ne_true] at eg'
      show P (i + 1) H3
      have m5 := sri.wldMono (S := es.2) (g2.trans g3) (h2.trans h3)
      exact ⟨G3, acc, dacc, rest, back sr3 sri (g2.trans g3) (h2.trans h3), gi.trans (g2.trans g3), hi'.trans (h2.trans h3), h3 _ _ (h2 _ _ hacc), RepAll.mono m5 ra, eg', ees, hsub⟩
  · have e : i = ds.length := by omega
    subst e
    refine .inl ⟨wk.stop _ H' (hSd' hi') (Nat.le_refl _), ?_⟩
    rw [List.drop_length] at eg'
    have eg' := R.ok.inj eg'
    subst eg'
    have ees : es.1 = dacc := by
      rw [ees, List.append_nil]
    have hGD : Gi q0 = none := (sri.lab q0 _ (lbD_same Lb q0)).1
    have h0D : H0 q0 = none := (sri.lab q0 _ (lbD_same Lb q0)).2.1
    have sF := sri.unD hLD
    obtain ⟨G', s', g', n', w'⟩ := sr1.unlend (S := v.t) hi' gi sF.gh (fun a o e => by
      rcases sF.gnew a o e with z | z
      · exact .inl (sr1.gwld _ _ (sr1.g0 _ _ z))
      · exact .inr z) (fun a p q hp => (sF.lab a p (lbO_out q hp)).1)
    have hLq : L q0 = none := by
      cases q : L q0 with
      | none => rfl
      | some x =>
        obtain ⟨_, _, u, e⟩ := sr1.lab q0 x q
        rw [hD] at e
        cases e
    exact k q0 acc H' G' s' (g1.trans g') (h1.trans hi') hacc (n' _ hGD) h0D hLq (RepAll.mono ((wld_unD sri).trans (w' es.2)) (ees ▸ ra))
end

section
variable {T : Tb} {Φ : Nat → Fn} {k : Nat} {X : Cx} {m a b c : M} {e : Expr} {g : Ag}
theorem tgN_blk {cs sc : Scope} {s : Shared} {H : Hp} {cl : List (Str × Addr)} {Ca : Addr} {fp : List Addr} (hs : X.env.scope = sc) : TgOk (X.blk s H cs (compEnvC cs cl Ca X.env) fp) cs := fun x h => by
  unfold tgN at h
  rw [Bool.or_eq_true] at h
  rcases h with h | h
  · have h := of_decide_eq_true h
    have h2 := lookup_relS_keep (sc := X.env.scope) (by decide) h
    exact ⟨.inl h2, .inr h2⟩
  · have h := of_decide_eq_true h
    have h2 := lookup_relS_keep (sc := X.env.scope) (by decide) h
    refine ⟨.inr h2, .inl ?_⟩
    show (cs.names.lookup x == some NameKind.cell) = true
    rw [h]
    rfl
theorem ownN_slots {N : List Str} : ∀ own : List Nat, (ownN N own).map (·.2) = own
  | [] => rfl
  | i :: r => by
    show i :: (ownN N r).map (·.2) = i :: r
    rw [ownN_slots r]
theorem Cn.blk {cs : Scope} {s : Shared} {H : Hp} {cl : List (Str × Addr)} {Ca : Addr} {fp : List Addr} (C : Cn T Φ k X) : Cn T Φ k (X.blk s H cs (compEnvC cs cl Ca X.env) fp) := ⟨C.N, C.calm, C.nd, C.room, C.blt, C.con, C.fns⟩
/-- what a comprehension's rules ask -/
structure LcP (X : Cx) (elt tg iter : Expr) (ifs : List Expr) (cs : Scope) (own : List (Str × Nat)) (wi : TI) (g : TG) (tt : TT) (te : TE) : Prop where
  hi : PI X tg iter wi
  ok : BlkOk X.N X.env.scope cs own
  hg : ∀ (s : Shared) (H : Hp) (Ca : Addr) (cl : List (Str × Addr)) (fp : List Addr), PG (X.blk s H cs (compEnvC cs cl Ca X.env) fp) tg g
  ht : ∀ (s : Shared) (H : Hp) (Ca : Addr) (cl : List (Str × Addr)) (fp : List Addr), PTs (X.blk s H cs (compEnvC cs cl Ca X.env) fp) ifs tt
  he : ∀ (s : Shared) (H : Hp) (Ca : Addr) (cl : List (Str × Addr)) (fp : List Addr), PE (X.blk s H cs (compEnvC cs cl Ca X.env) fp) elt te
  hs : ∀ x, foldedSetIterable iter X.env x = pure x
theorem lcP {t : Tg} {own : List Nat} (E : Sound T Φ k a) (I : Sound T Φ k b) {sc : Scope} (C : Cn T Φ k X) (hs : X.env.scope = sc) (h : chk T (.lc a t own b) sc g = true) :
    ∃ elt tg iter cs pos, g.e = some (.ListComp elt [⟨tg, iter, [], 0⟩] cs pos) ∧ t.slots.all (fun i => own.contains i) = true ∧
      ∀ G0 H0 ρ, LcP X elt tg iter [] cs (ownN T.N own) (tIv X.K G0 H0 ρ (ev Φ b ρ)) (gTg X.K t) (tTstX X.K G0 H0 fun _ => .ok true) (tEvX X.K G0 H0 (ev Φ a)) := by
  unfold chk at h
  split at h
  · rename_i elt tg iter cs hp
    obtain ⟨h1, h6⟩ := and2 h
    obtain ⟨h1, h5⟩ := and2 h1
    obtain ⟨h1, h4⟩ := and2 h1
    obtain ⟨h1, h3⟩ := and2 h1
    obtain ⟨h1, h2⟩ := and2 h1
    obtain ⟨e, hg, he⟩ := of_bindE hp
    obtain ⟨pos, rfl⟩ := pLC_ok he
    have Ix := I X sc (.it iter tg) C hs h5
    refine ⟨elt, tg, iter, cs, pos, hg, h4, fun G0 H0 ρ => ⟨Ix G0 H0 ρ, blkOk_by (by rw [C.N, hs]; exact h2), fun s H Ca cl fp => pg_tg (X := X.blk s H cs (compEnvC cs cl Ca X.env) fp) C.calm C.nd (tgN_blk hs) (by rw [C.N]; exact h3), fun s H Ca cl fp => ?_, fun s H Ca cl fp => ?_, fold_ok h1 X.env⟩⟩
    · exact ⟨fun pins s' σ H' Q I ⟨z, ρ', q⟩ => pts_nil.run pins s' σ H' Q I (by
        obtain ⟨G, L, sr, b, e, k⟩ := q
        have e := R.ok.inj e
        subst e
        exact k H' G sr (Same.refl G) (Same.refl H'))⟩
    · exact ⟨fun pins s' σ H' Q I ⟨z, ρ', q⟩ => (E (X.blk s H cs (compEnvC cs cl Ca X.env) fp) (relS cs sc) (.ex elt) C.blk (by rw [← hs]; rfl) h6 G0 ⟨H0.h, z⟩ ρ').1.run pins s' σ H' Q I q⟩
  · cases h
theorem lcIfP {t : Tg} {own : List Nat} (E : Sound T Φ k a) (I : Sound T Φ k b) (Cd : Sound T Φ k c) {sc : Scope} (C : Cn T Φ k X) (hs : X.env.scope = sc) (h : chk T (.lcIf a t own b c) sc g = true) :
    ∃ elt tg iter cd cs pos, g.e = some (.ListComp elt [⟨tg, iter, [cd], 0⟩] cs pos) ∧ t.slots.all (fun i => own.contains i) = true ∧
      ∀ G0 H0 ρ, LcP X elt tg iter [cd] cs (ownN T.N own) (tIv X.K G0 H0 ρ (ev Φ b ρ)) (gTg X.K t) (tTstX X.K G0 H0 (tst Φ c)) (tEvX X.K G0 H0 (ev Φ a)) := by
  unfold chk at h
  split at h
  · rename_i elt tg iter cd cs hp
    obtain ⟨h1, h7⟩ := and2 h
    obtain ⟨h1, h6⟩ := and2 h1
    obtain ⟨h1, h5⟩ := and2 h1
    obtain ⟨h1, h4⟩ := and2 h1
    obtain ⟨h1, h3⟩ := and2 h1
    obtain ⟨h1, h2⟩ := and2 h1
    obtain ⟨e, hg, he⟩ := of_bindE hp
    obtain ⟨pos, rfl⟩ := pLC_ok he
    have Ix := I X sc (.it iter tg) C hs h5
    refine ⟨elt, tg, iter, cd, cs, pos, hg, h4, fun G0 H0 ρ => ⟨Ix G0 H0 ρ, blkOk_by (by rw [C.N, hs]; exact h2), fun s H Ca cl fp => pg_tg (X := X.blk s H cs (compEnvC cs cl Ca X.env) fp) C.calm C.nd (tgN_blk hs) (by rw [C.N]; exact h3), fun s H Ca cl fp => ?_, fun s H Ca cl fp => ?_, fold_ok h1 X.env⟩⟩
    · exact ⟨fun pins s' σ H' Q I ⟨z, ρ', q⟩ => (pts_one (Cd (X.blk s H cs (compEnvC cs cl Ca X.env) fp) (relS cs sc) (.ex cd) C.blk (by rw [← hs]; rfl) h7 G0 ⟨H0.h, z⟩ ρ').2).run pins s' σ H' Q I q⟩
    · exact ⟨fun pins s' σ H' Q I ⟨z, ρ', q⟩ => (E (X.blk s H cs (compEnvC cs cl Ca X.env) fp) (relS cs sc) (.ex elt) C.blk (by rw [← hs]; rfl) h6 G0 ⟨H0.h, z⟩ ρ').1.run pins s' σ H' Q I q⟩
  · cases h
section
variable {K : PySem.W.Frag} {G0 G H : Hp} {H0 : B0} {ρ : Env} {σ : L2.St} {L : Lb} {Q : VK} {x : V3} {t : Tg} {own : List Nat}
theorem lc_read (N : List Str) (ht : t.slots.all (fun i => own.contains i) = true) (sr : SR K G0 H0 ρ σ G H L) (er : ev Φ (.lc a t own b) ρ = .ok x) (k : ∀ es u, x = .new (.lst es) u → GoF K G0 H0 ρ σ G H L es u Q) :
    tLc (tIv K G0 H0 ρ (ev Φ b ρ)) (gTg K t) (tTstX K G0 H0 fun _ => .ok true) (tEvX K G0 H0 (ev Φ a)) ((ownN N own).map (·.2)) σ H Q := by
  rw [ownN_slots]
  obtain ⟨v, e1, er⟩ := R.of_bind er
  obtain ⟨ds, e2, er⟩ := R.of_bind er
  obtain ⟨es, e3, er⟩ := R.of_bind er
  obtain ⟨hz, er⟩ := R.of_chk er
  have er := R.ok.inj er
  subst er
  rw [lcGo_if] at e3
  refine lc_turns (cf := fun _ => .ok true) (f := ev Φ a) sr e1 e2 ht ?_ hz (k _ _ rfl)
  have ec : ∀ (ds : List D) (es : List D × List Nat), lcGoIf (fun _ => .ok true) (fun d => do
      let ρ1 ← t.set d ((ρ.frz v.t).wipe own)
      ev Φ a ρ1) ds = .ok es → lcGoIf (fun d => do
      let ρ1 ← t.set d ((ρ.frz v.t).wipe own)
      R.ok true) (fun d => do
      let ρ1 ← t.set d ((ρ.frz v.t).wipe own)
      ev Φ a ρ1) ds = .ok es := by
    intro ds
    induction ds with
    | nil => exact fun es e => e
    | cons d ds ih =>
      intro es e
      unfold lcGoIf at e ⊢
      obtain ⟨b, eb, e⟩ := R.of_bind e
      have eb := R.ok.inj eb
      subst eb
      rw [if_pos rfl] at e
      obtain ⟨w, ew, e⟩ := R.of_bind e
      obtain ⟨ρ1, eρ, ew⟩ := R.of_bind ew
      obtain ⟨rest, er, e⟩ := R.of_bind e
      rw [eρ]
      show R.bind (ev Φ a ρ1) _ = _
      rw [ew]
      show R.bind _ _ = _
      rw [ih rest er]
      exact e
  exact ec ds es e3
theorem lcIf_read (N : List Str) (ht : t.slots.all (fun i => own.contains i) = true) (sr : SR K G0 H0 ρ σ G H L) (er : ev Φ (.lcIf a t own b c) ρ = .ok x) (k : ∀ es u, x = .new (.lst es) u → GoF K G0 H0 ρ σ G H L es u Q) :
    tLc (tIv K G0 H0 ρ (ev Φ b ρ)) (gTg K t) (tTstX K G0 H0 (tst Φ c)) (tEvX K G0 H0 (ev Φ a)) ((ownN N own).map (·.2)) σ H Q := by
  rw [ownN_slots]
  obtain ⟨v, e1, er⟩ := R.of_bind er
  obtain ⟨ds, e2, er⟩ := R.of_bind er
  obtain ⟨es, e3, er⟩ := R.of_bind er
  obtain ⟨hz, er⟩ := R.of_chk er
  have er := R.ok.inj er
  subst er
  exact lc_turns (cf := tst Φ c) (f := ev Φ a) sr e1 e2 ht e3 hz (k _ _ rfl)
end
theorem snd_lc (t : Tg) (own : List Nat) (E : Sound T Φ k a) (I : Sound T Φ k b) : Sound T Φ k (.lc a t own b) := fun X sc g C hs h => by
  obtain ⟨elt, tg, iter, cs, pos, hg, ht, P⟩ := lcP E I C hs h
  refine liftP (fun G0 H0 ρ => ?_) rfl hg
  obtain ⟨p1, p2, p3, p4, p5, p6⟩ := P G0 H0 ρ
  refine pe_imp (pe_lc C.calm C.nd p1 p2 p3 p4 p5 p6) fun σ H Q q => ?_
  obtain ⟨G, L, sr, r, er, k⟩ := q
  exact lc_read T.N ht sr er fun es u e => by
    subst e
    exact Go.f k
theorem snd_lcIf (t : Tg) (own : List Nat) (E : Sound T Φ k a) (I : Sound T Φ k b) (Cd : Sound T Φ k c) : Sound T Φ k (.lcIf a t own b c) := fun X sc g C hs h => by
  obtain ⟨elt, tg, iter, cd, cs, pos, hg, ht, P⟩ := lcIfP E I Cd C hs h
  refine liftP (fun G0 H0 ρ => ?_) rfl hg
  obtain ⟨p1, p2, p3, p4, p5, p6⟩ := P G0 H0 ρ
  refine pe_imp (pe_lc C.calm C.nd p1 p2 p3 p4 p5 p6) fun σ H Q q => ?_
  obtain ⟨G, L, sr, r, er, k⟩ := q
  exact lcIf_read T.N ht sr er fun es u e => by
    subst e
    exact Go.f k

/-- every expression -/
theorem sound : ∀ m : M, Sound T Φ k m
  | .var i => snd_var i
  | .con d => snd_con d
  | .bin o a b => snd_bin o (sound a) (sound b)
  | .neg a => snd_neg (sound a)
  | .not a => snd_not (sound a)
  | .and a b => snd_and (sound a) (sound b)
  | .or a b => snd_or (sound a) (sound b)
  | .cmp o a b => snd_cmp o (sound a) (sound b)
  | .chain o p a b c => snd_chain o p (sound a) (sound b) (sound c)
  | .ite c a b => snd_ite (sound c) (sound a) (sound b)
  | .nil => snd_nil
  | .cons a r => snd_cons (sound a) (sound r)
  | .lst es => snd_lst (sound es)
  | .tup es => snd_tup (sound es)
  | .ix a b => snd_ix (sound a) (sound b)
  | .sl a lo hi => snd_sl (sound a) (sound lo) (sound hi)
  | .isi a ts => snd_isi ts (sound a)
  | .isi1 a t => snd_isi1 t (sound a)
  | .bf f es => snd_bf f (sound es)
  | .call f es => snd_call f (sound es)
  | .rng1 a => snd_rng1 (sound a)
  | .rng2 a b => snd_rng2 (sound a) (sound b)
  | .enum a => snd_enum (sound a)
  | .zip a b => snd_zip (sound a) (sound b)
  | .rev a => snd_rev (sound a)
  | .lc e t own it => snd_lc t own (sound e) (sound it)
  | .lcIf e t own it c => snd_lcIf t own (sound e) (sound it) (sound c)
  | .index a b => snd_index (sound a) (sound b)
end
end Mp

set_option Elab.async false
set_option linter.all false
set_option maxRecDepth 100000
set_option maxHeartbeats 4000000
/-! Mp11: values that come to be owned. -/
namespace Mp
open PySem PySem.Spec PyProof.Rows L2

section
variable {K : PySem.W.Frag} {G0 G G' H H' Gc : Hp} {H0 : B0} {ρ : Env} {σ : L2.St} {L L' Lc : Lb} {S : List Nat} {v : V} {d : D} {n : Nat}
/-- how an evaluation goes on whose value may be new: L' labels what it holds (root 0) -/
abbrev GoO (K : PySem.W.Frag) (G0 : Hp) (H0 : B0) (ρ : Env) (σ : L2.St) (G H : Hp) (L : Lb) (x : V3 × Nat) (Q : VK) : Prop := ∀ v H' G' L', SR K G0 H0 ρ σ G' H' L → Same G G' → Same H H' →
  (∀ a p, L' a = some p → L a = none ∧ G' a = none ∧ H0 a = none ∧ (∃ o, H' a = some o) ∧ ∃ t, p = 0 :: t) → Own K (wld G' H' L x.1.s) H' L' x.2 [0] v x.1.d → Q v H'
def tEvO (K : PySem.W.Frag) (G0 : Hp) (H0 : B0) (ρ : Env) (r : R (V3 × Nat)) : TE := fun σ H Q => ∃ G L, SR K G0 H0 ρ σ G H L ∧ ∃ x, r = .ok x ∧ GoO K G0 H0 ρ σ G H L x Q
theorem GoO.go {x : V3} {Q : VK} (k : GoO K G0 H0 ρ σ G H L (x, 0) Q) : Go K G0 H0 ρ σ G H L x Q := fun v H' G' s g h r => k v H' G' (fun _ => none) s g h (fun _ _ e => by cases e) (RepW.s r)
noncomputable def lb1 (p : Addr) : Lb := open Classical in fun a => if a = p then some [0] else none
theorem lb1_same (p : Addr) : lb1 p p = some [0] := by
  unfold lb1
  exact if_pos rfl
theorem lb1_some {p a : Addr} {q : List Nat} (h : lb1 p a = some q) : a = p ∧ q = [0] := by
  unfold lb1 at h
  by_cases e : a = p
  · rw [if_pos e] at h
    exact ⟨e, (Option.some.inj h).symm⟩
  · rw [if_neg e] at h
    cases h
theorem GoO.f {ds : List D} {t : List Nat} {Q : VK} (k : GoO K G0 H0 ρ σ G H L (.new (.lst ds) t, 1) Q) : GoF K G0 H0 ρ σ G H L ds t Q := fun p xs H' G' s g h hp gp h0 lp ra =>
  k (.ref p) H' G' (lb1 p) s g h (fun a q e => by
    obtain ⟨e1, e2⟩ := lb1_some e
    subst e1 e2
    exact ⟨lp, gp, h0, ⟨_, hp⟩, [], rfl⟩) ⟨p, xs, ds, rfl, rfl, hp, lb1_same p, ra.length, fun j x e q1 q2 => by
      obtain ⟨y, e1, r⟩ := ra.get q2
      rw [q1] at e1
      cases e1
      exact r⟩
theorem owned_of (sr : SR K G0 H0 ρ σ G H L) (hH : Same H H') (hG : Same (wld G H L S) Gc) (gh : Same Gc H') (gn : ∀ a o, Gc a = some o → wld G H L S a = some o ∨ H a = none)
    (lb : ∀ a p, Lc a = some p → Gc a = none ∧ H a = none ∧ (∃ o, H' a = some o) ∧ ∃ t, p = 0 :: t) (o : Own K Gc H' Lc n [0] v d) :
    ∃ G', SR K G0 H0 ρ σ G' H' L ∧ Same G G' ∧ (∀ a p, Lc a = some p → L a = none ∧ G' a = none ∧ H0 a = none ∧ (∃ o, H' a = some o) ∧ ∃ t, p = 0 :: t) ∧ Own K (wld G' H' L (dp d S)) H' Lc n [0] v d := by
  have out : ∀ a p, L a = some p → ¬ inS p S → Gc a = none := fun a p q hi => by
    cases e : Gc a with
    | none => rfl
    | some o =>
      rcases gn a o e with z | z
      · rw [wld_out q hi] at z
        cases z
      · obtain ⟨_, _, ⟨u, z2⟩⟩ := sr.lab a _ q
        rw [z] at z2
        cases z2
  obtain ⟨G', s', g', n', w'⟩ := sr.unlend (S := S) hH hG gh (fun a o e => (gn a o e).imp id sr.h0.free) out
  refine ⟨G', s', g', fun a p e => ?_, ?_⟩
  · obtain ⟨h1, h2, h3, h4⟩ := lb a p e
    refine ⟨?_, n' _ h1, sr.h0.free h2, h3, h4⟩
    cases q : L a with
    | none => rfl
    | some x =>
      obtain ⟨_, _, u, z⟩ := sr.lab a x q
      rw [h2] at z
      cases z
  · cases ha : atomic d with
    | true =>
      cases n with
      | zero => exact Rep.flat (show Rep K Gc v d from o) ha
      | succ n =>
        obtain ⟨_, _, _, _, e, _⟩ := o
        rw [e] at ha
        cases ha
    | false =>
      have e : dp d S = S := by
        unfold dp
        rw [ha]
        rfl
      rw [e]
      have r2 : Same Gc (wld Gc H' (lbO L S) []) := fun a o e => by
        rcases labc L a with q | ⟨p, q⟩
        · rw [wld_none (lbO_none q)]
          exact e
        · by_cases hi : inS p S
          · rw [wld_none (lbO_in q hi)]
            exact e
          · rw [out a p q hi] at e
            cases e
      have r3 := w' []
      rw [List.append_nil] at r3
      exact Own.mono (r2.trans r3) (Same.refl _) (fun _ _ q => q) o
end

section
variable {T : Tb} {Φ : Nat → Fn} {k : Nat} {X : Cx} {m a b c : M} {e : Expr} {g : Ag}
def SoundO (T : Tb) (Φ : Nat → Fn) (k : Nat) (m : M) : Prop := ∀ (X : Cx) (sc : Scope) (e : Expr), Cn T Φ k X → X.env.scope = sc → chk T m sc (.ex e) = true → ∀ G0 H0 ρ, PE X e (tEvO X.K G0 H0 ρ (evO Φ m ρ))
theorem sndO_def (h : ∀ ρ, evO Φ m ρ = (ev Φ m ρ >>= fun x => .ok (x, 0))) : SoundO T Φ k m := fun X sc e C hs hc G0 H0 ρ =>
  pe_imp ((sound (T := T) (Φ := Φ) (k := k) m) X sc (.ex e) C hs hc G0 H0 ρ).1 fun σ H Q q => by
    obtain ⟨G, L, sr, x, er, k⟩ := q
    rw [h] at er
    obtain ⟨y, e1, er⟩ := R.of_bind er
    have er := R.ok.inj er
    subst er
    exact ⟨G, L, sr, y, e1, GoO.go k⟩
theorem sndO_lst : SoundO T Φ k (.lst a) := fun X sc e C hs h G0 H0 ρ => by
  unfold chk at h
  cases hp : (Ag.ex e).e.bind pList with
  | none => rw [hp] at h; cases h
  | some es =>
    rw [hp] at h
    obtain ⟨e', hg, he⟩ := of_bindE hp
    cases hg
    obtain ⟨pos, rfl⟩ := pList_ok he
    have Ax := sound (T := T) (Φ := Φ) (k := k) a X sc (.args es) C hs h
    refine pe_imp (pe_lst (Ax G0 H0 ρ)) fun σ H Q q => ?_
    obtain ⟨G, L, sr, r, er, k⟩ := q
    obtain ⟨x0, er0, er⟩ := R.of_bind er
    obtain ⟨x1, e1, er0⟩ := R.of_bind er0
    obtain ⟨c, er0⟩ := R.of_chk er0
    have er0 := R.ok.inj er0
    subst er0
    have er := R.ok.inj er
    subst er
    exact ⟨G, L, sr, x1, e1, fun vs H1 G1 sr1 g1 h1 r1 => ⟨by rw [r1.s.length]; exact c, GoF.lst sr1 (GoO.f fun v H' G' L' s' g h r => k v H' G' L' s' (g1.trans g) (h1.trans h) r) r1.s⟩⟩
theorem sndO_bin (o : BOp) : SoundO T Φ k (.bin o a b) := fun X sc e C hs h G0 H0 ρ => by
  unfold chk at h
  cases hp : (Ag.ex e).e.bind pBin with
  | none => rw [hp] at h; cases h
  | some z =>
    obtain ⟨x, p, y⟩ := z
    rw [hp] at h
    obtain ⟨h1, h3⟩ := and2 h
    obtain ⟨h1, h2⟩ := and2 h1
    obtain ⟨e', hg, he⟩ := of_bindE hp
    cases hg
    obtain ⟨pos, rfl⟩ := pBin_ok he
    have e1 := of_decide_eq_true h1
    subst e1
    refine pe_imp (pe_op (op_B o) (sound (T := T) (Φ := Φ) (k := k) a X sc (.ex x) C hs h2 G0 H0 ρ).1 (sound (T := T) (Φ := Φ) (k := k) b X sc (.ex y) C hs h3 G0 H0 ρ).1) fun σ H Q q => ?_
    obtain ⟨G, L, sr, r, er, k⟩ := q
    obtain ⟨x0, er0, er⟩ := R.of_bind er
    obtain ⟨x1, e1, er0⟩ := R.of_bind er0
    obtain ⟨x2, e2, er0⟩ := R.of_bind er0
    obtain ⟨z, e3, er0⟩ := R.of_bind er0
    have er0 := R.ok.inj er0
    subst er0
    have er := R.ok.inj er
    subst er
    refine ⟨G, L, sr, x1, e1, fun v1 H1 G1 sr1 g1 h1 r1 => ⟨G1, L, sr1, x2, e2, fun v2 H2 G2 sr2 g2 h2 r2 => ?_⟩⟩
    have r1 := RepV.mono sr1 g2 h2 r1
    have k2 : GoO X.K G0 H0 ρ σ G2 H2 L (.new z (x1.t ++ x2.t), isL z) Q := fun v H' G' L' s' g h r => k v H' G' L' s' (g1.trans (g2.trans g)) (h1.trans (h2.trans h)) r
    cases z with
    | lst es =>
      obtain ⟨d1, s1, t1⟩ := x1
      obtain ⟨d2, s2, t2⟩ := x2
      have bad : ∀ {α : Type} {c : Prop} [Decidable c] {n : Int}, ¬ (R.chk c (R.ok (D.int n)) = .ok (.lst es)) := fun h => by
        obtain ⟨_, h⟩ := R.of_chk h
        cases h
      cases d1 with
      | int i =>
        cases d2 with
        | int j =>
          cases o with
          | add => cases e3
          | sub => cases e3
          | _ =>
            obtain ⟨_, h⟩ := R.of_chk e3
            cases h
        | _ => cases e3
      | lst ds =>
        cases d2 with
        | lst es2 =>
          by_cases h : o = .add
          · subst h
            obtain ⟨c, e⟩ := R.of_chk (show R.chk (ds.length + es2.length ≤ szl) (R.ok (D.lst (ds ++ es2))) = .ok (.lst es) from e3)
            have e := R.ok.inj e
            have e : ds ++ es2 = es := D.lst.inj e
            subst e
            obtain ⟨a', xs', ea, qa, _, ra⟩ := r1
            obtain ⟨b', ys', eb, qb, _, rb⟩ := r2
            refine .inr (.inl ⟨a', b', xs', ys', ea, eb, sr2.wldH.seq qa, sr2.wldH.seq qb, ?_, GoF.lst sr2 (GoO.f k2) ((RepAll.mono (sr2.wldSub mem_l) ra).append (RepAll.mono (sr2.wldSub mem_r) rb))⟩)
            rw [ra.length, rb.length]
            exact c
          · have e : (if o = .add then _ else R.bad) = R.ok (D.lst es) := e3
            rw [if_neg h] at e
            cases e
        | _ => cases e3
      | tup ds =>
        cases d2 with
        | tup es2 =>
          by_cases h : o = .add
          · subst h
            obtain ⟨c, e⟩ := R.of_chk (show R.chk (ds.length + es2.length ≤ szl) (R.ok (D.tup (ds ++ es2))) = .ok (.lst es) from e3)
            cases e
          · have e : (if o = .add then _ else R.bad) = R.ok (D.lst es) := e3
            rw [if_neg h] at e
            cases e
        | _ => cases e3
      | _ => cases e3
    | _ => exact rB_of sr2 r1 r2 e3 (GoO.go k2)
theorem sndO_lc (t : Tg) (own : List Nat) : SoundO T Φ k (.lc a t own b) := fun X sc e C hs h G0 H0 ρ => by
  obtain ⟨elt, tg, iter, cs, pos, hg, ht, P⟩ := lcP (sound (k := k) a) (sound b) C hs h
  cases hg
  obtain ⟨p1, p2, p3, p4, p5, p6⟩ := P G0 H0 ρ
  refine pe_imp (pe_lc C.calm C.nd p1 p2 p3 p4 p5 p6) fun σ H Q q => ?_
  obtain ⟨G, L, sr, r, er, k⟩ := q
  obtain ⟨x, ex, er⟩ := R.of_bind er
  have er := R.ok.inj er
  subst er
  exact lc_read T.N ht sr ex fun es u e => by
    subst e
    exact GoO.f k
theorem sndO_lcIf (t : Tg) (own : List Nat) : SoundO T Φ k (.lcIf a t own b c) := fun X sc e C hs h G0 H0 ρ => by
  obtain ⟨elt, tg, iter, cd, cs, pos, hg, ht, P⟩ := lcIfP (sound (k := k) a) (sound b) (sound c) C hs h
  cases hg
  obtain ⟨p1, p2, p3, p4, p5, p6⟩ := P G0 H0 ρ
  refine pe_imp (pe_lc C.calm C.nd p1 p2 p3 p4 p5 p6) fun σ H Q q => ?_
  obtain ⟨G, L, sr, r, er, k⟩ := q
  obtain ⟨x, ex, er⟩ := R.of_bind er
  have er := R.ok.inj er
  subst er
  exact lcIf_read T.N ht sr ex fun es u e => by
    subst e
    exact GoO.f k
theorem sndO_call (f : Nat) : SoundO T Φ k (.call f a) := fun X sc e C hs h G0 H0 ρ => by
  unfold chk at h
  cases hp : (Ag.ex e).e.bind pCall with
  | none => rw [hp] at h; cases h
  | some z =>
    obtain ⟨x, e0, r⟩ := z
    rw [hp] at h
    obtain ⟨h1, h5⟩ := and2 h
    obtain ⟨h1, h4⟩ := and2 h1
    obtain ⟨h1, h3⟩ := and2 h1
    obtain ⟨h1, h2⟩ := and2 h1
    obtain ⟨e', hg, he⟩ := of_bindE hp
    cases hg
    obtain ⟨p, pos, rfl⟩ := pCall_ok he
    obtain ⟨g1, g2⟩ := gl_of hs h2
    have Ax := sound (T := T) (Φ := Φ) (k := k) a X sc (.args (e0 :: r)) C hs h5
    obtain ⟨fa, fd, ps, m1, m2, m3, m4, m5⟩ := C.fns f x (of_decide_eq_true h1)
    refine pe_imp (pe_call m4 C.room g1 m1 m2 m3 .nil pass0 (Ax G0 H0 ρ) g2 (star_ok h3 r X.env) (back_ok h4)) fun σ H Q q => ?_
    obtain ⟨G, L, sr, r, er, k⟩ := q
    obtain ⟨x1, e1, er⟩ := R.of_bind er
    obtain ⟨z, e2, er⟩ := R.of_bind er
    have er := R.ok.inj er
    subst er
    refine ⟨G, L, sr, x1, e1, fun vs H1 G1 sr1 g1 h1 r1 => ?_⟩
    refine ⟨wld G1 H1 L x1.2.1, x1.1, z, ?_, sr1.wldH, ?_, e2, fun v H' Gc Lc hH hG gh gn lb o => ?_⟩
    · rw [List.append_nil, r1.s.length]
      exact m5 _ _ e2
    · rw [List.append_nil]
      exact r1.s
    · obtain ⟨G', s', g', l', o'⟩ := owned_of sr1 hH hG gh gn lb o
      exact k v H' G' Lc s' (g1.trans g') (h1.trans hH) l' o'
theorem soundO : ∀ m : M, SoundO T Φ k m
  | .bin o a b => sndO_bin o
  | .lst es => sndO_lst
  | .lc e t own it => sndO_lc t own
  | .lcIf e t own it c => sndO_lcIf t own
  | .call f es => sndO_call f
  | .var i => sndO_def fun _ => rfl
  | .con d => sndO_def fun _ => rfl
  | .neg a => sndO_def fun _ => rfl
  | .not a => sndO_def fun _ => rfl
  | .and a b => sndO_def fun _ => rfl
  | .or a b => sndO_def fun _ => rfl
  | .cmp o a b => sndO_def fun _ => rfl
  | .chain o p a b c => sndO_def fun _ => rfl
  | .ite c a b => sndO_def fun _ => rfl
  | .nil => sndO_def fun _ => rfl
  | .cons a r => sndO_def fun _ => rfl
  | .tup es => sndO_def fun _ => rfl
  | .ix a b => sndO_def fun _ => rfl
  | .sl a lo hi => sndO_def fun _ => rfl
  | .isi a ts => sndO_def fun _ => rfl
  | .isi1 a t => sndO_def fun _ => rfl
  | .bf f es => sndO_def fun _ => rfl
  | .rng1 a => sndO_def fun _ => rfl
  | .rng2 a b => sndO_def fun _ => rfl
  | .enum a => sndO_def fun _ => rfl
  | .zip a b => sndO_def fun _ => rfl
  | .rev a => sndO_def fun _ => rfl
  | .index a b => sndO_def fun _ => rfl
end
end Mp

set_option Elab.async false
set_option linter.all false
set_option maxRecDepth 100000
set_option maxHeartbeats 4000000
/-! Mp12: statements: the state's steps, the check, soundness. -/
namespace Mp
open PySem PySem.Spec PyProof.Rows L2

section
variable {K : PySem.W.Frag} {G0 G G' H H' Gb : Hp} {H0 : B0} {ρ : Env} {σ : L2.St} {L L' : Lb} {S : List Nat} {v : V} {d : D} {n k : Nat}
/-- labels L, and those of L' as the i-th slot's -/
def lbM (L L' : Lb) (i : Nat) : Lb := fun a => match L a with
  | some p => some p
  | none => (L' a).map fun p => i :: p.tail
theorem lbM_l {i : Nat} {a : Addr} {p : List Nat} (h : L a = some p) : lbM L L' i a = some p := by
  unfold lbM
  rw [h]
theorem lbM_r {i : Nat} {a : Addr} {t : List Nat} (h : L a = none) (h2 : L' a = some (0 :: t)) : lbM L L' i a = some (i :: t) := by
  unfold lbM
  rw [h, h2]
  rfl
theorem lbM_some {i : Nat} {a : Addr} {p : List Nat} (h : lbM L L' i a = some p) : L a = some p ∨ ∃ q, L' a = some q := by
  unfold lbM at h
  cases e : L a with
  | some x =>
    rw [e] at h
    exact .inl h
  | none =>
    rw [e] at h
    cases e2 : L' a with
    | none => rw [e2] at h; cases h
    | some q => exact .inr ⟨q, rfl⟩
theorem Own.relab {i : Nat} (dj : ∀ a p, L' a = some p → L a = none) : ∀ (k : Nat) (t : List Nat) (v : V) (d : D), Own K G H L' k (0 :: t) v d → Own K G H (lbM L L' i) k (i :: t) v d := by
  intro k
  induction k with
  | zero => exact fun _ _ _ r => r
  | succ k ih =>
    rintro t v d ⟨a, xs, ds, e1, e2, e3, e4, e5, e6⟩
    exact ⟨a, xs, ds, e1, e2, e3, lbM_r (dj _ _ e4) e4, e5, fun j x e q1 q2 => ih (t ++ [j]) x e (e6 j x e q1 q2)⟩
/-- the i-th slot gets a value that it may own -/
theorem SR.bindO (s : SR K G0 H0 ρ σ G H L) (i : Nat) (lb : ∀ a p, L' a = some p → L a = none ∧ G a = none ∧ H0 a = none ∧ (∃ o, H a = some o) ∧ ∃ t, p = 0 :: t) (o : Own K G H L' k [0] v d) :
    SR K G0 H0 (ρ.set i (some (d, k))) (σ.set i (some v)) G H (lbM L L' i) where
  gh := s.gh
  g0 := s.g0
  h0 := s.h0
  gnew := s.gnew
  fx := fun j q => by
    by_cases h : i = j
    · subst h
      rw [List.getElem?_set] at q
      by_cases hl : i < ρ.length
      · rw [if_pos rfl, if_pos hl] at q
        have q2 := Option.some.inj q
        cases q2
      · rw [if_pos rfl, if_neg hl] at q
        cases q
    · rw [List.getElem?_set_ne h] at q ⊢
      exact s.fx j q
  lab := fun a p e => by
    rcases lbM_some e with e | ⟨q, e⟩
    · exact s.lab a p e
    · obtain ⟨_, h2, h3, h4, _⟩ := lb a q e
      exact ⟨h2, h3, h4⟩
  len := by rw [List.length_set, List.length_set, s.len]
  slot := fun j e n q => by
    by_cases h : i = j
    · subst h
      rw [List.getElem?_set] at q
      by_cases hl : i < ρ.length
      · rw [if_pos rfl, if_pos hl] at q
        have q2 : (d, k) = (e, n) := Option.some.inj (Option.some.inj q)
        cases q2
        exact ⟨v, by rw [List.getElem?_set_self (by rw [s.len]; exact hl)], Own.relab (fun a p h => (lb a p h).1) k [] v d o⟩
      · rw [if_pos rfl, if_neg hl] at q
        cases q
    · rw [List.getElem?_set_ne h] at q
      obtain ⟨w, e1, r1⟩ := s.slot j e n q
      exact ⟨w, by rw [List.getElem?_set_ne h]; exact e1, Own.mono (Same.refl _) (Same.refl _) (fun _ _ z => lbM_l z) r1⟩
theorem SR.asg (s : SR K G0 H0 ρ σ G H L) (i : Nat) (lb : ∀ a p, L' a = some p → L a = none ∧ G a = none ∧ H0 a = none ∧ (∃ o, H a = some o) ∧ ∃ t, p = 0 :: t) (o : Own K (wld G H L S) H L' k [0] v d) :
    SR K G0 H0 ((ρ.frz S).set i (some (d, k))) (σ.set i (some v)) (wld G H L S) H (lbM (lbO L S) L' i) :=
  (s.lend S).bindO i (fun a p e => by
    obtain ⟨h1, h2, h3, h4, h5⟩ := lb a p e
    exact ⟨lbO_none h1, by rw [wld_none h1]; exact h2, h3, h4, h5⟩) o
theorem Own.other {p : Addr} {o : HO} {i : Nat} (hp : L p = some [i]) : ∀ (k : Nat) (j : Nat) (t : List Nat) (v : V) (d : D), j ≠ i → Own K G H L k (j :: t) v d → Own K G (upd H p o) L k (j :: t) v d := by
  intro k
  induction k with
  | zero => exact fun _ _ _ _ _ r => r
  | succ k ih =>
    rintro j t v d hj ⟨a, xs, ds, e1, e2, e3, e4, e5, e6⟩
    refine ⟨a, xs, ds, e1, e2, ?_, e4, e5, fun m x e q1 q2 => ih j (t ++ [m]) x e hj (e6 m x e q1 q2)⟩
    rw [upd_ne (fun z => by rw [z, hp] at e4; cases e4; exact hj rfl)]
    exact e3
/-- the list that the i-th slot owns -/
theorem SR.ownL (s : SR K G0 H0 ρ σ G H L) {i : Nat} {ds : List D} (e : ρ[i]? = some (some (.lst ds, 1))) : ∃ p xs, σ[i]? = some (some (.ref p)) ∧ H p = some (.lst xs) ∧ RepAll K G xs ds ∧
    ∀ ys es, RepAll K G ys es → SR K G0 H0 (ρ.set i (some (.lst es, 1))) σ G (upd H p (.lst ys)) L := by
  obtain ⟨v, ev, a, xs, ds', e1, e2, e3, e4, e5, e6⟩ := s.slot i _ _ e
  cases e2
  subst e1
  obtain ⟨h1, h2, _⟩ := s.lab a _ e4
  have hi : i < ρ.length := (List.getElem?_eq_some_iff.mp e).1
  refine ⟨a, xs, ev, e3, repAll_of e5 e6, fun ys es ra => ⟨?_, s.g0, ?_, s.gnew, ?_, by rw [List.length_set, s.len], ?_, fun j q => ?_⟩⟩
  · intro b o q
    rw [upd_ne (ne_of_none q h1)]
    exact s.gh _ _ q
  · intro b o q
    rw [upd_ne (ne_of_none q h2)]
    exact s.h0 _ _ q
  · intro b p q
    obtain ⟨z1, z2, o, z3⟩ := s.lab b p q
    refine ⟨z1, z2, ?_⟩
    by_cases h : b = a
    · subst h
      exact ⟨_, upd_same⟩
    · exact ⟨o, by rw [upd_ne h]; exact z3⟩
  · intro j d n q
    by_cases h : i = j
    · subst h
      rw [List.getElem?_set_self hi] at q
      have q2 : (D.lst es, 1) = (d, n) := Option.some.inj (Option.some.inj q)
      cases q2
      refine ⟨_, ev, a, ys, es, rfl, rfl, upd_same, e4, ra.length, fun m x y q1 q2 => ?_⟩
      obtain ⟨z, e1, r⟩ := ra.get q2
      rw [q1] at e1
      cases e1
      exact r
    · rw [List.getElem?_set_ne h] at q
      obtain ⟨w, e1, r1⟩ := s.slot j d n q
      exact ⟨w, e1, Own.other e4 n j [] w d (fun z => h z.symm) r1⟩
  · by_cases h : i = j
    · subst h
      rw [List.getElem?_set_self hi] at q
      have q2 := Option.some.inj q
      cases q2
    · rw [List.getElem?_set_ne h] at q
      exact s.fx j q
theorem SR.rebase (s : SR K G0 H0 ρ σ G H L) : SR K G H0 ρ σ G H L := ⟨s.gh, Same.refl G, s.h0, fun a o e => .inl e, s.lab, s.len, s.slot, s.fx⟩
theorem SR.unbase (s : SR K Gb H0 ρ σ G H L) (g : Same G0 Gb) (n : ∀ a o, Gb a = some o → G0 a = some o ∨ H0 a = none) : SR K G0 H0 ρ σ G H L :=
  ⟨s.gh, g.trans s.g0, s.h0, fun a o e => (s.gnew a o e).elim (n a o) .inr, s.lab, s.len, s.slot, s.fx⟩

/-! ### ends -/
def EndOk (K : PySem.W.Frag) (G0 : Hp) (H0 : B0) (D : Ends) : Out → Prop
  | .bad => False
  | .nx ρ => ∀ σ G H L, SR K G0 H0 ρ σ G H L → D.nx σ H
  | .bk ρ => ∀ σ G H L, SR K G0 H0 ρ σ G H L → D.bk σ H
  | .ct ρ => ∀ σ G H L, SR K G0 H0 ρ σ G H L → D.ct σ H
  | .rt d k => ∀ v G H L, Same G0 G → Same H0 H → Same G H → (∀ a o, G a = some o → G0 a = some o ∨ H0 a = none) → (∀ a p, L a = some p → G a = none ∧ H0 a = none ∧ (∃ o, H a = some o) ∧ ∃ t, p = 0 :: t) → Own K G H L k [0] v d → D.rt v H
  | .ex _ _ => False
def tEx (K : PySem.W.Frag) (f : Env → Out) : TS := fun D σ H => ∃ G0 H0 ρ G L, SR K G0 H0 ρ σ G H L ∧ EndOk K G0 H0 D (f ρ)
def tEvO' (K : PySem.W.Frag) (f : Env → R (V3 × Nat)) : TE := fun σ H Q => ∃ G0 H0 ρ, tEvO K G0 H0 ρ (f ρ) σ H Q
def tEv' (K : PySem.W.Frag) (f : Env → R V3) : TE := fun σ H Q => ∃ G0 H0 ρ, tEv K G0 H0 ρ (f ρ) σ H Q
def tTst' (K : PySem.W.Frag) (f : Env → R Bool) : TT := fun σ H Q => ∃ G0 H0 ρ, tTst K G0 H0 ρ (f ρ) σ H Q
def tIv' (K : PySem.W.Frag) (f : Env → R V3) : TI := fun σ H Q => ∃ G0 H0 ρ, tIv K G0 H0 ρ (f ρ) σ H Q
theorem EndOk.base {D : Ends} {o : Out} (g : Same G0 Gb) (n : ∀ a o, Gb a = some o → G0 a = some o ∨ H0 a = none) (h : EndOk K G0 H0 D o) : EndOk K Gb H0 D o := by
  cases o with
  | bad => exact h
  | nx ρ => exact fun σ G H L s => h σ G H L (s.unbase g n)
  | bk ρ => exact fun σ G H L s => h σ G H L (s.unbase g n)
  | ct ρ => exact fun σ G H L s => h σ G H L (s.unbase g n)
  | rt d k => exact fun v G H L q1 q2 q3 q4 q5 q6 => h v G H L (g.trans q1) q2 q3 (fun a o e => (q4 a o e).elim (n a o) .inr) q5 q6
  | ex c fs => exact h
theorem EndOk.out {α : Type} {D : Ends} {m : R α} {f : α → Out} (h : EndOk K G0 H0 D (m.out f)) : ∃ a, m = .ok a ∧ EndOk K G0 H0 D (f a) := by
  cases m with
  | bad => exact absurd h id
  | ok a => exact ⟨a, rfl, h⟩
  | exc c fs => exact absurd h id
/-- a name's value handed over with what it owns -/
theorem SR.hand (s : SR K G0 H0 ρ σ G H L) {i : Nat} (e : ρ[i]? = some (some (d, k))) {En : Ends} (h : EndOk K G0 H0 En (.rt d k)) : ∃ v, σ[i]? = some (some v) ∧ En.rt v H := by
  classical
  obtain ⟨v, ev, r⟩ := s.slot i d k e
  let M : Lb := fun a => match L a with
    | some (j :: t) => if j = i then some (0 :: t) else none
    | _ => none
  have m1 : ∀ {a : Addr} {t : List Nat}, L a = some (i :: t) → M a = some (0 :: t) := fun {a t} h => by
    show (match L a with
      | some (j :: t) => if j = i then some (0 :: t) else none
      | _ => none) = _
    rw [h]
    exact if_pos rfl
  have rel : ∀ (k : Nat) (t : List Nat) (v : V) (d : D), Own K G H L k (i :: t) v d → Own K G H M k (0 :: t) v d := by
    intro k
    induction k with
    | zero => exact fun _ _ _ r => r
    | succ k ih =>
      rintro t v d ⟨a, xs, ds, e1, e2, e3, e4, e5, e6⟩
      exact ⟨a, xs, ds, e1, e2, e3, m1 e4, e5, fun j x e q1 q2 => ih (t ++ [j]) x e (e6 j x e q1 q2)⟩
  refine ⟨v, ev, h v G H M s.g0 s.h0 s.gh s.gnew (fun a p q => ?_) (rel k [] v d r)⟩
  have q : (match L a with
      | some (j :: t) => if j = i then some (0 :: t) else none
      | _ => none) = some p := q
  split at q
  · rename_i j t hl
    split at q
    · cases q
      obtain ⟨z1, z2, z3⟩ := s.lab a _ hl
      exact ⟨z1, z2, z3, t, rfl⟩
    · cases q
  · cases q
/-! ### a name laid aside -/
open Classical in
/-- the heap but what other names own -/
noncomputable def hpA (H : Hp) (L : Lb) (i : Nat) : Hp := fun a => match L a with
  | none => H a
  | some p => if inS p [i] then H a else none
theorem hpA_none {i : Nat} {a : Addr} (h : L a = none) : hpA H L i a = H a := by
  unfold hpA
  rw [h]
theorem hpA_in {i : Nat} {a : Addr} {p : List Nat} (h : L a = some p) (hi : inS p [i]) : hpA H L i a = H a := by
  unfold hpA
  rw [h]
  exact if_pos hi
theorem hpA_out {i : Nat} {a : Addr} {p : List Nat} (h : L a = some p) (hi : ¬ inS p [i]) : hpA H L i a = none := by
  unfold hpA
  rw [h]
  exact if_neg hi
theorem hpA_H {i : Nat} : Same (hpA H L i) H := fun a o e => by
  rcases labc L a with h | ⟨p, h⟩
  · rw [hpA_none h] at e
    exact e
  · by_cases hi : inS p [i]
    · rw [hpA_in h hi] at e
      exact e
    · rw [hpA_out h hi] at e
      cases e
theorem SR.h0A (s : SR K G0 H0 ρ σ G H L) {i : Nat} : Same H0 (hpA H L i) := fun a o e => by
  rcases labc L a with h | ⟨p, h⟩
  · rw [hpA_none h]
    exact s.h0 _ _ e
  · rw [(s.lab a p h).2.1] at e
    cases e
/-- the base while name i is laid aside -/
noncomputable def bsA (H0 : B0) (H : Hp) (L : Lb) (i : Nat) (σ : L2.St) : B0 := ⟨hpA H L i, fun j => if j = i then σ[j]? else H0.z j⟩
theorem Own.lbl {i : Nat} : ∀ (k : Nat) (j : Nat) (t : List Nat) (v : V) (d : D), j ≠ i → Own K G H L k (j :: t) v d → Own K G H (lbO L [i]) k (j :: t) v d := by
  intro k
  induction k with
  | zero => exact fun _ _ _ _ _ r => r
  | succ k ih =>
    rintro j t v d hj ⟨a, xs, ds, e1, e2, e3, e4, e5, e6⟩
    exact ⟨a, xs, ds, e1, e2, e3, lbO_out e4 (fun ⟨m, em, mm⟩ => hj (by have em : j = m := Option.some.inj em; rw [em]; exact List.mem_singleton.mp mm)), e5, fun m x e q1 q2 => ih j (t ++ [m]) x e hj (e6 m x e q1 q2)⟩
theorem SR.aside (s : SR K G0 H0 ρ σ G H L) (i : Nat) : SR K G (bsA H0 H L i σ) (ρ.set i none) σ G H (lbO L [i]) where
  gh := s.gh
  g0 := Same.refl G
  h0 := hpA_H
  gnew := fun a o e => .inl e
  lab := fun a p e => by
    rcases labc L a with h | ⟨p', h⟩
    · rw [lbO_none h] at e
      cases e
    · by_cases hi : inS p' [i]
      · rw [lbO_in h hi] at e
        cases e
      · obtain ⟨h1, h2, h3⟩ := s.lab a _ h
        exact ⟨h1, hpA_out h hi, h3⟩
  len := by rw [List.length_set, s.len]
  slot := fun j d k e => by
    by_cases h : i = j
    · subst h
      rw [List.getElem?_set, if_pos rfl] at e
      split at e <;> cases e
    · rw [List.getElem?_set_ne h] at e
      obtain ⟨v, e1, r⟩ := s.slot j d k e
      exact ⟨v, e1, Own.lbl k j [] v d (fun z => h z.symm) r⟩
  fx := fun j e => by
    show σ[j]? = if j = i then σ[j]? else H0.z j
    by_cases h : i = j
    · subst h
      rw [if_pos rfl]
    · rw [List.getElem?_set_ne h] at e
      rw [if_neg fun z => h z.symm]
      exact s.fx j e
theorem Own.keep {i : Nat} (g : Same G G') (h : ∀ a t o, L a = some (i :: t) → H a = some o → H' a = some o) (l : ∀ a t, L a = some (i :: t) → L' a = some (i :: t)) : ∀ (k : Nat) (t : List Nat) (v : V) (d : D), Own K G H L k (i :: t) v d → Own K G' H' L' k (i :: t) v d := by
  intro k
  induction k with
  | zero => exact fun _ _ _ r => Rep.mono g r
  | succ k ih =>
    rintro t v d ⟨a, xs, ds, e1, e2, e3, e4, e5, e6⟩
    exact ⟨a, xs, ds, e1, e2, h _ _ _ e4 e3, l _ _ e4, e5, fun m x e q1 q2 => ih (t ++ [m]) x e (e6 m x e q1 q2)⟩
open Classical in
noncomputable def lbA (L L' : Lb) (i : Nat) : Lb := fun a => match L a with
  | some p => if inS p [i] then some p else L' a
  | none => L' a
theorem lbA_in {i : Nat} {a : Addr} {p : List Nat} (h : L a = some p) (hi : inS p [i]) : lbA L L' i a = some p := by
  unfold lbA
  rw [h]
  exact if_pos hi
theorem lbA_out {i : Nat} {a : Addr} (h : ∀ p, L a = some p → ¬ inS p [i]) : lbA L L' i a = L' a := by
  unfold lbA
  rcases labc L a with e | ⟨p, e⟩
  · rw [e]
  · rw [e]
    exact if_neg (h p e)
/-- .. and taken back -/
theorem SR.back {ρ' : Env} {σ' : L2.St} {i k : Nat} {d : D} (s : SR K G0 H0 ρ σ G H L) (e : ρ[i]? = some (some (d, k))) (s' : SR K G (bsA H0 H L i σ) ρ' σ' G' H' L') (n : ρ'[i]? = some none) : SR K G0 H0 (ρ'.set i (some (d, k))) σ' G' H' (lbA L L' i) := by
  have inA : ∀ {a p}, L a = some p → inS p [i] → G' a = none ∧ L' a = none ∧ ∀ o, H a = some o → H' a = some o := fun {a p} h hi => by
    obtain ⟨z1, z2, o, z3⟩ := s.lab a p h
    have hb : hpA H L i a = some o := by rw [hpA_in h hi]; exact z3
    refine ⟨?_, ?_, fun o' ho => s'.h0 _ _ ?_⟩
    · cases q : G' a with
      | none => rfl
      | some u =>
        rcases s'.gnew a u q with w | w
        · rw [z1] at w; cases w
        · have w : hpA H L i a = none := w
          rw [hb] at w; cases w
    · cases q : L' a with
      | none => rfl
      | some u =>
        have w : hpA H L i a = none := (s'.lab a u q).2.1
        rw [hb] at w
        cases w
    · show hpA H L i a = some o'
      rw [hpA_in h hi]
      exact ho
  have h0n : ∀ {a}, hpA H L i a = none → H0 a = none := fun {a} w => by
    cases q : H0 a with
    | none => rfl
    | some u => rw [s.h0A a u q] at w; cases w
  obtain ⟨v, ev, ow⟩ := s.slot i d k e
  have eσ : σ'[i]? = some (some v) := by
    rw [s'.fx i n]
    show (if i = i then σ[i]? else H0.z i) = _
    rw [if_pos rfl]
    exact ev
  have hil : i < ρ'.length := (List.getElem?_eq_some_iff.mp n).1
  refine ⟨s'.gh, s.g0.trans s'.g0, s.h0A.trans s'.h0, fun a o q => ?_, fun a p q => ?_, by rw [List.length_set, s'.len], fun j e' k' q => ?_, fun j q => ?_⟩
  · rcases s'.gnew a o q with w | w
    · exact s.gnew a o w
    · exact .inr (h0n w)
  · rcases labc L a with h | ⟨p', h⟩
    · rw [lbA_out fun p z => by rw [h] at z; cases z] at q
      obtain ⟨z1, z2, z3⟩ := s'.lab a p q
      exact ⟨z1, h0n z2, z3⟩
    · by_cases hi : inS p' [i]
      · obtain ⟨z1, z2, o, z3⟩ := s.lab a p' h
        exact ⟨(inA h hi).1, z2, o, (inA h hi).2.2 o z3⟩
      · rw [lbA_out fun p z => by rw [h] at z; cases z; exact hi] at q
        obtain ⟨z1, z2, z3⟩ := s'.lab a p q
        exact ⟨z1, h0n z2, z3⟩
  · by_cases h : i = j
    · subst h
      rw [List.getElem?_set_self hil] at q
      have q2 : (d, k) = (e', k') := Option.some.inj (Option.some.inj q)
      cases q2
      exact ⟨v, eσ, Own.keep s'.g0 (fun a t o hl ho => (inA hl ⟨i, rfl, List.mem_singleton.mpr rfl⟩).2.2 o ho) (fun a t hl => lbA_in hl ⟨i, rfl, List.mem_singleton.mpr rfl⟩) k [] v d ow⟩
    · rw [List.getElem?_set_ne h] at q
      obtain ⟨w, e1, r1⟩ := s'.slot j e' k' q
      refine ⟨w, e1, Own.mono (Same.refl _) (Same.refl _) (fun a p z => ?_) r1⟩
      rw [lbA_out fun p' hl hi => by rw [(inA hl hi).2.1] at z; cases z]
      exact z
  · by_cases h : i = j
    · subst h
      rw [List.getElem?_set_self hil] at q
      have q2 := Option.some.inj q
      cases q2
    · rw [List.getElem?_set_ne h] at q
      rw [s'.fx j q]
      show (if j = i then σ[j]? else H0.z j) = _
      rw [if_neg fun z => h z.symm]
theorem EndOk.aside {D' : Ends} {o : Out} {i k : Nat} (s : SR K G0 H0 ρ σ G H L) (e : ρ[i]? = some (some (d, k))) (h : EndOk K G0 H0 D' (o.back i (some (d, k)))) : EndOk K G (bsA H0 H L i σ) D' o := by
  have h0n : ∀ {a}, hpA H L i a = none → H0 a = none := fun {a} w => by
    cases q : H0 a with
    | none => rfl
    | some u => rw [s.h0A a u q] at w; cases w
  cases o with
  | bad => exact h
  | nx ρ' =>
    intro σ' G' H' L' s'
    have h : EndOk K G0 H0 D' (match ρ'[i]? with
      | some none => .nx (ρ'.set i (some (d, k)))
      | _ => .bad) := h
    split at h
    · rename_i n
      exact h σ' G' H' _ (s.back e s' n)
    · exact absurd h id
  | bk ρ => exact absurd h id
  | ct ρ => exact absurd h id
  | rt d k => exact fun v G' H' L' q1 q2 q3 q4 q5 q6 => h v G' H' L' (s.g0.trans q1) (s.h0A.trans q2) q3 (fun a o e => (q4 a o e).elim (s.gnew a o) fun w => .inr (h0n w)) (fun a p e => by
      obtain ⟨z1, z2, z3⟩ := q5 a p e
      exact ⟨z1, h0n z2, z3⟩) q6
  | ex c fs => exact h
end
end Mp

set_option Elab.async false
set_option linter.all false
set_option maxRecDepth 100000
set_option maxHeartbeats 4000000
/-! Mp13: statements: the check, soundness. -/
namespace Mp
open PySem PySem.Spec PyProof.Rows L2

/-! ### syntax -/
inductive SAg where
  | one (st : Stmt)
  | blk (sts : List Stmt)
def SAg.s : SAg → Option Stmt
  | .one st => some st
  | .blk [st] => some st
  | _ => none
def pAssign : Stmt → Option (Expr × Expr)
  | .Assign [t] v _ => some (t, v)
  | _ => none
theorem pAssign_ok {st : Stmt} {t v : Expr} (h : pAssign st = some (t, v)) : ∃ p, st = .Assign [t] v p := by
  unfold pAssign at h
  split at h
  · cases h
    exact ⟨_, rfl⟩
  · cases h
def pExprS : Stmt → Option Expr
  | .Expr e _ => some e
  | _ => none
theorem pExprS_ok {st : Stmt} {e : Expr} (h : pExprS st = some e) : ∃ p, st = .Expr e p := by
  unfold pExprS at h
  split at h
  · cases h
    exact ⟨_, rfl⟩
  · cases h
def pRet : Stmt → Option (Option Expr)
  | .Return e _ => some e
  | _ => none
theorem pRet_ok {st : Stmt} {e : Option Expr} (h : pRet st = some e) : ∃ p, st = .Return e p := by
  unfold pRet at h
  split at h
  · cases h
    exact ⟨_, rfl⟩
  · cases h
def pIfS : Stmt → Option (Expr × List Stmt × List Stmt)
  | .If c a b _ => some (c, a, b)
  | _ => none
theorem pIfS_ok {st : Stmt} {c : Expr} {a b : List Stmt} (h : pIfS st = some (c, a, b)) : ∃ p, st = .If c a b p := by
  unfold pIfS at h
  split at h
  · cases h
    exact ⟨_, rfl⟩
  · cases h
def pWhile : Stmt → Option (Expr × List Stmt)
  | .While c b [] _ => some (c, b)
  | _ => none
theorem pWhile_ok {st : Stmt} {c : Expr} {b : List Stmt} (h : pWhile st = some (c, b)) : ∃ p, st = .While c b [] p := by
  unfold pWhile at h
  split at h
  · cases h
    exact ⟨_, rfl⟩
  · cases h
def pFor : Stmt → Option (Expr × Expr × List Stmt)
  | .For tg it b [] _ => some (tg, it, b)
  | _ => none
theorem pFor_ok {st : Stmt} {tg it : Expr} {b : List Stmt} (h : pFor st = some (tg, it, b)) : ∃ p, st = .For tg it b [] p := by
  unfold pFor at h
  split at h
  · cases h
    exact ⟨_, rfl⟩
  · cases h
def isSkip : Stmt → Bool
  | .Pass _ => true
  | .Expr (.Constant (.str _) _ _) _ => true
  | _ => false
def isBrk : Stmt → Bool
  | .Break _ => true
  | _ => false
def isCnt : Stmt → Bool
  | .Continue _ => true
  | _ => false
def notTup : Expr → Bool
  | .Tuple .. => false
  | _ => true
/-- is a comprehension stored to this name by another order -/
def swC (sc cs : Scope) (y : Str) (py pos : Pos) : Bool := (ScopeKind.function == ScopeKind.function && sc.names.lookup y == some .local && py.line == pos.line && !(cs.names.any fun (n, k) => n == y && (k == .local || k == .cell)))
theorem sw_c {elt : Expr} {gs : List Comprehension} {cs : Scope} {pos py : Pos} {y : Str} {l : Nat} {env : PySem.Env} (hk : env.scope.kind = .function) : swapsWith (.ListComp elt gs cs pos) (some (.Name y py)) l env = pure (swC env.scope cs y py pos) := by
  have hb : env.blockKind = .function := by
    unfold PySem.Env.blockKind
    rw [hk]
    rfl
  unfold swapsWith
  simp only [hb]
  rfl
/-- a store of a value by name: neither a comprehension (on one line) nor a set -/
def lcStore (sc : Scope) (tg v : Expr) : Bool := match tg, v with
  | .Name y py, .ListComp _ _ cs pos => !(swC sc cs y py pos)
  | _, _ => false
def plainStore (sc : Scope) (tg v : Expr) : Bool := okE v && (notLC v || lcStore sc tg v)
theorem plainStore_ok {env : PySem.Env} {tg v : Expr} {l : Nat} (hk : env.scope.kind = .function) (h : plainStore env.scope tg v = true) : swapsWith v (some tg) l env = pure false := by
  unfold plainStore at h
  obtain ⟨h1, h2⟩ := and2 h
  rw [Bool.or_eq_true] at h2
  rcases h2 with h2 | h2
  · exact swap_ok h1 h2 _ _ _
  · unfold lcStore at h2
    split at h2
    · rw [Bool.not_eq_true'] at h2
      rw [sw_c hk, h2]
    · cases h2

section
variable (T : Tb)
def chkNm (sc : Scope) (i : Nat) (e : Expr) : Bool := match pName e with
  | some x => decide (T.N[i]? = some x) && visN sc x
  | none => false
def isLc : M → Bool
  | .lc .. => true
  | .lcIf .. => true
  | _ => false
def chkS : S → Scope → SAg → Bool
  | .skip, sc, g => (match g with
    | .blk [] => true
    | g => (match g.s with
      | some st => isSkip st
      | none => false))
  | .seq a b, sc, g => (match g with
    | .blk (s1 :: s2 :: r) => chkS a sc (.one s1) && chkS b sc (.blk (s2 :: r))
    | _ => false)
  | .asg i e, sc, g => (match g.s.bind pAssign with
    | some (tg, v) => nameOk T.N sc i tg && chk T e sc (.ex v) && (plainStore sc tg v || isLc e)
    | none => false)
  | .unp is e, sc, g => (match g.s.bind pAssign with
    | some (tg, v) => chkTg T.N sc (.names is) tg && chk T e sc (.ex v) && okE v && notLC v && notTup v
    | none => false)
  | .six i a e, sc, g => (match g.s.bind pAssign with
    | some (tg, v) => (match pSub tg with
      | some (o, x) => chkNm T sc i o && chk T a sc (.ex x) && okE x && chk T e sc (.ex v) && okE v && notLC v
      | none => false)
    | none => false)
  | .app i e, sc, g => (match (g.s.bind pExprS).bind pMeth with
    | some (o, m, x, []) => decide (m = "append") && chkNm T sc i o && chk T e sc (.ex x) && okE x
    | _ => false)
  | .exp e, sc, g => (match g.s.bind pExprS with
    | some x => chk T e sc (.ex x) && okE x && notLC x
    | none => false)
  | .ret e, sc, g => (match g.s.bind pRet with
    | some (some x) => chk T e sc (.ex x)
    | _ => false)
  | .retN, sc, g => (match g.s.bind pRet with
    | some none => true
    | _ => false)
  | .ite c a b, sc, g => (match g.s.bind pIfS with
    | some (x, p, q) => chk T c sc (.ex x) && chkS a sc (.blk p) && chkS b sc (.blk q)
    | none => false)
  | .whl c b, sc, g => (match g.s.bind pWhile with
    | some (x, p) => chk T c sc (.ex x) && chkS b sc (.blk p)
    | none => false)
  | .for_ t it b, sc, g => (match g.s.bind pFor with
    | some (tg, x, p) => chkTg T.N sc t tg && chk T it sc (.it x tg) && okE x && chkS b sc (.blk p)
    | none => false)
  | .brk, sc, g => (match g.s with
    | some st => isBrk st
    | none => false)
  | .cnt, sc, g => (match g.s with
    | some st => isCnt st
    | none => false)
  | .rai _ _, sc, g => g.s.isSome
end

/-! ### soundness -/
structure CnS (T : Tb) (Φ : Nat → Fn) (k : Nat) (X : Cx) : Prop extends Cn T Φ k X where
  kind : X.env.scope.kind = .function
  owns : PassesOwn (model X.prog X.w) X.A X.env X.xe
  fnA : ∀ x, X.fn x = true
def GoalS (Φ : Nat → Fn) (fu : Nat) (X : Cx) (s : S) : SAg → Prop
  | .one st => PS X st (tEx X.K (ex Φ fu s))
  | .blk sts => PSs X sts (tEx X.K (ex Φ fu s))
def SoundS (T : Tb) (Φ : Nat → Fn) (fu k : Nat) (s : S) : Prop := ∀ (X : Cx) (sc : Scope) (g : SAg), CnS T Φ k X → X.env.scope = sc → chkS T s sc g = true → GoalS Φ fu X s g
section
variable {T : Tb} {Φ : Nat → Fn} {fu k : Nat} {X : Cx} {s a b : S} {e c : M} {st : Stmt} {g : SAg} {sc : Scope}
theorem liftS (h : PS X st (tEx X.K (ex Φ fu s))) (hg : g.s = some st) : GoalS Φ fu X s g := by
  cases g with
  | one st' =>
    cases hg
    exact h
  | blk sts =>
    match sts, hg with
    | [st'], hg =>
      cases hg
      exact pss_one h
    | [], hg => cases hg
    | _ :: _ :: _, hg => cases hg
theorem of_bindS {α β : Type} {f : α → Option β} {o : Option α} {z : β} (h : o.bind f = some z) : ∃ e, o = some e ∧ f e = some z := by
  cases o with
  | none => cases h
  | some e => exact ⟨e, rfl, h⟩
theorem pe_x {x : Expr} (C : CnS T Φ k X) (hs : X.env.scope = sc) (h : chk T e sc (.ex x) = true) : PE X x (tEv' X.K (ev Φ e)) := ⟨fun pins s σ H Q I ⟨G0, H0, ρ, q⟩ => (sound (T := T) (k := k) e X sc (.ex x) C.toCn hs h G0 H0 ρ).1.run pins s σ H Q I q⟩
theorem pt_x {x : Expr} (C : CnS T Φ k X) (hs : X.env.scope = sc) (h : chk T c sc (.ex x) = true) : PT X x (tTst' X.K (tst Φ c)) := ⟨fun pins s σ H Q I ⟨G0, H0, ρ, q⟩ => (sound (T := T) (k := k) c X sc (.ex x) C.toCn hs h G0 H0 ρ).2.run pins s σ H Q I q⟩
theorem pe_o {x : Expr} (C : CnS T Φ k X) (hs : X.env.scope = sc) (h : chk T e sc (.ex x) = true) : PE X x (tEvO' X.K (evO Φ e)) := ⟨fun pins s σ H Q I ⟨G0, H0, ρ, q⟩ => (soundO (T := T) (k := k) e X sc x C.toCn hs h G0 H0 ρ).run pins s σ H Q I q⟩
theorem pi_x {x tg : Expr} (C : CnS T Φ k X) (hs : X.env.scope = sc) (h : chk T e sc (.it x tg) = true) : PI X tg x (tIv' X.K (ev Φ e)) := ⟨fun pins s σ H Q I ⟨G0, H0, ρ, q⟩ => (sound (T := T) (k := k) e X sc (.it x tg) C.toCn hs h G0 H0 ρ).run pins s σ H Q I q⟩
theorem tgOk_of (C : CnS T Φ k X) (hs : X.env.scope = sc) : TgOk X sc := fun x h => by
  refine ⟨?_, .inl (C.fnA x)⟩
  rw [hs]
  unfold tgN at h
  rw [Bool.or_eq_true] at h
  exact h.imp of_decide_eq_true of_decide_eq_true
theorem pe_nm {i : Nat} {x : Expr} (C : CnS T Φ k X) (hs : X.env.scope = sc) (h : chkNm T sc i x = true) : PE X x (tVar i) ∧ (pName x).isSome = true := by
  unfold chkNm at h
  cases hx : pName x with
  | none => rw [hx] at h; cases h
  | some y =>
    rw [hx] at h
    obtain ⟨h1, h2⟩ := and2 h
    obtain ⟨h2, h4⟩ := and2 h2
    obtain ⟨h2, h3⟩ := and2 h2
    obtain ⟨p, rfl⟩ := pName_ok hx
    have hv : Vis X.env.scope y := by
      rw [hs]
      rw [Bool.or_eq_true, Bool.or_eq_true] at h2
      rcases h2 with (h2 | h2) | h2
      · exact .inl (of_decide_eq_true h2)
      · exact .inr (.inl (of_decide_eq_true h2))
      · exact .inr (.inr (of_decide_eq_true h2))
    exact ⟨pe_var (i := i) (by rw [C.N]; exact of_decide_eq_true h1) hv (by simpa using h3) (by simpa using h4), rfl⟩

theorem sS_skip : SoundS T Φ fu k .skip := fun X sc g C hs h => by
  have one : ∀ {st}, g.s = some st → isSkip st = true → GoalS Φ fu X .skip g := fun {st} hg hk => by
    refine liftS ?_ hg
    have red : ∀ D σ H, tEx X.K (ex Φ fu .skip) D σ H → tNext D σ H := fun D σ H ⟨G0, H0, ρ, G, L, sr, q⟩ => q σ G H L sr
    unfold isSkip at hk
    split at hk
    · exact ps_imp ps_pass red
    · exact ps_imp ps_doc red
    · cases hk
  unfold chkS at h
  split at h
  · exact pss_imp pss_nil fun D σ H ⟨G0, H0, ρ, G, L, sr, q⟩ => q σ G H L sr
  · cases hg : g.s with
    | none => rw [hg] at h; cases h
    | some st =>
      rw [hg] at h
      exact one hg h
theorem sS_seq (A : SoundS T Φ fu k a) (B : SoundS T Φ fu k b) : SoundS T Φ fu k (.seq a b) := fun X sc g C hs h => by
  unfold chkS at h
  split at h
  · rename_i s1 s2 r
    obtain ⟨h1, h2⟩ := and2 h
    refine pss_imp (pss_cons (A X sc (.one s1) C hs h1) (B X sc (.blk (s2 :: r)) C hs h2)) fun D σ H q => ?_
    obtain ⟨G0, H0, ρ, G, L, sr, q⟩ := q
    refine ⟨G0, H0, ρ, G, L, sr, ?_⟩
    have q : EndOk X.K G0 H0 D ((ex Φ fu a ρ).then (ex Φ fu b)) := q
    cases e : ex Φ fu a ρ with
    | nx ρ' =>
      rw [e] at q
      exact fun σ' G' H' L' s' => ⟨G0, H0, ρ', G', L', s', q⟩
    | _ =>
      rw [e] at q
      exact q
  · cases h
theorem sS_brk : SoundS T Φ fu k .brk := fun X sc g C hs h => by
  unfold chkS at h
  cases hg : g.s with
  | none => rw [hg] at h; cases h
  | some st =>
    rw [hg] at h
    refine liftS ?_ hg
    have h : isBrk st = true := h
    unfold isBrk at h
    split at h
    · exact ps_imp ps_break fun D σ H ⟨G0, H0, ρ, G, L, sr, q⟩ => q σ G H L sr
    · cases h
theorem sS_cnt : SoundS T Φ fu k .cnt := fun X sc g C hs h => by
  unfold chkS at h
  cases hg : g.s with
  | none => rw [hg] at h; cases h
  | some st =>
    rw [hg] at h
    refine liftS ?_ hg
    have h : isCnt st = true := h
    unfold isCnt at h
    split at h
    · exact ps_imp ps_continue fun D σ H ⟨G0, H0, ρ, G, L, sr, q⟩ => q σ G H L sr
    · cases h
theorem sS_rai (n : Nat) : SoundS T Φ fu k (.rai n e) := fun X sc g C hs h => by
  unfold chkS at h
  obtain ⟨st, hg⟩ := Option.isSome_iff_exists.mp h
  refine liftS (ps_imp ps_never fun D σ H ⟨G0, H0, ρ, G, L, sr, q⟩ => ?_) hg
  obtain ⟨_, _, q⟩ := EndOk.out q
  exact q
theorem sS_exp : SoundS T Φ fu k (.exp e) := fun X sc g C hs h => by
  unfold chkS at h
  cases hp : g.s.bind pExprS with
  | none => rw [hp] at h; cases h
  | some x =>
    rw [hp] at h
    obtain ⟨h1, h3⟩ := and2 h
    obtain ⟨h1, h2⟩ := and2 h1
    obtain ⟨st, hg, he⟩ := of_bindS hp
    obtain ⟨p, rfl⟩ := pExprS_ok he
    refine liftS (ps_imp (ps_expr (pe_x C hs h1) (swap_ok h2 h3 _ _ _)) fun D σ H ⟨G0, H0, ρ, G, L, sr, q⟩ => ?_) hg
    obtain ⟨x, ex, q⟩ := EndOk.out q
    exact ⟨G0, H0, ρ, G, L, sr, x, ex, fun v H' G' s' g h r => q σ G' H' L s'⟩
theorem sS_retN : SoundS T Φ fu k .retN := fun X sc g C hs h => by
  unfold chkS at h
  split at h
  · rename_i hp
    obtain ⟨st, hg, he⟩ := of_bindS hp
    obtain ⟨p, rfl⟩ := pRet_ok he
    refine liftS (ps_imp ps_retN fun D σ H ⟨G0, H0, ρ, G, L, sr, q⟩ => ?_) hg
    exact q .non G H (fun _ => none) sr.g0 sr.h0 sr.gh sr.gnew (fun _ _ z => by cases z) .non
  · cases h
theorem sS_ite (A : SoundS T Φ fu k a) (B : SoundS T Φ fu k b) : SoundS T Φ fu k (.ite c a b) := fun X sc g C hs h => by
  unfold chkS at h
  cases hp : g.s.bind pIfS with
  | none => rw [hp] at h; cases h
  | some z =>
    obtain ⟨x, p, q⟩ := z
    rw [hp] at h
    obtain ⟨h1, h3⟩ := and2 h
    obtain ⟨h1, h2⟩ := and2 h1
    obtain ⟨st, hg, he⟩ := of_bindS hp
    obtain ⟨p, rfl⟩ := pIfS_ok he
    refine liftS (ps_imp (ps_if (pt_x C hs h1) (A X sc (.blk _) C hs h2) (B X sc (.blk _) C hs h3)) fun D σ H ⟨G0, H0, ρ, G, L, sr, q⟩ => ?_) hg
    obtain ⟨t, et, q⟩ := EndOk.out q
    refine ⟨G0, H0, ρ, G, L, sr, t, et, fun H' G' s' g h => ?_⟩
    cases t with
    | true => exact ⟨G0, H0, ρ, G', L, s', q⟩
    | false => exact ⟨G0, H0, ρ, G', L, s', q⟩
theorem sS_whl (B : SoundS T Φ fu k b) : SoundS T Φ fu k (.whl c b) := fun X sc g C hs h => by
  unfold chkS at h
  cases hp : g.s.bind pWhile with
  | none => rw [hp] at h; cases h
  | some z =>
    obtain ⟨x, p⟩ := z
    rw [hp] at h
    obtain ⟨h1, h2⟩ := and2 h
    obtain ⟨st, hg, he⟩ := of_bindS hp
    obtain ⟨p, rfl⟩ := pWhile_ok he
    refine liftS (ps_imp (ps_while C.owns (pt_x C hs h1) (B X sc (.blk _) C hs h2)) fun D σ H ⟨G0, H0, ρ, G, L, sr, q⟩ => ?_) hg
    refine ⟨fun m σ H => ∃ ρ G L, SR X.K G0 H0 ρ σ G H L ∧ EndOk X.K G0 H0 D (whlGo (tst Φ c) (ex Φ fu b) m ρ), ⟨fu, ρ, G, L, sr, q⟩, ?_⟩
    rintro m σ H ⟨ρ, G, L, sr, q⟩
    cases m with
    | zero => exact absurd q id
    | succ m =>
      unfold whlGo at q
      cases ec : tst Φ c ρ with
      | bad =>
        rw [ec] at q
        exact absurd q id
      | exc n fs =>
        rw [ec] at q
        exact absurd q id
      | ok t =>
        rw [ec] at q
        refine ⟨G0, H0, ρ, G, L, sr, t, ec, fun H' G' s' g h => ?_⟩
        cases t with
        | false => exact q σ G' H' L s'
        | true =>
          have q : EndOk X.K G0 H0 D (match ex Φ fu b ρ with
            | .nx ρ' => whlGo (tst Φ c) (ex Φ fu b) m ρ'
            | .ct ρ' => whlGo (tst Φ c) (ex Φ fu b) m ρ'
            | .bk ρ' => .nx ρ'
            | o => o) := q
          refine ⟨fun σ H => ∃ ρ G L, SR X.K G0 H0 ρ σ G H L ∧ EndOk X.K G0 H0 D (whlGo (tst Φ c) (ex Φ fu b) m ρ), fun σ' H' z => ⟨m, Nat.lt_succ_self m, z⟩, G0, H0, ρ, G', L, s', ?_⟩
          cases eb : ex Φ fu b ρ with
          | nx ρ' =>
            rw [eb] at q
            exact fun σ G H L s => ⟨ρ', G, L, s, q⟩
          | ct ρ' =>
            rw [eb] at q
            exact fun σ G H L s => ⟨ρ', G, L, s, q⟩
          | bk ρ' =>
            rw [eb] at q
            exact q
          | _ =>
            rw [eb] at q
            exact q
end
end Mp

set_option Elab.async false
set_option linter.all false
set_option maxRecDepth 100000
set_option maxHeartbeats 4000000
/-! Mp14: stores, loops; every statement is sound. -/
namespace Mp
open PySem PySem.Spec PyProof.Rows L2
section
variable {T : Tb} {Φ : Nat → Fn} {fu k : Nat} {X : Cx} {s a b : S} {e c m : M} {st : Stmt} {g : SAg} {sc : Scope}

theorem nameOk_ok {N : List Str} {i : Nat} {tg : Expr} (h : nameOk N sc i tg = true) : ∃ x p, tg = .Name x p ∧ N[i]? = some x ∧ tgN sc x = true := by
  unfold nameOk at h
  cases q : pName tg with
  | none => rw [q] at h; cases h
  | some x =>
    rw [q] at h
    obtain ⟨h1, h2⟩ := and2 h
    obtain ⟨p, e1⟩ := pName_ok q
    exact ⟨x, p, e1, of_decide_eq_true h1, h2⟩
/-- the end of i = a new list -/
theorem asg_f {K : PySem.W.Frag} {G0 G H : Hp} {H0 : B0} {ρ : Env} {σ : L2.St} {L : Lb} {i : Nat} {es : List D} {u : List Nat} {En : Ends} (q : EndOk K G0 H0 En (.nx ((ρ.frz (V3.new (.lst es) u).s).set i (some (.lst es, 1))))) :
    GoF K G0 H0 ρ σ G H L es u (fun x H1 => gName i x σ H1 En.nx) :=
  GoO.f fun v H' G' L' s' _ _ lb o => q _ _ _ _ (s'.asg i lb o)
theorem sS_asg (i : Nat) : SoundS T Φ fu k (.asg i e) := fun X sc g C hs h => by
  unfold chkS at h
  cases hp : g.s.bind pAssign with
  | none => rw [hp] at h; cases h
  | some z =>
    obtain ⟨tg, v⟩ := z
    rw [hp] at h
    obtain ⟨h1, h3⟩ := and2 h
    obtain ⟨h1, h2⟩ := and2 h1
    obtain ⟨st, hg, he⟩ := of_bindS hp
    obtain ⟨p, rfl⟩ := pAssign_ok he
    obtain ⟨x, px, rfl, hN, ht⟩ := nameOk_ok h1
    have hx : Loc X.env.scope x := (tgOk_of C hs x ht).1
    have hN' : X.N[i]? = some x := by
      rw [C.N]
      exact hN
    have fin : ∀ (hsw : swapsWith v (some (.Name x px)) p.line X.env = pure false), GoalS Φ fu X (.asg i e) g := fun hsw => by
      refine liftS (ps_imp (ps_set C.nd hN' hx (pe_o C hs h2) hsw (.inl (C.fnA x))) fun D σ H ⟨G0, H0, ρ, G, L, sr, q⟩ => ?_) hg
      obtain ⟨x, ex, q⟩ := EndOk.out q
      exact ⟨G0, H0, ρ, G, L, sr, x, ex, fun v H' G' L' s' g h lb o => q _ _ _ _ (s'.asg i lb o)⟩
    cases h4 : plainStore sc (.Name x px) v with
    | true => exact fin (plainStore_ok C.kind (by rw [hs]; exact h4))
    | false =>
      rw [h4] at h3
      have h3 : isLc e = true := h3
      cases e with
      | lc a t own b =>
        obtain ⟨elt, tg, iter, cs, pos, hv, ht2, P⟩ := lcP (sound (k := k) a) (sound b) C.toCn hs h2
        cases hv
        cases h5 : swC sc cs x px pos with
        | false => exact fin (by rw [sw_c C.kind, hs, h5])
        | true =>
          have hxl : X.env.scope.names.lookup x = some .local := by
            rw [hs]
            unfold swC at h5
            obtain ⟨h5, _⟩ := and2 h5
            obtain ⟨h5, _⟩ := and2 h5
            obtain ⟨_, h5⟩ := and2 h5
            exact beq_iff_eq.mp h5
          refine liftS (ps_imp (t := tAsg (fun σ H Q => ∃ G0 H0 ρ, tLc (tIv X.K G0 H0 ρ (ev Φ b ρ)) (gTg X.K t) (tTstX X.K G0 H0 fun _ => .ok true) (tEvX X.K G0 H0 (ev Φ a)) ((ownN T.N own).map (·.2)) σ H Q) (gName i)) ⟨fun pins s σ H D I ⟨G0, H0, ρ, w⟩ => ?_⟩ fun D σ H ⟨G0, H0, ρ, G, L, sr, q⟩ => ?_) hg
          · obtain ⟨p1, p2, p3, p4, p5, p6⟩ := P G0 H0 ρ
            exact (ps_setLc C.calm C.nd hN' hxl (by rw [sw_c C.kind, hs, h5]) p1 p2 p3 p4 p5 p6).run pins s σ H D I w
          · obtain ⟨y, ey, q⟩ := EndOk.out q
            obtain ⟨z, ez, ey⟩ := R.of_bind ey
            have ey := R.ok.inj ey
            subst ey
            exact ⟨G0, H0, ρ, lc_read T.N ht2 sr ez fun es u e => by
              subst e
              exact asg_f q⟩
      | lcIf a t own b c =>
        obtain ⟨elt, tg, iter, cd, cs, pos, hv, ht2, P⟩ := lcIfP (sound (k := k) a) (sound b) (sound c) C.toCn hs h2
        cases hv
        cases h5 : swC sc cs x px pos with
        | false => exact fin (by rw [sw_c C.kind, hs, h5])
        | true =>
          have hxl : X.env.scope.names.lookup x = some .local := by
            rw [hs]
            unfold swC at h5
            obtain ⟨h5, _⟩ := and2 h5
            obtain ⟨h5, _⟩ := and2 h5
            obtain ⟨_, h5⟩ := and2 h5
            exact beq_iff_eq.mp h5
          refine liftS (ps_imp (t := tAsg (fun σ H Q => ∃ G0 H0 ρ, tLc (tIv X.K G0 H0 ρ (ev Φ b ρ)) (gTg X.K t) (tTstX X.K G0 H0 (tst Φ c)) (tEvX X.K G0 H0 (ev Φ a)) ((ownN T.N own).map (·.2)) σ H Q) (gName i)) ⟨fun pins s σ H D I ⟨G0, H0, ρ, w⟩ => ?_⟩ fun D σ H ⟨G0, H0, ρ, G, L, sr, q⟩ => ?_) hg
          · obtain ⟨p1, p2, p3, p4, p5, p6⟩ := P G0 H0 ρ
            exact (ps_setLc C.calm C.nd hN' hxl (by rw [sw_c C.kind, hs, h5]) p1 p2 p3 p4 p5 p6).run pins s σ H D I w
          · obtain ⟨y, ey, q⟩ := EndOk.out q
            obtain ⟨z, ez, ey⟩ := R.of_bind ey
            have ey := R.ok.inj ey
            subst ey
            exact ⟨G0, H0, ρ, lcIf_read T.N ht2 sr ez fun es u e => by
              subst e
              exact asg_f q⟩
      | _ => cases h3
theorem sS_unp (is : List Nat) : SoundS T Φ fu k (.unp is e) := fun X sc g C hs h => by
  unfold chkS at h
  cases hp : g.s.bind pAssign with
  | none => rw [hp] at h; cases h
  | some z =>
    obtain ⟨tg, v⟩ := z
    rw [hp] at h
    obtain ⟨h1, h5⟩ := and2 h
    obtain ⟨h1, h4⟩ := and2 h1
    obtain ⟨h1, h3⟩ := and2 h1
    obtain ⟨h1, h2⟩ := and2 h1
    obtain ⟨st, hg, he⟩ := of_bindS hp
    obtain ⟨p, rfl⟩ := pAssign_ok he
    have gt := pg_tg (X := X) C.calm C.nd (tgOk_of C hs) (by rw [C.N]; exact h1)
    have h1' : (match pTuple tg with | some es => chkNames T.N sc is es | none => false) = true := h1
    cases q : pTuple tg with
    | none => rw [q] at h1'; cases h1'
    | some es =>
      obtain ⟨kk, pp, rfl⟩ := pTuple_ok q
      refine liftS (ps_imp (ps_asg (pe_x C hs h2) gt (by unfold swapsWithSole; exact swap_ok h3 h4 _ _ _) (by cases v <;> first | rfl | cases h5) rfl) fun D σ H ⟨G0, H0, ρ, G, L, sr, q⟩ => ?_) hg
      obtain ⟨ρ1, eρ, q⟩ := EndOk.out q
      obtain ⟨x, ex, eρ⟩ := R.of_bind eρ
      obtain ⟨ds, ei, eρ⟩ := R.of_bind eρ
      have eρ' := orBad_ok eρ
      refine ⟨G0, H0, ρ, G, L, sr, x, ex, fun v H' G' s' g h r => ?_⟩
      refine gTg_of (t := .names is) (ρ1 := ρ1) (s'.lend x.s) (RepW.s r) ?_ fun σ1 s1 _ => q _ _ _ _ s1
      obtain ⟨xd, xs, xt⟩ := x
      cases xd with
      | lst ys =>
        have ei := R.ok.inj ei
        subst ei
        exact eρ
      | tup ys =>
        have ei := R.ok.inj ei
        subst ei
        exact eρ
      | _ => cases ei
theorem sub_ok {x : Expr} (h : okE x = true) (o : Expr) (p : Pos) (env : PySem.Env) (v : Value) : assign (.Subscript o x p) env v = (do
      let ov ← holding [v] (eval o env)
      let iv ← holding [v, ov] (eval x env)
      standAt p
      holding [v, ov, iv] (setItem ov iv v)
      release [v, ov, iv] []) := by
  cases x <;> first | rfl | cases h
theorem own_ok {ρ : Env} {i : Nat} {xs : List D} (h : ρ.own i = .ok xs) : ρ[i]? = some (some (.lst xs, 1)) := by
  unfold Env.own at h
  split at h
  · rename_i q
    rw [q, R.ok.inj h]
  · cases h
theorem frz_own {S : List Nat} {ρ : Env} {i : Nat} {xs : List D} (h : (ρ.frz S)[i]? = some (some (.lst xs, 1))) : ρ[i]? = some (some (.lst xs, 1)) := by
  rw [frz_get] at h
  by_cases hi : i ∈ S
  · rw [if_pos hi] at h
    cases q : ρ[i]? with
    | none => rw [q] at h; cases h
    | some o =>
      rw [q] at h
      cases o with
      | none => cases h
      | some dk =>
        obtain ⟨d, n⟩ := dk
        have e2 : d = .lst xs ∧ 0 = 1 := by simpa [frz1] using h
        cases e2.2
  · rw [if_neg hi] at h
    exact h
theorem sS_six (i : Nat) : SoundS T Φ fu k (.six i m e) := fun X sc g C hs h => by
  unfold chkS at h
  cases hp : g.s.bind pAssign with
  | none => rw [hp] at h; cases h
  | some z =>
    obtain ⟨tg, v⟩ := z
    rw [hp] at h
    have h : (match pSub tg with
      | some (o, x) => chkNm T sc i o && chk T m sc (.ex x) && okE x && chk T e sc (.ex v) && okE v && notLC v
      | none => false) = true := h
    cases hq : pSub tg with
    | none => rw [hq] at h; cases h
    | some z =>
      obtain ⟨o, x⟩ := z
      rw [hq] at h
      obtain ⟨h1, h6⟩ := and2 h
      obtain ⟨h1, h5⟩ := and2 h1
      obtain ⟨h1, h4⟩ := and2 h1
      obtain ⟨h1, h3⟩ := and2 h1
      obtain ⟨h1, h2⟩ := and2 h1
      obtain ⟨st, hg, he⟩ := of_bindS hp
      obtain ⟨p, rfl⟩ := pAssign_ok he
      obtain ⟨pp, rfl⟩ := pSub_ok hq
      refine liftS (ps_imp (ps_asg (pe_x C hs h4) (pg_sub (pe_nm C hs h1).1 (pe_x C hs h2) set_list (sub_ok h3 o pp X.env)) (by unfold swapsWithSole; exact swap_ok h5 h6 _ _ _) rfl rfl) fun D σ H ⟨G0, H0, ρ, G, L, sr, q⟩ => ?_) hg
      obtain ⟨ρ2, eρ, q⟩ := EndOk.out q
      obtain ⟨x, ex, eρ⟩ := R.of_bind eρ
      obtain ⟨xs, eo, eρ⟩ := R.of_bind eρ
      obtain ⟨y, ey, eρ⟩ := R.of_bind eρ
      obtain ⟨j, ej, eρ⟩ := R.of_bind eρ
      obtain ⟨n, en, eρ⟩ := R.of_bind eρ
      have eρ := R.ok.inj eρ
      subst eρ
      have en := orBad_ok en
      refine ⟨G0, H0, ρ, G, L, sr, x, ex, fun v1 H1 G1 s1 g1 h1 r1 => ?_⟩
      have s2 := s1.lend x.s
      have r2 := RepW.s r1
      obtain ⟨l, zs, ev, eh, ra, up⟩ := s2.ownL (own_ok eo)
      refine ⟨.ref l, ev, G0, H0, ρ.frz x.s, _, _, s2, y, ey, fun v2 H2 G2 s3 g2 h2 r3 => ?_⟩
      obtain ⟨l', zs', ev', eh', ra', up'⟩ := s3.ownL (own_ok eo)
      rw [ev] at ev'
      cases ev'
      have r4 := RepW.s r3
      rw [intOf_ok ej] at r4
      rw [Rep.intE r4]
      refine ⟨l, zs', j, n, rfl, rfl, eh', by rw [ra'.length]; exact en, ?_⟩
      exact q _ _ _ _ (up' _ _ (RepAll.set (Rep.mono g2 r2) n ra'))
theorem sS_app (i : Nat) : SoundS T Φ fu k (.app i e) := fun X sc g C hs h => by
  unfold chkS at h
  split at h
  · rename_i o mm x hp
    obtain ⟨h1, h4⟩ := and2 h
    obtain ⟨h1, h3⟩ := and2 h1
    obtain ⟨h1, h2⟩ := and2 h1
    have e1 := of_decide_eq_true h1
    subst e1
    obtain ⟨ee, hp1, hp2⟩ := of_bindS hp
    obtain ⟨st, hg, he⟩ := of_bindS hp1
    obtain ⟨p, rfl⟩ := pExprS_ok he
    obtain ⟨ap, cp, rfl, hl⟩ := pMeth_ok hp2
    obtain ⟨hv, hn⟩ := pe_nm C hs h2
    refine liftS (ps_imp (ps_expr (pe_bm PySem.F.plainAttrs_list PySem.F.slot_list_append PySem.F.type_list_append mt_append hv (pa_cons (pe_x C hs h3) pa_nil (star_ok h4 [] X.env)) (attr_ok (by rw [hn]; rfl)) (by rw [star_ok h4]; rfl) hl (star_ok h4 [] X.env) rfl) rfl) fun D σ H ⟨G0, H0, ρ, G, L, sr, q⟩ => ?_) hg
    obtain ⟨ρ2, eρ, q⟩ := EndOk.out q
    obtain ⟨x, ex, eρ⟩ := R.of_bind eρ
    obtain ⟨xs, eo, eρ⟩ := R.of_bind eρ
    obtain ⟨hz, eρ⟩ := R.of_chk eρ
    have eρ := R.ok.inj eρ
    subst eρ
    have eo := own_ok eo
    obtain ⟨l, zs, ev, eh, ra, up⟩ := sr.ownL (frz_own eo)
    refine ⟨.ref l, ev, .inl ⟨rfl, zs, .inl (.inl eh)⟩, G0, H0, ρ, G, L, sr, x, ex, fun v1 H1 G1 s1 g1 h1 r1 => ?_⟩
    have s2 := s1.lend x.s
    obtain ⟨l', zs', ev', eh', ra', up'⟩ := s2.ownL eo
    rw [ev] at ev'
    cases ev'
    refine ⟨l, zs', v1, rfl, rfl, eh', ?_, q _ _ _ _ (up' _ _ (ra'.append (.cons (RepW.s r1) .nil)))⟩
    rw [ra'.length, ← szl_eq]
    exact hz
  · cases h
theorem sS_ret : SoundS T Φ fu k (.ret e) := fun X sc g C hs h => by
  unfold chkS at h
  split at h
  · rename_i x hp
    obtain ⟨st, hg, he⟩ := of_bindS hp
    obtain ⟨p, rfl⟩ := pRet_ok he
    have gen : (∀ ρ, ex Φ fu (.ret e) ρ = (evO Φ e ρ).out fun x => .rt x.1.d x.2) → GoalS Φ fu X (.ret e) g := fun hr => by
      refine liftS (ps_imp (ps_ret (pe_o C hs h)) fun D σ H ⟨G0, H0, ρ, G, L, sr, q⟩ => ?_) hg
      rw [hr] at q
      obtain ⟨x, ex, q⟩ := EndOk.out q
      refine ⟨G0, H0, ρ, G, L, sr, x, ex, fun v H' G' L' s' g h lb o => ?_⟩
      have s2 := s'.lend x.1.s
      exact q v _ H' L' s2.g0 s2.h0 s2.gh s2.gnew (fun a p e => by
        obtain ⟨q1, q2, q3, q4, q5⟩ := lb a p e
        exact ⟨by rw [wld_none q1]; exact q2, q3, q4, q5⟩) o
    cases e with
    | var i =>
      have hc : chkNm T sc i x = true := by
        unfold chk at h
        exact h
      refine liftS (ps_imp (ps_ret (pe_nm C hs hc).1) fun D σ H ⟨G0, H0, ρ, G, L, sr, q⟩ => ?_) hg
      have q : EndOk X.K G0 H0 D (match ρ[i]? with
        | some (some (d, k)) => .rt d k
        | _ => .bad) := q
      split at q
      · rename_i d n e1
        exact sr.hand e1 q
      · exact absurd q id
    | _ => exact gen fun _ => rfl
  · cases h
theorem lent_var {i : Nat} {y : Option (D × Nat)} {t : Tg} {ρ : Env} (h : lentI t m b ρ = some (i, y)) : itVar m = some i ∧ ∃ d k, y = some (d, k) ∧ ρ[i]? = some (some (d, k)) ∧ k ≤ 1 := by
  unfold lentI at h
  cases q : itVar m with
  | none => rw [q] at h; cases h
  | some j =>
    rw [q] at h
    dsimp only at h
    split at h
    · cases h
    · split at h
      · rename_i d k e
        split at h
        · cases h
          exact ⟨rfl, d, k, rfl, e, ‹_›⟩
        · cases h
      · cases h
/-- what a name's items hang on: the name's own things at most, its items on nothing -/
theorem var_st {i : Nat} {ρ : Env} {x : V3} {d : D} {k : Nat} (e : ρ[i]? = some (some (d, k))) (hk : k ≤ 1) (ex : ev Φ (.var i) ρ = .ok x) : (∀ j ∈ x.s, j ∈ [i]) ∧ x.t = [] := by
  obtain ⟨d', e1, e2⟩ := R.of_bind ex
  have e2 := R.ok.inj e2
  subst e2
  have hd : ρ.dep1 i = [] := by
    unfold Env.dep1
    rw [e]
    exact if_pos hk
  have hs : ∀ j ∈ ρ.dep i, j ∈ [i] := fun j hj => by
    unfold Env.dep at hj
    rw [e] at hj
    split at hj
    · cases hj
    · exact hj
    · cases hj
  constructor
  · intro j hj
    have hj : j ∈ dp d' (ρ.dep i) := hj
    unfold dp at hj
    split at hj
    · cases hj
    · exact hs j hj
  · show dp d' (ρ.dep1 i) = []
    rw [hd]
    unfold dp
    split <;> rfl
theorem itVar_st {i : Nat} {ρ : Env} {x : V3} {d : D} {k : Nat} (h : itVar m = some i) (e : ρ[i]? = some (some (d, k))) (hk : k ≤ 1) (ex : ev Φ m ρ = .ok x) : (∀ j ∈ x.s, j ∈ [i]) ∧ x.t = [] := by
  unfold itVar at h
  split at h
  · cases h
    exact var_st e hk ex
  · cases h
    obtain ⟨y, e1, e2⟩ := R.of_bind ex
    obtain ⟨xs, e3, e4⟩ := R.of_bind e2
    have e4 := R.ok.inj e4
    subst e4
    have := var_st (x := y) e hk e1
    exact this
  · cases h
    obtain ⟨y, e1, e2⟩ := R.of_bind ex
    obtain ⟨xs, e3, e4⟩ := R.of_bind e2
    have e4 := R.ok.inj e4
    subst e4
    have := var_st (x := y) e hk e1
    exact this
  · cases h
theorem wld_hpA {K : PySem.W.Frag} {G0 G H : Hp} {H0 : B0} {ρ : Env} {σ : L2.St} {L : Lb} {S : List Nat} {i : Nat} (s : SR K G0 H0 ρ σ G H L) (hs : ∀ j ∈ S, j ∈ [i]) : Same (wld G H L S) (hpA H L i) := fun a o e => by
  rcases labc L a with h | ⟨p, h⟩
  · rw [wld_none h] at e
    rw [hpA_none h]
    exact s.gh _ _ e
  · by_cases hi : inS p S
    · rw [wld_in h hi] at e
      rw [hpA_in h (let ⟨j, e1, m⟩ := hi; ⟨j, e1, hs j m⟩)]
      exact e
    · rw [wld_out h hi] at e
      cases e
theorem sS_for (t : Tg) (B : SoundS T Φ fu k b) : SoundS T Φ fu k (.for_ t m b) := fun X sc g C hs h => by
  unfold chkS at h
  cases hp : g.s.bind pFor with
  | none => rw [hp] at h; cases h
  | some z =>
    obtain ⟨tg, it, p⟩ := z
    rw [hp] at h
    obtain ⟨h1, h4⟩ := and2 h
    obtain ⟨h1, h3⟩ := and2 h1
    obtain ⟨h1, h2⟩ := and2 h1
    obtain ⟨st, hg, he⟩ := of_bindS hp
    obtain ⟨p, rfl⟩ := pFor_ok he
    refine liftS (ps_imp (ps_for C.owns C.calm (pi_x C hs h2) (pg_tg (X := X) C.calm C.nd (tgOk_of C hs) (by rw [C.N]; exact h1)) (B X sc (.blk _) C hs h4) (fold_ok h3 X.env)) fun D σ H ⟨G0, H0, ρ, G, L, sr, q⟩ => ?_) hg
    obtain ⟨z, ez, q⟩ := EndOk.out q
    obtain ⟨x, ex1, ez⟩ := R.of_bind ez
    obtain ⟨ds, ei, ez⟩ := R.of_bind ez
    have ez := R.ok.inj ez
    subst ez
    refine ⟨G0, H0, ρ, G, L, sr, x, ds, ex1, ei, fun J Sd H1 G1 sr1 g1 h1 hSd wk => ?_⟩
    -- the turns, from any state whose base keeps what is gone through
    have core : ∀ (Gb : Hp) (Hb : B0) (ρ0 : Env) (G' : Hp) (L' : Lb), SR X.K Gb Hb ρ0 σ G' H1 L' → (∀ ρ' σ' G2 H2 L2', SR X.K Gb Hb ρ' σ' G2 H2 L2' → Sd H2) → Same (wld G1 H1 L x.t) Gb → EndOk X.K Gb Hb D (forGo t (ex Φ fu b) ds ρ0) →
        ∃ W : Nat → Nat → L2.St → Hp → Prop, (∃ m, W 0 m σ H1) ∧ ∀ i m σ H, W i m σ H → (J.stop i H ∧ D.nx σ H) ∨ (J.go i H ∧ ∃ N : L2.St → Hp → Prop, (∀ σ' H', N σ' H' → ∃ m', m' < m ∧ W (i + 1) m' σ' H') ∧ ∀ x H', J.yld i H x H' → gTg X.K t x σ H' fun σ2 H2 => tEx X.K (ex Φ fu b) { D with nx := N, ct := N, bk := D.nx } σ2 H2) := fun Gb Hb ρ0 G' L' s0 stab hT q => by
      refine ⟨fun i m σ H => ∃ ρ' G' L', m = ds.length - i ∧ i ≤ ds.length ∧ SR X.K Gb Hb ρ' σ G' H L' ∧ EndOk X.K Gb Hb D (forGo t (ex Φ fu b) (ds.drop i) ρ'), ⟨ds.length, _, _, _, by simp, Nat.zero_le _, s0, by simpa using q⟩, ?_⟩
      rintro i m σ H ⟨ρ', G', L', rfl, hi, s', q⟩
      by_cases hlt : i < ds.length
      · refine .inr ⟨wk.go i H (stab _ _ _ _ _ s') hlt, fun σ H => ∃ ρ' G' L', SR X.K Gb Hb ρ' σ G' H L' ∧ EndOk X.K Gb Hb D (forGo t (ex Φ fu b) (ds.drop (i + 1)) ρ'), fun σ' H' ⟨ρ', G', L', s, q⟩ => ⟨ds.length - (i + 1), by omega, ρ', G', L', rfl, hlt, s, q⟩, fun v H' y => ?_⟩
        obtain ⟨d, ed, yl⟩ := wk.yl i H v H' (stab _ _ _ _ _ s') hlt y
        have edrop : ds.drop i = d :: ds.drop (i + 1) := by
          rw [← List.getElem_cons_drop hlt]
          congr 1
          exact Option.some.inj ((List.getElem?_eq_getElem hlt).symm.trans ed)
        rw [edrop] at q
        unfold forGo at q
        have step : ∃ G2, SR X.K Gb Hb ρ' σ G2 H' L' ∧ Rep X.K G2 v d := by
          cases yl with
          | same e r =>
            subst e
            exact ⟨G', s', Rep.mono (hT.trans s'.g0) r⟩
          | @new T' xs es' hT' e ex ed r =>
            subst e ex ed
            exact ⟨_, s'.new hT', .tup (SqT.of upd_same) (RepAll.mono (hT.trans (s'.g0.trans (same_new (s'.gh.free hT')))) r)⟩
        obtain ⟨G2, s2, r2⟩ := step
        cases eρ : t.set d ρ' with
        | bad =>
          rw [eρ] at q
          exact absurd q id
        | exc n fs =>
          rw [eρ] at q
          exact absurd q id
        | ok ρ1 =>
          rw [eρ] at q
          refine gTg_of s2 r2 eρ fun σ1 s3 _ => ⟨Gb, Hb, ρ1, G2, L', s3, ?_⟩
          have q : EndOk X.K Gb Hb D (match ex Φ fu b ρ1 with
            | .nx ρ' => forGo t (ex Φ fu b) (ds.drop (i + 1)) ρ'
            | .ct ρ' => forGo t (ex Φ fu b) (ds.drop (i + 1)) ρ'
            | .bk ρ' => .nx ρ'
            | o => o) := q
          cases eb : ex Φ fu b ρ1 with
          | nx ρ' =>
            rw [eb] at q
            exact fun σ G H L s => ⟨ρ', G, L, s, q⟩
          | ct ρ' =>
            rw [eb] at q
            exact fun σ G H L s => ⟨ρ', G, L, s, q⟩
          | bk ρ' =>
            rw [eb] at q
            exact fun σ G H L s => q σ G H L s
          | rt d k =>
            rw [eb] at q
            exact q
          | bad =>
            rw [eb] at q
            exact q
          | ex _ _ =>
            rw [eb] at q
            exact q
      · have e : i = ds.length := by omega
        subst e
        rw [List.drop_length] at q
        exact .inl ⟨wk.stop _ H (stab _ _ _ _ _ s') (Nat.le_refl _), q σ G' H L' s'⟩
    have q : EndOk X.K G0 H0 D (match lentI t m b ρ with
      | some (i, y) => (forGo t (ex Φ fu b) ds (ρ.set i none)).back i y
      | none => forGo t (ex Φ fu b) ds (ρ.frz (x.s ++ x.t))) := q
    cases el : lentI t m b ρ with
    | none =>
      rw [el] at q
      have srL := sr1.lend (x.s ++ x.t)
      have hSdB : Sd (wld G1 H1 L (x.s ++ x.t)) := wk.mono _ _ (sr1.wldSub mem_l) hSd
      have hT : Same (wld G1 H1 L x.t) (wld G1 H1 L (x.s ++ x.t)) := sr1.wldSub mem_r
      exact core (wld G1 H1 L (x.s ++ x.t)) H0 _ _ _ srL.rebase (fun ρ' σ' G2 H2 L2' s => wk.mono _ _ (s.g0.trans s.gh) hSdB) hT (EndOk.base srL.g0 srL.gnew q)
    | some z =>
      obtain ⟨i, y⟩ := z
      rw [el] at q
      obtain ⟨hv, d, k', rfl, e1, hk⟩ := lent_var el
      obtain ⟨hxs, hxt⟩ := itVar_st hv e1 hk ex1
      refine core G1 (bsA H0 H1 L i σ) _ _ _ (sr1.aside i) (fun ρ' σ' G2 H2 L2' s => wk.mono _ _ ((wld_hpA sr1 hxs).trans s.h0) hSd) (by rw [hxt, sr1.wld0]; exact Same.refl _) (EndOk.aside sr1 e1 q)
theorem soundS : ∀ s : S, SoundS T Φ fu k s
  | .skip => sS_skip
  | .seq a b => sS_seq (soundS a) (soundS b)
  | .asg i e => sS_asg i
  | .unp is e => sS_unp is
  | .six i a e => sS_six i
  | .app i e => sS_app i
  | .exp e => sS_exp
  | .ret e => sS_ret
  | .retN => sS_retN
  | .ite c a b => sS_ite (soundS a) (soundS b)
  | .whl c b => sS_whl (soundS b)
  | .for_ t it b => sS_for t (soundS b)
  | .brk => sS_brk
  | .cnt => sS_cnt
  | .rai c es => sS_rai c
end
end Mp

set_option Elab.async false
set_option linter.all false
set_option maxRecDepth 100000
set_option maxHeartbeats 4000000
/-! Mp15: defs: what the small language says of a def, the def does. -/
namespace Mp
open PySem PySem.Spec PyProof.Rows L2

/-- a def: its name, its statement, its slots, its parameters, its body in the small language -/
structure Fd where
  name : Str
  st : Stmt
  N : List Str
  ps : List Str
  b : S
def scOk (N ps : List Str) (sc : Scope) : Bool := decide (sc.kind = .function) && !sc.isCoroutine && !sc.isGenerator && decide N.Nodup && decide (N.take ps.length = ps) &&
  ps.all (fun x => decide (sc.names.lookup x = some .local ∨ sc.names.lookup x = some .cell)) && sc.names.all (fun y => decide (y.2 ≠ .free))
theorem scOk_ok {N ps : List Str} {sc : Scope} (h : scOk N ps sc = true) : FnScope N ps sc := by
  obtain ⟨h, h7⟩ := and2 h
  obtain ⟨h, h6⟩ := and2 h
  obtain ⟨h, h5⟩ := and2 h
  obtain ⟨h, h4⟩ := and2 h
  obtain ⟨h, h3⟩ := and2 h
  obtain ⟨h1, h2⟩ := and2 h
  exact ⟨of_decide_eq_true h1, by simpa using h2, by simpa using h3, of_decide_eq_true h4, of_decide_eq_true h5, fun x hx => of_decide_eq_true (List.all_eq_true.mp h6 x hx), fun y hy => of_decide_eq_true (List.all_eq_true.mp h7 y hy)⟩
def Fd.ok (fn : List Str) (con : List (Str × Int)) (d : Fd) : Bool := scOk d.N d.ps (defScope d.st) && chkS ⟨d.N, fn, con⟩ d.b (defScope d.st) (.blk (defBody d.st))
def Fd.bd (d : Fd) : Prop := ∀ (kV doc pm : Value) (an : Option Addr) (cdv ct : Value) (us : List Value), us.length = d.ps.length →
  bindArgs (PySem.W.fnOf d.name d.name (defArgs d.st) (defBody d.st) (defScope d.st) .none kV doc pm an cdv ct) ⟨us, []⟩ = pure (d.ps.zip us)
abbrev Fd.fun (K : PySem.W.Frag) (d : Fd) (f : Addr) (fd : FuncData) : Prop := FunD K d.name d.name (defArgs d.st) (defBody d.st) (defScope d.st) [] [] f fd
def phi (fu : Nat) (tab : List Fd) : Nat → Nat → Fn
  | 0, _, _ => .bad
  | k + 1, j, ds => match tab[j]? with
    | some d => run (phi fu tab k) fu d.ps.length d.N.length d.b ds
    | none => .bad
theorem phi_pphi (fu : Nat) (tab : List Fd) : ∀ k, phi fu tab k = pphi fu (tab.map fun d => (d.ps.length, d.N.length, d.b)) k
  | 0 => rfl
  | k + 1 => by
    funext j ds
    show (match tab[j]? with | some d => run (phi fu tab k) fu d.ps.length d.N.length d.b ds | none => .bad) = (match (tab.map fun d => (d.ps.length, d.N.length, d.b))[j]? with | some d => run (pphi fu _ k) fu d.1 d.2.1 d.2.2 ds | none => .bad)
    rw [phi_pphi fu tab k, List.getElem?_map]
    cases tab[j]? <;> rfl
theorem FnOk.never {P : Program} {w : World} {K : PySem.W.Frag} {mg : Str → Option Value} {base : Heap} {k : Nat} {f : Addr} {fd : FuncData} {ps : List Str} {sp : Sp} (h : ∀ vs H Q E, ¬ sp vs H Q E) : FnOk P w K mg base CX0 k f fd ps sp :=
  ⟨fun vs H Q E q => absurd q (h vs H Q E), fun _ _ _ _ _ _ _ _ _ _ _ _ _ q => absurd q (h _ _ _ _)⟩
theorem RepAll.args {K : PySem.W.Frag} {G : Hp} {vs : List V} {ds : List D} (r : RepAll K G vs ds) (n : Nat) {i : Nat} {d : D} {k : Nat} (e : (ds.map sv ++ List.replicate n none)[i]? = some (some (d, k))) (m : Nat) :
    k = 0 ∧ ∃ v, (vs.map some ++ List.replicate m none)[i]? = some (some v) ∧ Rep K G v d := by
  by_cases h : i < ds.length
  · rw [List.getElem?_append_left (by rw [List.length_map]; exact h), List.getElem?_map, List.getElem?_eq_getElem h] at e
    have e2 : (ds[i], 0) = (d, k) := Option.some.inj (Option.some.inj e)
    obtain ⟨v, e3, r2⟩ := r.get (List.getElem?_eq_getElem h)
    cases e2
    refine ⟨rfl, v, ?_, r2⟩
    rw [List.getElem?_append_left (by rw [List.length_map, r.length]; exact h), List.getElem?_map, e3]
    rfl
  · rw [List.getElem?_append_right (by rw [List.length_map]; omega), List.getElem?_replicate] at e
    split at e <;> cases e
section
variable {P : Program} {w : World} {K : PySem.W.Frag} {mg : Str → Option Value} {base : Heap} {tab : List Fd} {con : List (Str × Int)} {fu : Nat}
theorem all_ok (Hf : ∀ d ∈ tab, ∃ f fd, mg d.name = some (.ref f) ∧ d.fun K f fd) (Hb : ∀ d ∈ tab, d.bd) (Hc : tab.all (Fd.ok (tab.map Fd.name) con) = true) (Hblt : ∀ x ∈ bltAll, mg x = none) (Hcon : ∀ x i, con.lookup x = some i → ∃ t, mg x = some (.int i t)) :
    ∀ k j d, tab[j]? = some d → ∀ f fd, mg d.name = some (.ref f) → d.fun K f fd → FnOk P w K mg base CX0 k f fd d.ps (spF K d.ps.length (phi fu tab k j)) := by
  intro k
  induction k with
  | zero =>
    intro j d hj f fd _ _
    exact FnOk.never fun vs H Q E ⟨_, _, _, _, _, _, h, _⟩ => by cases h
  | succ k ih =>
    intro j d hj f fd hmg F
    have hd : d ∈ tab := List.mem_of_getElem? hj
    obtain ⟨c1, c2⟩ := and2 (List.all_eq_true.mp Hc d hd)
    have S := scOk_ok c1
    have ephi : phi fu tab (k + 1) j = fun ds => run (phi fu tab k) fu d.ps.length d.N.length d.b ds := by
      funext ds
      show (match tab[j]? with | some d => run (phi fu tab k) fu d.ps.length d.N.length d.b ds | none => .bad) = _
      rw [hj]
    refine F.ok S (fun vs H Q E ⟨_, _, _, h, _⟩ => h) (fun cdv A outer s H vs Q E hr h => ?_)
    have C : CnS ⟨d.N, tab.map Fd.name, con⟩ (phi fu tab k) k (cxOf CX0 P w K mg base d.N d.name (defScope d.st) f cdv A outer s H E).nox := by
      refine ⟨⟨rfl, rfl, S.nd, hr, Hblt, Hcon, fun i x e => ?_⟩, S.kind, PassesOwn.never, fun _ => rfl⟩
      have e : (tab.map Fd.name)[i]? = some x := e
      rw [List.getElem?_map] at e
      cases q : tab[i]? with
      | none => rw [q] at e; cases e
      | some d' =>
        rw [q] at e
        cases e
        have hm := List.mem_of_getElem? q
        obtain ⟨f', fd', g1, g2⟩ := Hf d' hm
        refine ⟨f', fd', d'.ps, g1, g2.kp, FunD.bindsN g2 (Hb d' hm), ih i d' q f' fd' g1 g2, fun ds r e => ?_⟩
        cases k with
        | zero => cases e
        | succ k =>
          have e : (match tab[i]? with | some d => run (phi fu tab k) fu d.ps.length d.N.length d.b ds | none => .bad) = .ok r := e
          rw [q] at e
          have e : (if ds.length = d'.ps.length then _ else R.bad) = .ok r := e
          by_cases hl : ds.length = d'.ps.length
          · exact hl
          · rw [if_neg hl] at e
            cases e
    have B := soundS (T := ⟨d.N, tab.map Fd.name, con⟩) (Φ := phi fu tab k) (fu := fu) (k := k) d.b _ (defScope d.st) (.blk (defBody d.st)) C rfl c2
    refine ⟨tEx K (ex (phi fu tab k) fu d.b), PSs.nox B, ?_⟩
    obtain ⟨G, ds, r, hl, hs, ra, er, kQ⟩ := h
    rw [ephi] at er
    have er : (if ds.length = d.ps.length then (match ex (phi fu tab k) fu d.b (ds.map sv ++ List.replicate (d.N.length - ds.length) none) with
      | .rt d k => R.ok (d, k)
      | .nx _ => .ok (.non, 0)
      | .ex c fs => .exc c fs
      | _ => .bad) else .bad) = .ok r := er
    have hld : ds.length = d.ps.length := by rw [← ra.length, hl]
    rw [if_pos hld] at er
    have s0 : SR K G ⟨H, fun j => (L2.start d.N vs)[j]?⟩ (ds.map sv ++ List.replicate (d.N.length - ds.length) none) (L2.start d.N vs) G H (fun _ => none) := by
      refine ⟨hs, Same.refl G, Same.refl H, fun a o e => .inl e, fun a p e => (by cases e), ?_, fun i d' n e => ?_, fun _ _ => rfl⟩
      · unfold L2.start
        rw [List.length_append, List.length_append, List.length_map, List.length_map, List.length_replicate, List.length_replicate, ra.length]
      · obtain ⟨rfl, v, e1, e2⟩ := ra.args _ e (d.N.length - vs.length)
        exact ⟨v, e1, e2⟩
    refine ⟨G, ⟨H, fun j => (L2.start d.N vs)[j]?⟩, _, G, _, s0, ?_⟩
    cases eo : ex (phi fu tab k) fu d.b (ds.map sv ++ List.replicate (d.N.length - ds.length) none) with
    | rt d' n =>
      rw [eo] at er
      have er := R.ok.inj er
      subst er
      exact fun v G' H' L' g h gh gn lb o => kQ v H' G' L' h g gh gn lb o
    | nx ρ' =>
      rw [eo] at er
      have er := R.ok.inj er
      subst er
      exact fun σ' G' H' L' s' => kQ .non H' G' (fun _ => none) s'.h0 s'.g0 s'.gh s'.gnew (fun _ _ z => by cases z) .non
    | bad => rw [eo] at er; cases er
    | bk _ => rw [eo] at er; cases er
    | ct _ => rw [eo] at er; cases er
    | ex _ _ => rw [eo] at er; cases er
/-- a law: its def at place j answers True to every list of at most n whole numbers -/
theorem law_sp {n : Nat} {F : Fn} (hF : ∀ ns : List Int, ns.length ≤ n → ∃ k, F [.lst (ns.map D.int)] = .ok (.bl true, k)) {H : Hp} {a : Addr} {ns : List Int} (hl : ns.length ≤ n) (hS : SqL K H a (ns.map V.int)) : spF K 1 F [.ref a] H (fun v _ => v = .bl true) fun _ _ _ => False := by
  obtain ⟨k, e⟩ := hF ns hl
  have ra : ∀ ns : List Int, RepAll K H (ns.map V.int) (ns.map D.int) := fun ns => by
    induction ns with
    | nil => exact .nil
    | cons i r ih => exact .cons (.int i) ih
  refine ⟨H, _, _, rfl, Same.refl H, .cons (.lst hS (ra ns)) .nil, e, fun v H' G' L' _ _ _ _ _ o => ?_⟩
  cases k with
  | zero =>
    have o : Rep K G' v (.bl true) := o
    cases o
    rfl
  | succ k =>
    obtain ⟨_, _, _, _, e, _⟩ := o
    cases e
end
end Mp

set_option Elab.async false
set_option linter.all false
set_option maxRecDepth 100000
set_option maxHeartbeats 4000000
/-! Mp16: what the top leaves, by names; a law's promise. -/
namespace Mp
open PySem PySem.Spec PyProof.Rows L2
def Fd.dd (d : Fd) : He.DefD := ⟨(d.name, none), d.name, d.name, defArgs d.st, defBody d.st, defScope d.st, [], []⟩
def faOf (tab : List Fd) (con : List (Str × Int)) : List He.Fa := (tab.map fun d => .glo d.name) ++ (bltAll.map .free ++ con.map fun p => .int p.1 p.2)
def fnOf (tab : List Fd) : List He.DefD := tab.map Fd.dd
theorem law_facts {P : Program} {w : World} {K : PySem.W.Frag} {h : Heap} {mg : Str → Option Value} {f : Addr} {tab : List Fd} {con : List (Str × Int)} (X : K.In h) (G : h.Ns mainGlobals mg) (c : He.SaysD (faOf tab con) (fnOf tab) K)
    (Hb : ∀ d ∈ tab, d.bd) (Hc : tab.all (Fd.ok (tab.map Fd.name) con) = true) (fu k la : Nat) {d : Fd} (dl : tab[la]? = some d) (hfa : mg d.name = some (.ref f)) {x : Str} (hps : d.ps = [x]) :
    ∃ fd : FuncData, (∀ (s : Shared) (v : Value), BindsTo s fd ⟨[v], []⟩ [(x, v)]) ∧ ∀ base : Heap, K.In base → base.Ns mainGlobals mg → FnOk P w K mg base CX0 k f fd [x] (spF K 1 (phi fu tab k la)) := by
  have glo : ∀ d ∈ tab, mg d.name = some (.ref (He.ga K d.name)) := fun d hd => He.glo_ok X G (c.facts (List.mem_append_left _ (List.mem_map.mpr ⟨d, hd, rfl⟩)))
  have blt : ∀ y ∈ bltAll, mg y = none := fun y hy => He.free_ok X G (c.facts (List.mem_append_right _ (List.mem_append_left _ (List.mem_map.mpr ⟨y, hy, rfl⟩))))
  have con : ∀ y i, con.lookup y = some i → ∃ t, mg y = some (.int i t) := fun y i e => He.int_ok X G (c.facts (List.mem_append_right _ (List.mem_append_right _ (List.mem_map.mpr ⟨(y, i), PySem.mem_of_lookup e, rfl⟩))))
  have fun_ : ∀ d ∈ tab, ∃ fd, d.fun K (He.ga K d.name) fd := fun d hd => c.defs (d := d.dd) (List.mem_map.mpr ⟨d, hd, rfl⟩)
  have hd := List.mem_of_getElem? dl
  obtain ⟨fd, F⟩ := fun_ d hd
  have e := hfa.symm.trans (glo d hd)
  cases e
  have b := FunD.bindsA (ps := d.ps) F (Hb d hd)
  rw [hps] at b
  refine ⟨fd, fun s v => b s [v] rfl, fun base _ _ => ?_⟩
  have r := all_ok (P := P) (w := w) (K := K) (mg := mg) (base := base) (fu := fu) (fun d hd => by
    obtain ⟨fd, F⟩ := fun_ d hd
    exact ⟨_, fd, glo d hd, F⟩) Hb Hc blt con k la d dl _ fd (glo d hd) F
  rw [hps] at r
  exact r
end Mp

set_option Elab.async false
set_option linter.all false
set_option maxRecDepth 100000
namespace Mp
/-! printed by gen.py from the linked text: the defs in the small language -/
open PySem
/-- 0: is_integer(value); slots [(0, 'value')] -/
def b_is_integer : S := (.ret (.and (.isi1 (.var 0) .int) (.not (.isi1 (.var 0) .bool))))
/-- 1: is_row(value); slots [(0, 'value')] -/
def b_is_row : S := (.ret (.isi (.var 0) [.list, .tuple]))
/-- 2: is_within(value, low, high); slots [(0, 'value'), (1, 'low'), (2, 'high')] -/
def b_is_within : S := (.ret (.and (.call 0 (.cons (.var 0) .nil)) (.chain .le .le (.var 1) (.var 0) (.var 2))))
/-- 3: check_number(name, value, low, high); slots [(0, 'name'), (1, 'value'), (2, 'low'), (3, 'high')] -/
def b_check_number : S := (.seq (.ite (.not (.call 2 (.cons (.var 1) (.cons (.var 2) (.cons (.var 3) .nil))))) (.rai 2 (.cons (.var 0) (.cons (.con .non) .nil))) .skip)
  (.ret (.var 1)))
/-- 4: check_integers(name, values, size, low, high); slots [(0, 'name'), (1, 'values'), (2, 'size'), (3, 'low'), (4, 'high'), (5, 'place'), (6, 'value')] -/
def l_check_integers_0 : S := (.ite (.not (.call 2 (.cons (.var 6) (.cons (.var 3) (.cons (.var 4) .nil))))) (.rai 2 (.cons (.var 0) (.cons (.var 5) .nil))) .skip)
def f_check_integers_0 : S := .for_ (.names [5, 6]) (.enum (.var 1)) l_check_integers_0
def b_check_integers : S := (.seq (.ite (.or (.not (.call 1 (.cons (.var 1) .nil))) (.cmp .ne (.bf .len (.cons (.var 1) .nil)) (.var 2))) (.rai 2 (.cons (.var 0) (.cons (.con .non) .nil))) .skip)
  (.seq (f_check_integers_0)
  (.ret (.bf .tuple (.cons (.var 1) .nil)))))
/-- 5: check_room(room); slots [(0, 'room')] -/
def b_check_room : S := (.ret (.call 3 (.cons (.con (.str (Str.ofString "room"))) (.cons (.var 0) (.cons (.con (.int 1)) (.cons (.con (.int 1000)) .nil))))))
/-- 6: check_flows(name, flows); slots [(0, 'name'), (1, 'flows')] -/
def b_check_flows : S := (.seq (.ite (.or (.not (.call 1 (.cons (.var 1) .nil))) (.cmp .eq (.bf .len (.cons (.var 1) .nil)) (.con (.int 0)))) (.rai 2 (.cons (.var 0) (.cons (.con .non) .nil))) .skip)
  (.seq (.ite (.cmp .gt (.bf .len (.cons (.var 1) .nil)) (.con (.int 24))) (.rai 1 (.cons (.con (.int 24)) .nil)) .skip)
  (.ret (.call 4 (.cons (.var 0) (.cons (.var 1) (.cons (.bf .len (.cons (.var 1) .nil)) (.cons (.con (.int 0)) (.cons (.con (.int 1000)) .nil)))))))))
/-- 7: check_draws(draws, periods); slots [(0, 'draws'), (1, 'periods')] -/
def b_check_draws : S := (.ret (.call 4 (.cons (.con (.str (Str.ofString "draws"))) (.cons (.var 0) (.cons (.var 1) (.cons (.con (.int 0)) (.cons (.con (.int 1000)) .nil)))))))
/-- 8: check_moment(room, periods, period, level); slots [(0, 'room'), (1, 'periods'), (2, 'period'), (3, 'level')] -/
def b_check_moment : S := (.seq (.exp (.call 3 (.cons (.con (.str (Str.ofString "period"))) (.cons (.var 2) (.cons (.con (.int 0)) (.cons (.bin .sub (.var 1) (.con (.int 1))) .nil))))))
  (.exp (.call 3 (.cons (.con (.str (Str.ofString "level"))) (.cons (.var 3) (.cons (.con (.int 0)) (.cons (.var 0) .nil)))))))
/-- 9: check_high(high, low); slots [(0, 'high'), (1, 'low'), (2, 'period'), (3, 'flow')] -/
def l_check_high_0 : S := (.ite (.not (.call 2 (.cons (.var 3) (.cons (.ix (.var 1) (.var 2)) (.cons (.con (.int 1000)) .nil))))) (.rai 2 (.cons (.con (.str (Str.ofString "high"))) (.cons (.var 2) .nil))) .skip)
def f_check_high_0 : S := .for_ (.names [2, 3]) (.enum (.var 0)) l_check_high_0
def b_check_high : S := (.seq (.ite (.or (.not (.call 1 (.cons (.var 0) .nil))) (.cmp .ne (.bf .len (.cons (.var 0) .nil)) (.bf .len (.cons (.var 1) .nil)))) (.rai 2 (.cons (.con (.str (Str.ofString "high"))) (.cons (.con .non) .nil))) .skip)
  (.seq (f_check_high_0)
  (.ret (.bf .tuple (.cons (.var 0) .nil)))))
/-- 10: check_band(room, low, high, draws, gate); slots [(0, 'room'), (1, 'low'), (2, 'high'), (3, 'draws'), (4, 'gate'), (5, 'lows'), (6, 'highs'), (7, 'takes')] -/
def b_check_band : S := (.seq (.exp (.call 5 (.cons (.var 0) .nil)))
  (.seq (.asg 5 (.call 6 (.cons (.con (.str (Str.ofString "low"))) (.cons (.var 1) .nil))))
  (.seq (.asg 6 (.call 9 (.cons (.var 2) (.cons (.var 5) .nil))))
  (.seq (.asg 7 (.call 7 (.cons (.var 3) (.cons (.bf .len (.cons (.var 5) .nil)) .nil))))
  (.seq (.exp (.call 3 (.cons (.con (.str (Str.ofString "gate"))) (.cons (.var 4) (.cons (.con (.int 0)) (.cons (.con (.int 1000)) .nil))))))
  (.ret (.tup (.cons (.var 5) (.cons (.var 6) (.cons (.var 7) .nil))))))))))
/-- 11: dry_losses(lows, takes); slots [(0, 'lows'), (1, 'takes'), (2, 'take'), (3, 'flow')] -/
def e_dry_losses_0 : M := .bin .sub (.var 2) (.var 3)
def c_dry_losses_0 : M := .lc e_dry_losses_0 (.names [2, 3]) [2, 3] (.zip (.var 1) (.var 0))
def b_dry_losses : S := (.ret (c_dry_losses_0))
/-- 12: flood_losses(highs, takes, gate); slots [(0, 'highs'), (1, 'takes'), (2, 'gate'), (3, 'take'), (4, 'flow')] -/
def e_flood_losses_0 : M := .bin .sub (.bin .add (.var 3) (.var 2)) (.var 4)
def c_flood_losses_0 : M := .lc e_flood_losses_0 (.names [3, 4]) [3, 4] (.zip (.var 1) (.var 0))
def b_flood_losses : S := (.ret (c_flood_losses_0))
/-- 13: sums_from(losses, start, length); slots [(0, 'losses'), (1, 'start'), (2, 'length'), (3, 'sums'), (4, 'turn')] -/
def l_sums_from_0 : S := (.app 3 (.bin .add (.ix (.var 3) (.neg (.con (.int 1)))) (.ix (.var 0) (.bin .mod (.bin .add (.var 1) (.var 4)) (.bf .len (.cons (.var 0) .nil))))))
def f_sums_from_0 : S := .for_ (.name 4) (.rng1 (.var 2)) l_sums_from_0
def b_sums_from : S := (.seq (.asg 3 (.lst (.cons (.con (.int 0)) .nil)))
  (.seq (f_sums_from_0)
  (.ret (.var 3))))
/-- 14: pairs_of(room, dry, flood); slots [(0, 'room'), (1, 'dry'), (2, 'flood'), (3, 'periods'), (4, 'pairs'), (5, 'start'), (6, 'least'), (7, 'greatest')] -/
def l_pairs_of_0 : S := (.seq (.asg 6 (.bf .max (.cons (.call 13 (.cons (.var 1) (.cons (.var 5) (.cons (.var 3) .nil)))) .nil)))
  (.seq (.asg 7 (.bin .add (.var 0) (.bf .min (.cons (.call 13 (.cons (.var 2) (.cons (.var 5) (.cons (.var 3) .nil)))) .nil))))
  (.app 4 (.tup (.cons (.var 6) (.cons (.var 7) .nil))))))
def f_pairs_of_0 : S := .for_ (.name 5) (.rng1 (.var 3)) l_pairs_of_0
def b_pairs_of : S := (.seq (.asg 3 (.bf .len (.cons (.var 1) .nil)))
  (.seq (.asg 4 (.lst .nil))
  (.seq (f_pairs_of_0)
  (.ret (.var 4)))))
/-- 15: band_of(room, lows, highs, takes, gate); slots [(0, 'room'), (1, 'lows'), (2, 'highs'), (3, 'takes'), (4, 'gate'), (5, 'dry'), (6, 'flood'), (7, 'pairs'), (8, 'least'), (9, 'greatest')] -/
def l_band_of_0 : S := (.ite (.cmp .gt (.var 8) (.var 9)) (.ret (.con .non)) .skip)
def f_band_of_0 : S := .for_ (.names [8, 9]) (.var 7) l_band_of_0
def b_band_of : S := (.seq (.asg 5 (.call 11 (.cons (.var 1) (.cons (.var 3) .nil))))
  (.seq (.asg 6 (.call 12 (.cons (.var 2) (.cons (.var 3) (.cons (.var 4) .nil)))))
  (.seq (.ite (.or (.cmp .gt (.bf .sum (.cons (.var 5) .nil)) (.con (.int 0))) (.cmp .lt (.bf .sum (.cons (.var 6) .nil)) (.con (.int 0)))) (.ret (.con .non)) .skip)
  (.seq (.asg 7 (.call 14 (.cons (.var 0) (.cons (.var 5) (.cons (.var 6) .nil)))))
  (.seq (f_band_of_0)
  (.ret (.var 7)))))))
/-- 16: band(room, low, high, draws, gate); slots [(0, 'room'), (1, 'low'), (2, 'high'), (3, 'draws'), (4, 'gate'), (5, 'lows'), (6, 'highs'), (7, 'takes')] -/
def b_band : S := (.seq (.unp [5, 6, 7] (.call 10 (.cons (.var 0) (.cons (.var 1) (.cons (.var 2) (.cons (.var 3) (.cons (.var 4) .nil)))))))
  (.ret (.call 15 (.cons (.var 0) (.cons (.var 5) (.cons (.var 6) (.cons (.var 7) (.cons (.var 4) .nil))))))))
/-- 17: is_pair(room, pair); slots [(0, 'room'), (1, 'pair'), (2, 'least'), (3, 'greatest')] -/
def b_is_pair : S := (.seq (.ite (.or (.not (.call 1 (.cons (.var 1) .nil))) (.cmp .ne (.bf .len (.cons (.var 1) .nil)) (.con (.int 2)))) (.ret (.con (.bl false))) .skip)
  (.seq (.unp [2, 3] (.var 1))
  (.ret (.and (.call 2 (.cons (.var 2) (.cons (.con (.int 0)) (.cons (.var 0) .nil)))) (.call 2 (.cons (.var 3) (.cons (.var 2) (.cons (.var 0) .nil))))))))
/-- 18: shows_band(room, low, high, draws, gate, table); slots [(0, 'room'), (1, 'low'), (2, 'high'), (3, 'draws'), (4, 'gate'), (5, 'table'), (6, 'lows'), (7, 'highs'), (8, 'takes'), (9, 'pair'), (10, 'period'), (11, 'least'), (12, 'greatest')] -/
def l_shows_band_0 : S := (.ite (.not (.call 17 (.cons (.var 0) (.cons (.var 9) .nil)))) (.ret (.con (.bl false))) .skip)
def f_shows_band_0 : S := .for_ (.name 9) (.var 5) l_shows_band_0
def l_shows_band_1 : S := (.seq (.unp [11, 12] (.ix (.var 5) (.bin .mod (.bin .add (.var 10) (.con (.int 1))) (.bf .len (.cons (.var 6) .nil)))))
  (.seq (.ite (.cmp .lt (.bin .sub (.bin .add (.ix (.var 9) (.con (.int 0))) (.ix (.var 6) (.var 10))) (.ix (.var 8) (.var 10))) (.var 11)) (.ret (.con (.bl false))) .skip)
  (.ite (.cmp .gt (.bin .sub (.bin .sub (.bin .add (.ix (.var 9) (.con (.int 1))) (.ix (.var 7) (.var 10))) (.ix (.var 8) (.var 10))) (.var 4)) (.var 12)) (.ret (.con (.bl false))) .skip)))
def f_shows_band_1 : S := .for_ (.names [10, 9]) (.enum (.var 5)) l_shows_band_1
def b_shows_band : S := (.seq (.unp [6, 7, 8] (.call 10 (.cons (.var 0) (.cons (.var 1) (.cons (.var 2) (.cons (.var 3) (.cons (.var 4) .nil)))))))
  (.seq (.ite (.or (.not (.call 1 (.cons (.var 5) .nil))) (.cmp .ne (.bf .len (.cons (.var 5) .nil)) (.bf .len (.cons (.var 6) .nil)))) (.ret (.con (.bl false))) .skip)
  (.seq (f_shows_band_0)
  (.seq (f_shows_band_1)
  (.ret (.con (.bl true)))))))
/-- 19: squeeze(room, low, high, draws, gate); slots [(0, 'room'), (1, 'low'), (2, 'high'), (3, 'draws'), (4, 'gate'), (5, 'lows'), (6, 'highs'), (7, 'takes'), (8, 'dry'), (9, 'flood'), (10, 'period'), (11, 'pair'), (12, 'least'), (13, 'greatest'), (14, 'dry_length'), (15, 'flood_length')] -/
def l_squeeze_0 : S := (.seq (.unp [12, 13] (.var 11))
  (.ite (.cmp .gt (.var 12) (.var 13)) (.seq (.asg 14 (.index (.call 13 (.cons (.var 8) (.cons (.var 10) (.cons (.bf .len (.cons (.var 8) .nil)) .nil)))) (.var 12)))
    (.seq (.asg 15 (.index (.call 13 (.cons (.var 9) (.cons (.var 10) (.cons (.bf .len (.cons (.var 8) .nil)) .nil)))) (.bin .sub (.var 13) (.var 0))))
    (.ret (.tup (.cons (.con (.str (Str.ofString "meet"))) (.cons (.var 10) (.cons (.var 14) (.cons (.var 15) .nil)))))))) .skip))
def f_squeeze_0 : S := .for_ (.names [10, 11]) (.enum (.call 14 (.cons (.var 0) (.cons (.var 8) (.cons (.var 9) .nil))))) l_squeeze_0
def b_squeeze : S := (.seq (.unp [5, 6, 7] (.call 10 (.cons (.var 0) (.cons (.var 1) (.cons (.var 2) (.cons (.var 3) (.cons (.var 4) .nil)))))))
  (.seq (.asg 8 (.call 11 (.cons (.var 5) (.cons (.var 7) .nil))))
  (.seq (.asg 9 (.call 12 (.cons (.var 6) (.cons (.var 7) (.cons (.var 4) .nil)))))
  (.seq (.ite (.cmp .gt (.bf .sum (.cons (.var 8) .nil)) (.con (.int 0))) (.ret (.tup (.cons (.con (.str (Str.ofString "dry"))) .nil))) .skip)
  (.seq (.ite (.cmp .lt (.bf .sum (.cons (.var 9) .nil)) (.con (.int 0))) (.ret (.tup (.cons (.con (.str (Str.ofString "flood"))) .nil))) .skip)
  (.seq (f_squeeze_0)
  (.ret (.con .non))))))))
/-- 20: shows_squeeze(room, low, high, draws, gate, paper); slots [(0, 'room'), (1, 'low'), (2, 'high'), (3, 'draws'), (4, 'gate'), (5, 'paper'), (6, 'lows'), (7, 'highs'), (8, 'takes'), (9, 'dry'), (10, 'flood'), (11, 'kind'), (12, 'period'), (13, 'dry_length'), (14, 'flood_length'), (15, 'lost')] -/
def b_shows_squeeze : S := (.seq (.unp [6, 7, 8] (.call 10 (.cons (.var 0) (.cons (.var 1) (.cons (.var 2) (.cons (.var 3) (.cons (.var 4) .nil)))))))
  (.seq (.asg 9 (.call 11 (.cons (.var 6) (.cons (.var 8) .nil))))
  (.seq (.asg 10 (.call 12 (.cons (.var 7) (.cons (.var 8) (.cons (.var 4) .nil)))))
  (.seq (.ite (.or (.not (.call 1 (.cons (.var 5) .nil))) (.cmp .eq (.bf .len (.cons (.var 5) .nil)) (.con (.int 0)))) (.ret (.con (.bl false))) .skip)
  (.seq (.ite (.cmp .eq (.ix (.var 5) (.con (.int 0))) (.con (.str (Str.ofString "dry")))) (.ret (.and (.cmp .eq (.bf .len (.cons (.var 5) .nil)) (.con (.int 1))) (.cmp .gt (.bf .sum (.cons (.var 9) .nil)) (.con (.int 0))))) .skip)
  (.seq (.ite (.cmp .eq (.ix (.var 5) (.con (.int 0))) (.con (.str (Str.ofString "flood")))) (.ret (.and (.cmp .eq (.bf .len (.cons (.var 5) .nil)) (.con (.int 1))) (.cmp .lt (.bf .sum (.cons (.var 10) .nil)) (.con (.int 0))))) .skip)
  (.seq (.ite (.or (.cmp .ne (.ix (.var 5) (.con (.int 0))) (.con (.str (Str.ofString "meet")))) (.cmp .ne (.bf .len (.cons (.var 5) .nil)) (.con (.int 4)))) (.ret (.con (.bl false))) .skip)
  (.seq (.unp [11, 12, 13, 14] (.var 5))
  (.seq (.ite (.not (.call 2 (.cons (.var 12) (.cons (.con (.int 0)) (.cons (.bin .sub (.bf .len (.cons (.var 9) .nil)) (.con (.int 1))) .nil))))) (.ret (.con (.bl false))) .skip)
  (.seq (.ite (.or (.not (.call 2 (.cons (.var 13) (.cons (.con (.int 0)) (.cons (.bf .len (.cons (.var 9) .nil)) .nil))))) (.not (.call 2 (.cons (.var 14) (.cons (.con (.int 0)) (.cons (.bf .len (.cons (.var 9) .nil)) .nil)))))) (.ret (.con (.bl false))) .skip)
  (.seq (.asg 15 (.ix (.call 13 (.cons (.var 9) (.cons (.var 12) (.cons (.var 13) .nil)))) (.neg (.con (.int 1)))))
  (.ret (.cmp .gt (.var 15) (.bin .add (.var 0) (.ix (.call 13 (.cons (.var 10) (.cons (.var 12) (.cons (.var 14) .nil)))) (.neg (.con (.int 1))))))))))))))))))
/-- 21: least_release(room, low, high, draws, gate, period, level, inflow); slots [(0, 'room'), (1, 'low'), (2, 'high'), (3, 'draws'), (4, 'gate'), (5, 'period'), (6, 'level'), (7, 'inflow'), (8, 'lows'), (9, 'highs'), (10, 'takes'), (11, 'pairs'), (12, 'least'), (13, 'greatest'), (14, 'rest'), (15, 'release')] -/
def b_least_release : S := (.seq (.unp [8, 9, 10] (.call 10 (.cons (.var 0) (.cons (.var 1) (.cons (.var 2) (.cons (.var 3) (.cons (.var 4) .nil)))))))
  (.seq (.exp (.call 8 (.cons (.var 0) (.cons (.bf .len (.cons (.var 8) .nil)) (.cons (.var 5) (.cons (.var 6) .nil))))))
  (.seq (.exp (.call 3 (.cons (.con (.str (Str.ofString "inflow"))) (.cons (.var 7) (.cons (.ix (.var 8) (.var 5)) (.cons (.ix (.var 9) (.var 5)) .nil))))))
  (.seq (.asg 11 (.call 15 (.cons (.var 0) (.cons (.var 8) (.cons (.var 9) (.cons (.var 10) (.cons (.var 4) .nil)))))))
  (.seq (.ite (.cmp .is (.var 11) (.con .non)) (.ret (.con .non)) .skip)
  (.seq (.unp [12, 13] (.ix (.var 11) (.bin .mod (.bin .add (.var 5) (.con (.int 1))) (.bf .len (.cons (.var 8) .nil)))))
  (.seq (.asg 14 (.bin .sub (.bin .add (.var 6) (.var 7)) (.ix (.var 10) (.var 5))))
  (.seq (.asg 15 (.bf .max (.cons (.con (.int 0)) (.cons (.bin .sub (.var 14) (.var 13)) .nil))))
  (.seq (.ite (.or (.cmp .gt (.var 15) (.var 4)) (.cmp .lt (.bin .sub (.var 14) (.var 15)) (.var 12))) (.ret (.con .non)) .skip)
  (.ret (.var 15)))))))))))
/-- 22: _law_cells(script); slots [(0, 'script'), (1, 'cells'), (2, 'seed'), (3, 'k'), (4, 'cell'), (5, 'first'), (6, 'second')] -/
def l__law_cells_0 : S := (.seq (.asg 4 (.var 2))
  (.seq (.ite (.cmp .lt (.var 3) (.bf .len (.cons (.var 0) .nil))) (.asg 4 (.bf .int (.cons (.ix (.var 0) (.var 3)) .nil))) .skip)
  (.seq (.ite (.cmp .lt (.var 4) (.bin .pow (.con (.int 10)) (.con (.int 18)))) (.seq (.asg 5 (.bin .mod (.bf .int (.cons (.bin .mul (.bin .add (.bin .add (.bin .mod (.bf .int (.cons (.var 4) .nil)) (.con (.int 1000003))) (.bin .mul (.con (.int 31)) (.var 3))) (.con (.int 17))) (.con (.int 48271))) .nil)) (.con (.int 2147483647))))
    (.seq (.asg 6 (.bin .mod (.bf .int (.cons (.bin .add (.bin .mul (.bin .add (.var 5) (.con (.int 101))) (.con (.int 69621))) (.var 3)) .nil)) (.con (.int 2147483629))))
    (.asg 4 (.bin .add (.bin .mul (.var 5) (.con (.int 2147483629))) (.var 6))))) .skip)
  (.seq (.app 1 (.bin .mod (.bf .int (.cons (.var 4) .nil)) (.bin .pow (.con (.int 10)) (.con (.int 18)))))
  (.asg 2 (.bin .fdiv (.ix (.var 1) (.neg (.con (.int 1)))) (.con (.int 1009))))))))
def f__law_cells_0 : S := .for_ (.name 3) (.rng1 (.con (.int 63))) l__law_cells_0
def b__law_cells : S := (.seq (.asg 1 (.lst .nil))
  (.seq (.asg 2 (.con (.int 0)))
  (.seq (f__law_cells_0)
  (.ret (.var 1)))))
/-- 23: _law_number(one); slots [(0, 'one')] -/
def b__law_number : S := (.ret (.and (.isi1 (.var 0) .int) (.not (.isi1 (.var 0) .bool))))
/-- 24: _law_flows(cells, periods, top, wide, way); slots [(0, 'cells'), (1, 'periods'), (2, 'top'), (3, 'wide'), (4, 'way'), (5, 'low'), (6, 'high'), (7, 'draws'), (8, 'turn'), (9, 'k')] -/
def e__law_flows_0 : M := .bin .mod (.bf .int (.cons (.ix (.var 0) (.bin .add (.con (.int 1)) (.var 9))) .nil)) (.bin .add (.var 2) (.con (.int 1)))
def c__law_flows_0 : M := .lc e__law_flows_0 (.name 9) [9] (.rng1 (.var 1))
def e__law_flows_1 : M := .bf .min (.cons (.con (.int 1000)) (.cons (.bin .add (.ix (.var 5) (.var 9)) (.bin .mod (.bf .int (.cons (.bin .fdiv (.ix (.var 0) (.bin .add (.con (.int 1)) (.var 9))) (.con (.int 1001))) .nil)) (.bin .add (.var 3) (.con (.int 1))))) .nil))
def c__law_flows_1 : M := .lc e__law_flows_1 (.name 9) [9] (.rng1 (.var 1))
def e__law_flows_2 : M := .bin .mod (.bf .int (.cons (.bin .fdiv (.ix (.var 0) (.bin .add (.con (.int 1)) (.var 9))) (.con (.int 1002001))) .nil)) (.bin .add (.var 2) (.con (.int 1)))
def c__law_flows_2 : M := .lc e__law_flows_2 (.name 9) [9] (.rng1 (.var 1))
def e__law_flows_3 : M := .bf .min (.cons (.ix (.var 5) (.var 9)) (.cons (.ix (.var 7) (.var 9)) .nil))
def c__law_flows_3 : M := .lc e__law_flows_3 (.name 9) [9] (.rng1 (.var 1))
def b__law_flows : S := (.seq (.asg 5 (c__law_flows_0))
  (.seq (.asg 6 (c__law_flows_1))
  (.seq (.asg 7 (c__law_flows_2))
  (.seq (.asg 8 (.bin .mod (.bf .int (.cons (.ix (.var 0) (.con (.int 25))) .nil)) (.var 1)))
  (.seq (.ite (.or (.cmp .eq (.var 4) (.con (.int 1))) (.cmp .eq (.var 4) (.con (.int 2)))) (.asg 7 (.bin .add (.sl (.var 5) (.var 8) (.con .non)) (.sl (.var 5) (.con .non) (.var 8)))) .skip)
  (.seq (.ite (.cmp .eq (.var 4) (.con (.int 3))) (.asg 7 (c__law_flows_3)) .skip)
  (.ret (.lst (.cons (.var 5) (.cons (.var 6) (.cons (.var 7) .nil)))))))))))
/-- 25: _law_gate(cell, high, draws, way); slots [(0, 'cell'), (1, 'high'), (2, 'draws'), (3, 'way'), (4, 'mean'), (5, 'gate')] -/
def b__law_gate : S := (.seq (.asg 4 (.bf .max (.cons (.con (.int 0)) (.cons (.bin .fdiv (.bin .sub (.bin .add (.bin .sub (.bf .sum (.cons (.var 1) .nil)) (.bf .sum (.cons (.var 2) .nil))) (.bf .len (.cons (.var 2) .nil))) (.con (.int 1))) (.bf .len (.cons (.var 2) .nil))) .nil))))
  (.seq (.asg 5 (.ix (.lst (.cons (.bin .mod (.bf .int (.cons (.var 0) .nil)) (.con (.int 1001))) (.cons (.con (.int 0)) (.cons (.con (.int 1000)) (.cons (.var 4) (.cons (.var 4) (.cons (.var 4) (.cons (.bf .max (.cons (.con (.int 0)) (.cons (.bin .sub (.var 4) (.con (.int 1))) .nil))) (.cons (.bin .add (.var 4) (.con (.int 1))) .nil))))))))) (.var 3)))
  (.ret (.bf .min (.cons (.con (.int 1000)) (.cons (.var 5) .nil))))))
/-- 26: _law_most(losses, start); slots [(0, 'losses'), (1, 'start'), (2, 'total'), (3, 'most'), (4, 'turn')] -/
def l__law_most_0 : S := (.seq (.asg 2 (.bin .add (.var 2) (.ix (.var 0) (.bin .mod (.bf .int (.cons (.bin .add (.var 1) (.var 4)) .nil)) (.bf .len (.cons (.var 0) .nil))))))
  (.asg 3 (.bf .max (.cons (.var 3) (.cons (.var 2) .nil)))))
def f__law_most_0 : S := .for_ (.name 4) (.rng1 (.bf .len (.cons (.var 0) .nil))) l__law_most_0
def b__law_most : S := (.seq (.asg 2 (.con (.int 0)))
  (.seq (.asg 3 (.con (.int 0)))
  (.seq (f__law_most_0)
  (.ret (.var 3)))))
/-- 27: _law_need(low, high, draws, gate); slots [(0, 'low'), (1, 'high'), (2, 'draws'), (3, 'gate'), (4, 'dry'), (5, 'flood'), (6, 'k')] -/
def e__law_need_0 : M := .bin .sub (.ix (.var 2) (.var 6)) (.ix (.var 0) (.var 6))
def c__law_need_0 : M := .lc e__law_need_0 (.name 6) [6] (.rng1 (.bf .len (.cons (.var 0) .nil)))
def e__law_need_1 : M := .bin .sub (.bin .sub (.ix (.var 1) (.var 6)) (.ix (.var 2) (.var 6))) (.var 3)
def c__law_need_1 : M := .lc e__law_need_1 (.name 6) [6] (.rng1 (.bf .len (.cons (.var 0) .nil)))
def e__law_need_2 : M := .bin .add (.call 26 (.cons (.var 4) (.cons (.var 6) .nil))) (.call 26 (.cons (.var 5) (.cons (.var 6) .nil)))
def c__law_need_2 : M := .lc e__law_need_2 (.name 6) [6] (.rng1 (.bf .len (.cons (.var 0) .nil)))
def b__law_need : S := (.seq (.asg 4 (c__law_need_0))
  (.seq (.asg 5 (c__law_need_1))
  (.ret (.bf .max (.cons (c__law_need_2) .nil)))))
/-- 28: _law_is_band(room, low, high, draws, gate, table); slots [(0, 'room'), (1, 'low'), (2, 'high'), (3, 'draws'), (4, 'gate'), (5, 'table'), (6, 'pair'), (7, 'k'), (8, 'then'), (9, 'level'), (10, 'flow'), (11, 'rest')] -/
def l__law_is_band_0 : S := (.seq (.ite (.or (.not (.isi (.var 6) [.list, .tuple])) (.cmp .ne (.bf .len (.cons (.var 6) .nil)) (.con (.int 2)))) (.ret (.con (.bl false))) .skip)
  (.seq (.ite (.or (.not (.call 23 (.cons (.ix (.var 6) (.con (.int 0))) .nil))) (.not (.call 23 (.cons (.ix (.var 6) (.con (.int 1))) .nil)))) (.ret (.con (.bl false))) .skip)
  (.ite (.or (.cmp .lt (.ix (.var 6) (.con (.int 0))) (.con (.int 0))) (.or (.cmp .gt (.ix (.var 6) (.con (.int 0))) (.ix (.var 6) (.con (.int 1)))) (.cmp .gt (.ix (.var 6) (.con (.int 1))) (.var 0)))) (.ret (.con (.bl false))) .skip)))
def f__law_is_band_0 : S := .for_ (.name 6) (.var 5) l__law_is_band_0
def l__law_is_band_1 : S := (.seq (.asg 11 (.bin .sub (.bin .add (.var 9) (.var 10)) (.ix (.var 3) (.var 7))))
  (.ite (.or (.cmp .lt (.var 11) (.ix (.var 8) (.con (.int 0)))) (.cmp .gt (.bin .sub (.var 11) (.var 4)) (.ix (.var 8) (.con (.int 1))))) (.ret (.con (.bl false))) .skip))
def f__law_is_band_1 : S := .for_ (.name 10) (.lst (.cons (.ix (.var 1) (.var 7)) (.cons (.ix (.var 2) (.var 7)) .nil))) l__law_is_band_1
def l__law_is_band_2 : S := (f__law_is_band_1)
def f__law_is_band_2 : S := .for_ (.name 9) (.ix (.var 5) (.var 7)) l__law_is_band_2
def l__law_is_band_3 : S := (.seq (.asg 8 (.ix (.var 5) (.bin .mod (.bf .int (.cons (.bin .add (.var 7) (.con (.int 1))) .nil)) (.bf .len (.cons (.var 1) .nil)))))
  (f__law_is_band_2))
def f__law_is_band_3 : S := .for_ (.name 7) (.rng1 (.bf .len (.cons (.var 1) .nil))) l__law_is_band_3
def b__law_is_band : S := (.seq (.ite (.or (.not (.isi (.var 5) [.list, .tuple])) (.cmp .ne (.bf .len (.cons (.var 5) .nil)) (.bf .len (.cons (.var 1) .nil)))) (.ret (.con (.bl false))) .skip)
  (.seq (f__law_is_band_0)
  (.seq (f__law_is_band_3)
  (.ret (.con (.bl true))))))
/-- 29: _law_is_squeeze(room, low, high, draws, gate, paper); slots [(0, 'room'), (1, 'low'), (2, 'high'), (3, 'draws'), (4, 'gate'), (5, 'paper'), (6, 'periods'), (7, 'one'), (8, 'lost'), (9, 'turn'), (10, 'at'), (11, 'spilled')] -/
def l__law_is_squeeze_0 : S := (.ite (.or (.not (.call 23 (.cons (.var 7) .nil))) (.or (.cmp .lt (.var 7) (.con (.int 0))) (.cmp .gt (.var 7) (.var 6)))) (.ret (.con (.bl false))) .skip)
def f__law_is_squeeze_0 : S := .for_ (.name 7) (.sl (.var 5) (.con (.int 1)) (.con .non)) l__law_is_squeeze_0
def l__law_is_squeeze_1 : S := (.seq (.asg 10 (.bin .mod (.bf .int (.cons (.bin .add (.ix (.var 5) (.con (.int 1))) (.var 9)) .nil)) (.var 6)))
  (.asg 8 (.bin .sub (.bin .add (.var 8) (.ix (.var 3) (.var 10))) (.ix (.var 1) (.var 10)))))
def f__law_is_squeeze_1 : S := .for_ (.name 9) (.rng1 (.ix (.var 5) (.con (.int 2)))) l__law_is_squeeze_1
def l__law_is_squeeze_2 : S := (.seq (.asg 10 (.bin .mod (.bf .int (.cons (.bin .add (.ix (.var 5) (.con (.int 1))) (.var 9)) .nil)) (.var 6)))
  (.asg 11 (.bin .sub (.bin .add (.bin .add (.var 11) (.ix (.var 3) (.var 10))) (.var 4)) (.ix (.var 2) (.var 10)))))
def f__law_is_squeeze_2 : S := .for_ (.name 9) (.rng1 (.ix (.var 5) (.con (.int 3)))) l__law_is_squeeze_2
def b__law_is_squeeze : S := (.seq (.asg 6 (.bf .len (.cons (.var 1) .nil)))
  (.seq (.ite (.or (.not (.isi (.var 5) [.list, .tuple])) (.or (.cmp .eq (.bf .len (.cons (.var 5) .nil)) (.con (.int 0))) (.not (.isi1 (.ix (.var 5) (.con (.int 0))) .str)))) (.ret (.con (.bl false))) .skip)
  (.seq (.ite (.cmp .eq (.ix (.var 5) (.con (.int 0))) (.con (.str (Str.ofString "dry")))) (.ret (.and (.cmp .eq (.bf .len (.cons (.var 5) .nil)) (.con (.int 1))) (.cmp .gt (.bf .sum (.cons (.var 3) .nil)) (.bf .sum (.cons (.var 1) .nil))))) .skip)
  (.seq (.ite (.cmp .eq (.ix (.var 5) (.con (.int 0))) (.con (.str (Str.ofString "flood")))) (.ret (.and (.cmp .eq (.bf .len (.cons (.var 5) .nil)) (.con (.int 1))) (.cmp .gt (.bf .sum (.cons (.var 2) .nil)) (.bin .add (.bf .sum (.cons (.var 3) .nil)) (.bin .mul (.var 4) (.var 6)))))) .skip)
  (.seq (.ite (.or (.cmp .ne (.ix (.var 5) (.con (.int 0))) (.con (.str (Str.ofString "meet")))) (.cmp .ne (.bf .len (.cons (.var 5) .nil)) (.con (.int 4)))) (.ret (.con (.bl false))) .skip)
  (.seq (f__law_is_squeeze_0)
  (.seq (.ite (.cmp .eq (.ix (.var 5) (.con (.int 1))) (.var 6)) (.ret (.con (.bl false))) .skip)
  (.seq (.asg 8 (.con (.int 0)))
  (.seq (f__law_is_squeeze_1)
  (.seq (.asg 11 (.con (.int 0)))
  (.seq (f__law_is_squeeze_2)
  (.ret (.cmp .gt (.var 8) (.bin .add (.var 0) (.var 11)))))))))))))))
/-- 30: _law_dries(low, draws, start, level); slots [(0, 'low'), (1, 'draws'), (2, 'start'), (3, 'level'), (4, 'turn'), (5, 'at')] -/
def l__law_dries_0 : S := (.seq (.asg 5 (.bin .mod (.bf .int (.cons (.bin .add (.var 2) (.var 4)) .nil)) (.bf .len (.cons (.var 0) .nil))))
  (.seq (.asg 3 (.bin .sub (.bin .add (.var 3) (.ix (.var 0) (.var 5))) (.ix (.var 1) (.var 5))))
  (.ite (.cmp .lt (.var 3) (.con (.int 0))) (.ret (.con (.bl true))) .skip)))
def f__law_dries_0 : S := .for_ (.name 4) (.rng1 (.bf .len (.cons (.var 0) .nil))) l__law_dries_0
def b__law_dries : S := (.seq (f__law_dries_0)
  (.ret (.con (.bl false))))
/-- 31: _law_floods(room, high, draws, gate, start, level); slots [(0, 'room'), (1, 'high'), (2, 'draws'), (3, 'gate'), (4, 'start'), (5, 'level'), (6, 'turn'), (7, 'at')] -/
def l__law_floods_0 : S := (.seq (.asg 7 (.bin .mod (.bf .int (.cons (.bin .add (.var 4) (.var 6)) .nil)) (.bf .len (.cons (.var 1) .nil))))
  (.seq (.asg 5 (.bin .sub (.bin .sub (.bin .add (.var 5) (.ix (.var 1) (.var 7))) (.ix (.var 2) (.var 7))) (.var 3)))
  (.ite (.cmp .gt (.var 5) (.var 0)) (.ret (.con (.bl true))) .skip)))
def f__law_floods_0 : S := .for_ (.name 6) (.rng1 (.bf .len (.cons (.var 1) .nil))) l__law_floods_0
def b__law_floods : S := (.seq (f__law_floods_0)
  (.ret (.con (.bl false))))
/-- 32: _law_widest(room, low, high, draws, gate, table); slots [(0, 'room'), (1, 'low'), (2, 'high'), (3, 'draws'), (4, 'gate'), (5, 'table'), (6, 'k')] -/
def l__law_widest_0 : S := (.seq (.ite (.not (.isi1 (.ix (.var 5) (.var 6)) .tuple)) (.ret (.con (.bl false))) .skip)
  (.seq (.ite (.and (.cmp .gt (.ix (.ix (.var 5) (.var 6)) (.con (.int 0))) (.con (.int 0))) (.not (.call 30 (.cons (.var 1) (.cons (.var 3) (.cons (.var 6) (.cons (.bin .sub (.ix (.ix (.var 5) (.var 6)) (.con (.int 0))) (.con (.int 1))) .nil))))))) (.ret (.con (.bl false))) .skip)
  (.ite (.and (.cmp .lt (.ix (.ix (.var 5) (.var 6)) (.con (.int 1))) (.var 0)) (.not (.call 31 (.cons (.var 0) (.cons (.var 2) (.cons (.var 3) (.cons (.var 4) (.cons (.var 6) (.cons (.bin .add (.ix (.ix (.var 5) (.var 6)) (.con (.int 1))) (.con (.int 1))) .nil))))))))) (.ret (.con (.bl false))) .skip)))
def f__law_widest_0 : S := .for_ (.name 6) (.rng1 (.bf .len (.cons (.var 1) .nil))) l__law_widest_0
def b__law_widest : S := (.seq (.ite (.or (.not (.isi1 (.var 5) .list)) (.not (.call 28 (.cons (.var 0) (.cons (.var 1) (.cons (.var 2) (.cons (.var 3) (.cons (.var 4) (.cons (.var 5) .nil))))))))) (.ret (.con (.bl false))) .skip)
  (.seq (f__law_widest_0)
  (.ret (.con (.bl true)))))
/-- 33: _law_bands(room, base, at); slots [(0, 'room'), (1, 'base'), (2, 'at'), (3, 'pair'), (4, 'tables'), (5, 'others'), (6, 'other'), (7, 'one')] -/
def e__law_bands_0 : M := .bf .list (.cons (.var 7) .nil)
def c__law_bands_0 : M := .lc e__law_bands_0 (.name 7) [7] (.var 1)
def e__law_bands_1 : M := .tup (.cons (.ix (.var 7) (.con (.int 0))) (.cons (.ix (.var 7) (.con (.int 0))) .nil))
def c__law_bands_1 : M := .lc e__law_bands_1 (.name 7) [7] (.var 1)
def e__law_bands_2 : M := .tup (.cons (.con (.int 0)) (.cons (.var 0) .nil))
def c__law_bands_2 : M := .lc e__law_bands_2 (.name 7) [7] (.var 1)
def l__law_bands_0 : S := (.app 4 (.bin .add (.bin .add (.sl (.var 1) (.con .non) (.var 2)) (.lst (.cons (.var 6) .nil))) (.sl (.var 1) (.bin .add (.var 2) (.con (.int 1))) (.con .non))))
def f__law_bands_0 : S := .for_ (.name 6) (.var 5) l__law_bands_0
def b__law_bands : S := (.seq (.asg 3 (.ix (.var 1) (.var 2)))
  (.seq (.asg 4 (.lst (.cons (.var 1) (.cons (.bf .tuple (.cons (.var 1) .nil)) (.cons (c__law_bands_0) (.cons (.bin .add (.var 1) (.lst (.cons (.ix (.var 1) (.con (.int 0))) .nil))) (.cons (.sl (.var 1) (.con .non) (.neg (.con (.int 1)))) (.cons (.bin .add (.sl (.var 1) (.con (.int 1)) (.con .non)) (.sl (.var 1) (.con .non) (.con (.int 1)))) (.cons (.lst .nil) (.cons (.tup .nil) .nil))))))))))
  (.seq (.asg 4 (.bin .add (.var 4) (.lst (.cons (.con .non) (.cons (.con (.int 7)) (.cons (.con (.str (Str.ofString "00"))) (.cons (c__law_bands_2) (.cons (c__law_bands_1) .nil))))))))
  (.seq (.asg 5 (.lst (.cons (.tup (.cons (.bin .sub (.ix (.var 3) (.con (.int 0))) (.con (.int 1))) (.cons (.ix (.var 3) (.con (.int 1))) .nil))) (.cons (.tup (.cons (.bin .add (.ix (.var 3) (.con (.int 0))) (.con (.int 1))) (.cons (.ix (.var 3) (.con (.int 1))) .nil))) (.cons (.tup (.cons (.ix (.var 3) (.con (.int 0))) (.cons (.bin .sub (.ix (.var 3) (.con (.int 1))) (.con (.int 1))) .nil))) (.cons (.tup (.cons (.ix (.var 3) (.con (.int 0))) (.cons (.bin .add (.ix (.var 3) (.con (.int 1))) (.con (.int 1))) .nil))) .nil))))))
  (.seq (.asg 5 (.bin .add (.var 5) (.lst (.cons (.tup (.cons (.ix (.var 3) (.con (.int 1))) (.cons (.ix (.var 3) (.con (.int 0))) .nil))) (.cons (.tup (.cons (.ix (.var 3) (.con (.int 0))) (.cons (.ix (.var 3) (.con (.int 1))) (.cons (.ix (.var 3) (.con (.int 1))) .nil)))) (.cons (.tup (.cons (.ix (.var 3) (.con (.int 0))) .nil)) (.cons (.con .non) (.cons (.con (.str (Str.ofString "01"))) (.cons (.con (.int 5)) (.cons (.tup (.cons (.con (.bl true)) (.cons (.ix (.var 3) (.con (.int 1))) .nil))) .nil))))))))))
  (.seq (.asg 5 (.bin .add (.var 5) (.lst (.cons (.tup (.cons (.ix (.var 3) (.con (.int 0))) (.cons (.con .non) .nil))) (.cons (.lst (.cons (.ix (.var 3) (.con (.int 0))) (.cons (.ix (.var 3) (.con (.int 0))) .nil))) (.cons (.tup (.cons (.ix (.var 3) (.con (.int 1))) (.cons (.ix (.var 3) (.con (.int 1))) .nil))) (.cons (.tup (.cons (.con (.int 0)) (.cons (.var 0) .nil))) (.cons (.tup (.cons (.con (.int 0)) (.cons (.bin .add (.var 0) (.con (.int 1))) .nil))) (.cons (.tup (.cons (.neg (.con (.int 1))) (.cons (.var 0) .nil))) .nil)))))))))
  (.seq (f__law_bands_0)
  (.ret (.var 4)))))))))
/-- 34: _law_squeezes(size, start, dry, spill, other); slots [(0, 'size'), (1, 'start'), (2, 'dry'), (3, 'spill'), (4, 'other'), (5, 'papers')] -/
def b__law_squeezes : S := (.seq (.asg 5 (.lst (.cons (.tup (.cons (.con (.str (Str.ofString "dry"))) .nil)) (.cons (.lst (.cons (.con (.str (Str.ofString "dry"))) .nil)) (.cons (.tup (.cons (.con (.str (Str.ofString "dry"))) (.cons (.con (.int 0)) .nil))) (.cons (.tup (.cons (.con (.str (Str.ofString "flood"))) .nil)) (.cons (.lst (.cons (.con (.str (Str.ofString "flood"))) .nil)) (.cons (.tup (.cons (.con (.str (Str.ofString "flood"))) (.cons (.con (.int 0)) .nil))) (.cons (.con (.str (Str.ofString "dry"))) (.cons (.con .non) (.cons (.con (.int 5)) (.cons (.lst .nil) (.cons (.tup .nil) (.cons (.lst (.cons (.lst (.cons (.con (.str (Str.ofString "dry"))) .nil)) .nil)) .nil))))))))))))))
  (.seq (.asg 5 (.bin .add (.var 5) (.lst (.cons (.tup (.cons (.con (.str (Str.ofString "wet"))) .nil)) (.cons (.tup (.cons (.con (.str (Str.ofString "meet"))) (.cons (.var 1) (.cons (.var 2) (.cons (.var 3) .nil))))) (.cons (.lst (.cons (.con (.str (Str.ofString "meet"))) (.cons (.var 1) (.cons (.var 2) (.cons (.var 3) .nil))))) (.cons (.tup (.cons (.con (.str (Str.ofString "meet"))) (.cons (.var 1) (.cons (.var 2) .nil)))) .nil)))))))
  (.seq (.asg 5 (.bin .add (.var 5) (.lst (.cons (.tup (.cons (.con (.str (Str.ofString "meet"))) (.cons (.var 1) (.cons (.bin .sub (.var 2) (.con (.int 1))) (.cons (.var 3) .nil))))) (.cons (.tup (.cons (.con (.str (Str.ofString "meet"))) (.cons (.var 1) (.cons (.bin .add (.var 2) (.con (.int 1))) (.cons (.var 3) .nil))))) (.cons (.tup (.cons (.con (.str (Str.ofString "meet"))) (.cons (.var 1) (.cons (.var 2) (.cons (.bin .sub (.var 3) (.con (.int 1))) .nil))))) .nil))))))
  (.seq (.asg 5 (.bin .add (.var 5) (.lst (.cons (.tup (.cons (.con (.str (Str.ofString "meet"))) (.cons (.var 1) (.cons (.var 2) (.cons (.bin .add (.var 3) (.con (.int 1))) .nil))))) (.cons (.tup (.cons (.con (.str (Str.ofString "meet"))) (.cons (.bin .mod (.bf .int (.cons (.bin .add (.var 1) (.con (.int 1))) .nil)) (.var 0)) (.cons (.var 2) (.cons (.var 3) .nil))))) .nil)))))
  (.seq (.asg 5 (.bin .add (.var 5) (.lst (.cons (.tup (.cons (.con (.str (Str.ofString "meet"))) (.cons (.var 4) (.cons (.var 3) (.cons (.var 2) .nil))))) (.cons (.tup (.cons (.con (.str (Str.ofString "meet"))) (.cons (.var 1) (.cons (.var 2) (.cons (.var 3) (.cons (.con (.int 0)) .nil)))))) (.cons (.tup (.cons (.con (.str (Str.ofString "meet"))) (.cons (.var 0) (.cons (.var 2) (.cons (.var 3) .nil))))) .nil))))))
  (.seq (.asg 5 (.bin .add (.var 5) (.lst (.cons (.tup (.cons (.con (.str (Str.ofString "meet"))) (.cons (.neg (.con (.int 1))) (.cons (.var 2) (.cons (.var 3) .nil))))) (.cons (.tup (.cons (.con (.str (Str.ofString "meet"))) (.cons (.bin .sub (.var 1) (.var 0)) (.cons (.var 2) (.cons (.var 3) .nil))))) (.cons (.tup (.cons (.con (.str (Str.ofString "meet"))) (.cons (.var 1) (.cons (.bin .add (.var 0) (.con (.int 1))) (.cons (.con (.int 0)) .nil))))) .nil))))))
  (.seq (.asg 5 (.bin .add (.var 5) (.lst (.cons (.tup (.cons (.con (.str (Str.ofString "meet"))) (.cons (.var 1) (.cons (.var 0) (.cons (.con (.int 0)) .nil))))) (.cons (.tup (.cons (.con (.str (Str.ofString "meet"))) (.cons (.var 1) (.cons (.con (.int 0)) (.cons (.var 0) .nil))))) (.cons (.tup (.cons (.con (.str (Str.ofString "meet"))) (.cons (.var 1) (.cons (.var 2) (.cons (.neg (.con (.int 1))) .nil))))) .nil))))))
  (.seq (.asg 5 (.bin .add (.var 5) (.lst (.cons (.tup (.cons (.con (.str (Str.ofString "meet"))) (.cons (.con (.bl true)) (.cons (.var 2) (.cons (.var 3) .nil))))) (.cons (.tup (.cons (.con (.str (Str.ofString "meet"))) (.cons (.var 1) (.cons (.con .non) (.cons (.var 3) .nil))))) (.cons (.tup (.cons (.con (.str (Str.ofString "meet"))) (.cons (.var 1) (.cons (.var 2) (.cons (.con (.str (Str.ofString "0"))) .nil))))) .nil))))))
  (.ret (.bin .add (.var 5) (.lst (.cons (.tup (.cons (.con (.int 0)) (.cons (.var 1) (.cons (.var 2) (.cons (.var 3) .nil))))) (.cons (.tup (.cons (.con (.str (Str.ofString "meets"))) (.cons (.var 1) (.cons (.var 2) (.cons (.var 3) .nil))))) (.cons (.tup (.cons (.con (.str (Str.ofString "meet"))) (.cons (.lst (.cons (.var 1) .nil)) (.cons (.var 2) (.cons (.var 3) .nil))))) .nil))))))))))))))
/-- 35: _law_judged(room, low, high, draws, gate, tables, papers); slots [(0, 'room'), (1, 'low'), (2, 'high'), (3, 'draws'), (4, 'gate'), (5, 'tables'), (6, 'papers'), (7, 'table'), (8, 'due'), (9, 'told'), (10, 'paper')] -/
def l__law_judged_0 : S := (.seq (.asg 8 (.call 28 (.cons (.var 0) (.cons (.var 1) (.cons (.var 2) (.cons (.var 3) (.cons (.var 4) (.cons (.var 7) .nil))))))))
  (.seq (.asg 9 (.call 18 (.cons (.var 0) (.cons (.bf .list (.cons (.var 1) .nil)) (.cons (.bf .list (.cons (.var 2) .nil)) (.cons (.bf .list (.cons (.var 3) .nil)) (.cons (.var 4) (.cons (.var 7) .nil))))))))
  (.ite (.or (.not (.isi1 (.var 9) .bool)) (.cmp .ne (.var 9) (.var 8))) (.ret (.con (.bl false))) .skip)))
def f__law_judged_0 : S := .for_ (.name 7) (.var 5) l__law_judged_0
def l__law_judged_1 : S := (.seq (.asg 8 (.call 29 (.cons (.var 0) (.cons (.var 1) (.cons (.var 2) (.cons (.var 3) (.cons (.var 4) (.cons (.var 10) .nil))))))))
  (.seq (.asg 9 (.call 20 (.cons (.var 0) (.cons (.bf .list (.cons (.var 1) .nil)) (.cons (.bf .list (.cons (.var 2) .nil)) (.cons (.bf .list (.cons (.var 3) .nil)) (.cons (.var 4) (.cons (.var 10) .nil))))))))
  (.ite (.or (.not (.isi1 (.var 9) .bool)) (.cmp .ne (.var 9) (.var 8))) (.ret (.con (.bl false))) .skip)))
def f__law_judged_1 : S := .for_ (.name 10) (.var 6) l__law_judged_1
def b__law_judged : S := (.seq (f__law_judged_0)
  (.seq (f__law_judged_1)
  (.ret (.con (.bl true)))))
/-- 36: _law_release(gate, pair, rest); slots [(0, 'gate'), (1, 'pair'), (2, 'rest'), (3, 'release')] -/
def l__law_release_0 : S := (.ite (.and (.cmp .le (.ix (.var 1) (.con (.int 0))) (.bin .sub (.var 2) (.var 3))) (.cmp .le (.bin .sub (.var 2) (.var 3)) (.ix (.var 1) (.con (.int 1))))) (.ret (.var 3)) .skip)
def f__law_release_0 : S := .for_ (.name 3) (.rng1 (.bin .add (.var 0) (.con (.int 1)))) l__law_release_0
def b__law_release : S := (.seq (f__law_release_0)
  (.ret (.neg (.con (.int 1)))))
/-- 37: _law_flow(cell, least, greatest); slots [(0, 'cell'), (1, 'least'), (2, 'greatest')] -/
def b__law_flow : S := (.ret (.ix (.lst (.cons (.var 1) (.cons (.var 2) (.cons (.bin .add (.var 1) (.bin .mod (.bf .int (.cons (.bin .fdiv (.var 0) (.con (.int 3))) .nil)) (.bin .add (.bin .sub (.var 2) (.var 1)) (.con (.int 1))))) .nil)))) (.bin .mod (.bf .int (.cons (.var 0) .nil)) (.con (.int 3)))))
/-- 38: _law_kept(room, low, high, draws, gate, table, cells); slots [(0, 'room'), (1, 'low'), (2, 'high'), (3, 'draws'), (4, 'gate'), (5, 'table'), (6, 'cells'), (7, 'at'), (8, 'pair'), (9, 'levels'), (10, 'level'), (11, 'step'), (12, 'flow'), (13, 'rest'), (14, 'then'), (15, 'due'), (16, 'told')] -/
def l__law_kept_0 : S := (.seq (.asg 12 (.call 37 (.cons (.ix (.var 6) (.bin .add (.con (.int 30)) (.var 11))) (.cons (.ix (.var 1) (.var 7)) (.cons (.ix (.var 2) (.var 7)) .nil)))))
  (.seq (.asg 13 (.bin .sub (.bin .add (.var 10) (.var 12)) (.ix (.var 3) (.var 7))))
  (.seq (.asg 14 (.ix (.var 5) (.bin .mod (.bf .int (.cons (.bin .add (.var 7) (.con (.int 1))) .nil)) (.bf .len (.cons (.var 1) .nil)))))
  (.seq (.asg 15 (.call 36 (.cons (.var 4) (.cons (.var 14) (.cons (.var 13) .nil)))))
  (.seq (.asg 16 (.call 21 (.cons (.var 0) (.cons (.bf .list (.cons (.var 1) .nil)) (.cons (.bf .list (.cons (.var 2) .nil)) (.cons (.bf .list (.cons (.var 3) .nil)) (.cons (.var 4) (.cons (.var 7) (.cons (.var 10) (.cons (.var 12) .nil))))))))))
  (.seq (.ite (.or (.and (.cmp .eq (.var 15) (.neg (.con (.int 1)))) (.cmp .isn (.var 16) (.con .non))) (.and (.cmp .ge (.var 15) (.con (.int 0))) (.or (.not (.call 23 (.cons (.var 16) .nil))) (.cmp .ne (.var 16) (.var 15))))) (.ret (.con (.bl false))) .skip)
  (.seq (.ite (.and (.cmp .gt (.var 11) (.con (.int 0))) (.cmp .eq (.var 15) (.neg (.con (.int 1))))) (.ret (.con (.bl false))) .skip)
  (.seq (.asg 10 (.bin .sub (.var 13) (.var 15)))
  (.seq (.asg 7 (.bin .mod (.bf .int (.cons (.bin .add (.var 7) (.con (.int 1))) .nil)) (.bf .len (.cons (.var 1) .nil))))
  (.ite (.cmp .eq (.var 15) (.neg (.con (.int 1)))) (.asg 10 (.ix (.ix (.var 5) (.var 7)) (.bin .mod (.bf .int (.cons (.ix (.var 6) (.con (.int 29))) .nil)) (.con (.int 2))))) .skip))))))))))
def f__law_kept_0 : S := .for_ (.name 11) (.rng1 (.con (.int 17))) l__law_kept_0
def b__law_kept : S := (.seq (.asg 7 (.bin .mod (.bf .int (.cons (.ix (.var 6) (.con (.int 28))) .nil)) (.bf .len (.cons (.var 1) .nil))))
  (.seq (.asg 8 (.ix (.var 5) (.var 7)))
  (.seq (.asg 9 (.lst (.cons (.bin .mod (.bf .int (.cons (.ix (.var 6) (.con (.int 29))) .nil)) (.bin .add (.var 0) (.con (.int 1)))) (.cons (.ix (.var 8) (.con (.int 0))) (.cons (.ix (.var 8) (.con (.int 1))) (.cons (.bf .max (.cons (.con (.int 0)) (.cons (.bin .sub (.ix (.var 8) (.con (.int 0))) (.con (.int 1))) .nil))) (.cons (.bf .min (.cons (.var 0) (.cons (.bin .add (.ix (.var 8) (.con (.int 1))) (.con (.int 1))) .nil))) .nil)))))))
  (.seq (.asg 10 (.ix (.var 9) (.bin .mod (.bf .int (.cons (.bin .fdiv (.ix (.var 6) (.con (.int 28))) (.con (.int 24))) .nil)) (.con (.int 5)))))
  (.seq (f__law_kept_0)
  (.ret (.con (.bl true))))))))
/-- 39: law(script); slots [(0, 'script'), (1, 'cells'), (2, 'head'), (3, 'periods'), (4, 'top'), (5, 'wide'), (6, 'low'), (7, 'high'), (8, 'draws'), (9, 'gate'), (10, 'need'), (11, 'room'), (12, 'passed'), (13, 'table'), (14, 'paper'), (15, 'base'), (16, 'meet'), (17, 'flooded'), (18, 'at'), (19, 'tables'), (20, 'papers'), (21, 'flow')] -/
def i_law_0 : S := .ite (.or (.cmp .ne (.var 12) (.lst (.cons (.var 6) (.cons (.var 7) (.cons (.var 8) .nil))))) (.cmp .eq (.cmp .is (.var 13) (.con .non)) (.cmp .is (.var 14) (.con .non)))) (.ret (.con (.bl false))) .skip
def e_law_0 : M := .tup (.cons (.con (.int 0)) (.cons (.var 11) .nil))
def c_law_0 : M := .lc e_law_0 (.name 21) [21] (.var 6)
def i_law_1 : S := .ite (.not (.call 32 (.cons (.var 11) (.cons (.var 6) (.cons (.var 7) (.cons (.var 8) (.cons (.var 9) (.cons (.var 13) .nil)))))))) (.ret (.con (.bl false))) .skip
def i_law_2 : S := .ite (.not (.call 38 (.cons (.var 11) (.cons (.var 6) (.cons (.var 7) (.cons (.var 8) (.cons (.var 9) (.cons (.var 13) (.cons (.var 1) .nil))))))))) (.ret (.con (.bl false))) .skip
def i_law_3 : S := .ite (.or (.not (.isi1 (.var 13) .list)) (.cmp .ne (.var 13) (.var 15))) (.ret (.con (.bl false))) .skip
def i_law_4 : S := .ite (.or (.not (.isi1 (.var 14) .tuple)) (.not (.call 29 (.cons (.var 11) (.cons (.var 6) (.cons (.var 7) (.cons (.var 8) (.cons (.var 9) (.cons (.var 14) .nil))))))))) (.ret (.con (.bl false))) .skip
def i_law_5 : S := .ite (.and (.cmp .gt (.bf .sum (.cons (.var 8) .nil)) (.bf .sum (.cons (.var 6) .nil))) (.cmp .ne (.var 14) (.tup (.cons (.con (.str (Str.ofString "dry"))) .nil)))) (.ret (.con (.bl false))) .skip
def i_law_6 : S := .ite (.and (.cmp .le (.bf .sum (.cons (.var 8) .nil)) (.bf .sum (.cons (.var 6) .nil))) (.and (.var 17) (.cmp .ne (.var 14) (.tup (.cons (.con (.str (Str.ofString "flood"))) .nil))))) (.ret (.con (.bl false))) .skip
def i_law_7 : S := .ite (.cmp .eq (.ix (.var 14) (.con (.int 0))) (.con (.str (Str.ofString "meet")))) (.asg 16 (.bf .list (.cons (.var 14) .nil))) .skip
def i_law_8 : S := .ite (.cmp .isn (.call 21 (.cons (.var 11) (.cons (.bf .list (.cons (.var 6) .nil)) (.cons (.bf .list (.cons (.var 7) .nil)) (.cons (.bf .list (.cons (.var 8) .nil)) (.cons (.var 9) (.cons (.var 18) (.cons (.var 11) (.cons (.ix (.var 6) (.var 18)) .nil))))))))) (.con .non)) (.ret (.con (.bl false))) .skip
def i_law_9 : S := .ite (.cmp .is (.var 14) (.con .non)) (.seq (i_law_1)
    (.seq (i_law_2)
    (.seq (.asg 15 (.bf .list (.cons (.var 13) .nil)))
    (.seq (.six 13 (.con (.int 0)) (.tup (.cons (.con (.int 0)) (.cons (.con (.int 0)) .nil))))
    (.seq (.app 13 (.tup (.cons (.con (.int 0)) (.cons (.con (.int 0)) .nil))))
    (.seq (.asg 13 (.call 16 (.cons (.var 11) (.cons (.bf .list (.cons (.var 6) .nil)) (.cons (.bf .list (.cons (.var 7) .nil)) (.cons (.bf .list (.cons (.var 8) .nil)) (.cons (.var 9) .nil)))))))
    (i_law_3))))))) (.seq (i_law_4)
    (.seq (i_law_5)
    (.seq (.asg 17 (.cmp .gt (.bf .sum (.cons (.var 7) .nil)) (.bin .add (.bf .sum (.cons (.var 8) .nil)) (.bin .mul (.var 9) (.var 3)))))
    (.seq (i_law_6)
    (.seq (i_law_7)
    (.seq (.asg 18 (.ix (.var 16) (.con (.int 1))))
    (i_law_8)))))))
def b_law : S := (.seq (.asg 1 (.call 22 (.cons (.var 0) .nil)))
  (.seq (.asg 2 (.ix (.var 1) (.con (.int 0))))
  (.seq (.asg 3 (.bin .add (.con (.int 1)) (.bin .mod (.bf .int (.cons (.var 2) .nil)) (.con (.int 24)))))
  (.seq (.asg 4 (.ix (.lst (.cons (.con (.int 3)) (.cons (.con (.int 10)) (.cons (.con (.int 60)) (.cons (.con (.int 1000)) .nil))))) (.bin .mod (.bf .int (.cons (.bin .fdiv (.var 2) (.con (.int 24))) .nil)) (.con (.int 4)))))
  (.seq (.asg 5 (.ix (.lst (.cons (.con (.int 0)) (.cons (.con (.int 2)) (.cons (.con (.int 9)) (.cons (.con (.int 300)) .nil))))) (.bin .mod (.bf .int (.cons (.bin .fdiv (.var 2) (.con (.int 96))) .nil)) (.con (.int 4)))))
  (.seq (.unp [6, 7, 8] (.call 24 (.cons (.var 1) (.cons (.var 3) (.cons (.var 4) (.cons (.var 5) (.cons (.bin .mod (.bf .int (.cons (.bin .fdiv (.var 2) (.con (.int 384))) .nil)) (.con (.int 5))) .nil)))))))
  (.seq (.asg 9 (.call 25 (.cons (.ix (.var 1) (.con (.int 26))) (.cons (.var 7) (.cons (.var 8) (.cons (.bin .mod (.bf .int (.cons (.bin .fdiv (.var 2) (.con (.int 1920))) .nil)) (.con (.int 8))) .nil))))))
  (.seq (.asg 10 (.call 27 (.cons (.var 6) (.cons (.var 7) (.cons (.var 8) (.cons (.var 9) .nil))))))
  (.seq (.asg 11 (.ix (.lst (.cons (.bin .add (.con (.int 1)) (.bin .mod (.bf .int (.cons (.ix (.var 1) (.con (.int 27))) .nil)) (.con (.int 1000)))) (.cons (.var 10) (.cons (.bin .sub (.var 10) (.con (.int 1))) (.cons (.bin .add (.var 10) (.con (.int 1))) .nil))))) (.bin .mod (.bf .int (.cons (.bin .fdiv (.var 2) (.con (.int 15360))) .nil)) (.con (.int 4)))))
  (.seq (.asg 11 (.bf .max (.cons (.con (.int 1)) (.cons (.bf .min (.cons (.con (.int 1000)) (.cons (.var 11) .nil))) .nil))))
  (.seq (.asg 12 (.lst (.cons (.bf .list (.cons (.var 6) .nil)) (.cons (.bf .list (.cons (.var 7) .nil)) (.cons (.bf .list (.cons (.var 8) .nil)) .nil)))))
  (.seq (.asg 13 (.call 16 (.cons (.var 11) (.cons (.ix (.var 12) (.con (.int 0))) (.cons (.ix (.var 12) (.con (.int 1))) (.cons (.ix (.var 12) (.con (.int 2))) (.cons (.var 9) .nil)))))))
  (.seq (.asg 14 (.call 19 (.cons (.var 11) (.cons (.ix (.var 12) (.con (.int 0))) (.cons (.ix (.var 12) (.con (.int 1))) (.cons (.ix (.var 12) (.con (.int 2))) (.cons (.var 9) .nil)))))))
  (.seq (i_law_0)
  (.seq (.asg 15 (c_law_0))
  (.seq (.asg 16 (.lst (.cons (.con (.str (Str.ofString "meet"))) (.cons (.bin .mod (.bf .int (.cons (.ix (.var 1) (.con (.int 47))) .nil)) (.var 3)) (.cons (.bin .mod (.bf .int (.cons (.ix (.var 1) (.con (.int 48))) .nil)) (.bin .add (.var 3) (.con (.int 1)))) (.cons (.bin .mod (.bf .int (.cons (.ix (.var 1) (.con (.int 49))) .nil)) (.bin .add (.var 3) (.con (.int 1)))) .nil))))))
  (.seq (i_law_9)
  (.seq (.asg 19 (.call 33 (.cons (.var 11) (.cons (.var 15) (.cons (.bin .mod (.bf .int (.cons (.ix (.var 1) (.con (.int 50))) .nil)) (.var 3)) .nil)))))
  (.seq (.asg 20 (.call 34 (.cons (.var 3) (.cons (.ix (.var 16) (.con (.int 1))) (.cons (.ix (.var 16) (.con (.int 2))) (.cons (.ix (.var 16) (.con (.int 3))) (.cons (.bin .mod (.bf .int (.cons (.ix (.var 1) (.con (.int 51))) .nil)) (.var 3)) .nil)))))))
  (.ret (.call 35 (.cons (.var 11) (.cons (.var 6) (.cons (.var 7) (.cons (.var 8) (.cons (.var 9) (.cons (.var 19) (.cons (.var 20) .nil))))))))))))))))))))))))))))
def ptab : List (Nat × Nat × S) := [(1, 1, b_is_integer), (1, 1, b_is_row), (3, 3, b_is_within), (4, 4, b_check_number), (5, 7, b_check_integers), (1, 1, b_check_room), (2, 2, b_check_flows), (2, 2, b_check_draws), (4, 4, b_check_moment), (2, 4, b_check_high), (5, 8, b_check_band), (2, 4, b_dry_losses), (3, 5, b_flood_losses), (3, 5, b_sums_from), (3, 8, b_pairs_of), (5, 10, b_band_of), (5, 8, b_band), (2, 4, b_is_pair), (6, 13, b_shows_band), (5, 16, b_squeeze), (6, 16, b_shows_squeeze), (8, 16, b_least_release), (1, 7, b__law_cells), (1, 1, b__law_number), (5, 10, b__law_flows), (4, 6, b__law_gate), (2, 5, b__law_most), (4, 7, b__law_need), (6, 12, b__law_is_band), (6, 12, b__law_is_squeeze), (4, 6, b__law_dries), (6, 8, b__law_floods), (6, 7, b__law_widest), (3, 8, b__law_bands), (5, 6, b__law_squeezes), (7, 11, b__law_judged), (3, 4, b__law_release), (3, 3, b__law_flow), (7, 17, b__law_kept), (1, 22, b_law)]
end Mp

set_option Elab.async false
set_option linter.all false
set_option maxRecDepth 100000
/-! Ts1: shallow code and how the small language refines it: what a state is known to hold, expressions. -/
namespace Mp
open PySem (Str)

/-! ### R is lawful -/
theorem R.bind_assoc {α β γ : Type} (m : R α) (f : α → R β) (g : β → R γ) : ((m >>= f) >>= g) = m >>= fun x => f x >>= g := by
  cases m <;> rfl
theorem R.bind_id {α : Type} (m : R α) : (m >>= R.ok) = m := by
  cases m <;> rfl
theorem R.chk_bind {α β : Type} (c : Prop) [Decidable c] (m : R α) (f : α → R β) : (R.chk c m >>= f) = R.chk c (m >>= f) := by
  unfold R.chk
  split <;> rfl

/-! ### refinement -/
def RefR {α β : Type} (P : α → β → Prop) : R α → R β → Prop
  | .bad, _ => True
  | .ok a, n => ∃ b, n = .ok b ∧ P a b
  | .exc c fs, n => n = .exc c fs
theorem RefR.bind {α β γ δ : Type} {P : α → β → Prop} {Q : γ → δ → Prop} {m : R α} {n : R β} {f : α → R γ} {g : β → R δ} (h : RefR P m n) (k : ∀ a b, P a b → RefR Q (f a) (g b)) : RefR Q (m >>= f) (n >>= g) := by
  cases m with
  | bad => trivial
  | ok a =>
    obtain ⟨b, e, p⟩ := h
    subst e
    exact k a b p
  | exc c fs =>
    have e : n = .exc c fs := h
    subst e
    rfl
theorem RefR.ok {α β : Type} {P : α → β → Prop} {a : α} {b : β} (h : P a b) : RefR P (.ok a) (.ok b) := ⟨b, rfl, h⟩
theorem RefR.bad {α β : Type} {P : α → β → Prop} {n : R β} : RefR P (.bad : R α) n := trivial
theorem RefR.chk {α β : Type} {P : α → β → Prop} {c d : Prop} [Decidable c] [Decidable d] {m : R α} {n : R β} (hc : c → d) (h : c → RefR P m n) : RefR P (R.chk c m) (R.chk d n) := by
  by_cases e : c
  · rw [R.chk_t e, R.chk_t (hc e)]
    exact h e
  · unfold R.chk
    rw [if_neg e]
    trivial
theorem RefR.mono {α β : Type} {P Q : α → β → Prop} {m : R α} {n : R β} (h : RefR P m n) (k : ∀ a b, P a b → Q a b) : RefR Q m n := by
  cases m with
  | bad => trivial
  | ok a =>
    obtain ⟨b, e, p⟩ := h
    exact ⟨b, e, k a b p⟩
  | exc c fs => exact h
theorem RefR.orBad {α β : Type} {P : α → β → Prop} {a : Option α} {b : Option β} (h : ∀ x, a = some x → ∃ y, b = some y ∧ P x y) : RefR P (Mp.orBad a) (Mp.orBad b) := by
  cases a with
  | none => trivial
  | some x =>
    obtain ⟨y, e, p⟩ := h x rfl
    subst e
    exact ⟨y, rfl, p⟩

/-! ### what a state is known to hold: slots by their data; true: its name's own list -/
abbrev Sl := List (Option (D × Bool))
/-- o: an owner's count, where the datum is a list -/
def Ow (o : Bool) (d : D) (k : Nat) : Prop := k ≤ 1 ∧ (o = true → isL d = 1 → k = 1)
theorem Ow.F {d : D} {k : Nat} (h : k ≤ 1) : Ow false d k := ⟨h, fun e => nomatch e⟩
theorem Ow.weak {o : Bool} {d : D} {k : Nat} (h : Ow o d k) : Ow false d k := .F h.1
theorem Ow.one {o : Bool} {d : D} : Ow o d 1 := ⟨Nat.le_refl _, fun _ _ => rfl⟩
theorem Ow.lst {xs : List D} {k : Nat} (h : Ow true (.lst xs) k) : k = 1 := h.2 rfl rfl
theorem Ow.atm {o : Bool} {d : D} (h : isL d = 0) : Ow o d 0 := ⟨Nat.zero_le _, fun _ q => by rw [h] at q; cases q⟩
structure Rel (L : Sl) (ρ : Env) : Prop where
  len : ρ.length = L.length
  at_ : ∀ (i : Nat) (d : D) (o : Bool), L[i]? = some (some (d, o)) → ∃ k, ρ[i]? = some (some (d, k)) ∧ Ow o d k
def Sub (L : Sl) (S s : List Nat) : Prop := ∀ i ∈ S, ∀ d, L[i]? = some (some (d, true)) → i ∈ s
theorem Sub.nil {L : Sl} {s : List Nat} : Sub L [] s := fun _ h => nomatch h
theorem Sub.app {L : Sl} {S S' s s' : List Nat} (h : Sub L S s) (h' : Sub L S' s') : Sub L (S ++ S') (s ++ s') := fun i hi d e => by
  rcases List.mem_append.mp hi with q | q
  · exact List.mem_append_left _ (h i q d e)
  · exact List.mem_append_right _ (h' i q d e)
theorem Sub.dp {L : Sl} {S s : List Nat} {d : D} (h : Sub L S s) : Sub L (Mp.dp d S) s := by
  unfold Mp.dp
  split
  · exact Sub.nil
  · exact h
theorem Sub.dpA {L : Sl} {S : List Nat} {d : D} (h : atomic d = true) : Sub L (Mp.dp d S) [] := by
  unfold Mp.dp
  rw [if_pos h]
  exact Sub.nil
def fz : Option (D × Bool) → Option (D × Bool)
  | some (d, _) => some (d, false)
  | none => none
def Sl.frz (L : Sl) : List Nat → Sl
  | [] => L
  | i :: is => Sl.frz (L.modify i fz) is
theorem Sl.frz_length : ∀ (s : List Nat) (L : Sl), (L.frz s).length = L.length
  | [], _ => rfl
  | i :: is, L => (Sl.frz_length is _).trans (List.length_modify ..)
theorem Env.frz_length : ∀ (s : List Nat) (ρ : Env), (ρ.frz s).length = ρ.length
  | [], _ => rfl
  | i :: is, ρ => (Env.frz_length is _).trans (List.length_modify ..)
/-- what is known behind the freeze: known ahead, and own only if not frozen -/
theorem Sl.frz_at : ∀ (s : List Nat) (L : Sl) (i : Nat) (d : D) (o : Bool), (L.frz s)[i]? = some (some (d, o)) → ∃ o', L[i]? = some (some (d, o')) ∧ (o = true → o' = true ∧ i ∉ s)
  | [], L, i, d, o, h => ⟨o, h, fun e => ⟨e, List.not_mem_nil⟩⟩
  | j :: js, L, i, d, o, h => by
    obtain ⟨o', h1, h2⟩ := Sl.frz_at js (L.modify j fz) i d o h
    rw [List.getElem?_modify] at h1
    by_cases e : j = i
    · subst e
      cases hl : L[j]? with
      | none => simp [hl] at h1
      | some x =>
        rw [hl] at h1
        cases x with
        | none => simp [fz] at h1
        | some p =>
          obtain ⟨d', w⟩ := p
          simp [fz] at h1
          obtain ⟨rfl, rfl⟩ := h1
          exact ⟨w, rfl, fun q => by have := (h2 q).1; cases this⟩
    · simp [e] at h1
      refine ⟨o', h1, fun q => ⟨(h2 q).1, fun m => ?_⟩⟩
      rcases List.mem_cons.mp m with r | r
      · exact e r.symm
      · exact (h2 q).2 r
theorem Env.frz_at : ∀ (s : List Nat) (ρ : Env) (i : Nat) (d : D) (k : Nat), ρ[i]? = some (some (d, k)) → ∃ k', (ρ.frz s)[i]? = some (some (d, k')) ∧ (i ∉ s → k' = k) ∧ k' ≤ k
  | [], ρ, i, d, k, h => ⟨k, h, fun _ => rfl, Nat.le_refl _⟩
  | j :: js, ρ, i, d, k, h => by
    by_cases e : j = i
    · subst e
      obtain ⟨k', h1, h2, h3⟩ := Env.frz_at js (ρ.modify j frz1) j d 0 (by rw [List.getElem?_modify, h]; simp [frz1])
      exact ⟨k', h1, fun q => absurd List.mem_cons_self q, by omega⟩
    · obtain ⟨k', h1, h2⟩ := Env.frz_at js (ρ.modify j frz1) i d k (by rw [List.getElem?_modify, h]; simp [e])
      exact ⟨k', h1, fun q => h2.1 fun m => q (List.mem_cons_of_mem _ m), h2.2⟩
theorem Rel.frz {L : Sl} {ρ : Env} {S s : List Nat} (h : Rel L ρ) (hs : Sub L S s) : Rel (L.frz s) (ρ.frz S) where
  len := by rw [Env.frz_length, Sl.frz_length]; exact h.len
  at_ := fun i d o e => by
    obtain ⟨o', e1, e2⟩ := Sl.frz_at s L i d o e
    obtain ⟨k, e3, e4⟩ := h.at_ i d o' e1
    obtain ⟨k', e5, e6, e7⟩ := Env.frz_at S ρ i d k e3
    refine ⟨k', e5, by have := e4.1; omega, fun q hl => ?_⟩
    obtain ⟨q1, q2⟩ := e2 q
    subst q1
    rw [e6 fun m => q2 (hs i m d e1)]
    exact e4.2 rfl hl
theorem Rel.set {L : Sl} {ρ : Env} (h : Rel L ρ) {i : Nat} {d : D} {o : Bool} {k : Nat} (hk : Ow o d k) : Rel (L.set i (some (d, o))) (ρ.set i (some (d, k))) where
  len := by rw [List.length_set, List.length_set]; exact h.len
  at_ := fun j d' o' e => by
    rw [List.getElem?_set] at e ⊢
    by_cases q : i = j
    · subst q
      rw [if_pos rfl] at e ⊢
      by_cases b : i < L.length
      · rw [if_pos b] at e
        rw [if_pos (by rw [h.len]; exact b)]
        cases e
        exact ⟨k, rfl, hk⟩
      · rw [if_neg b] at e
        cases e
    · rw [if_neg q] at e ⊢
      exact h.at_ j d' o' e
theorem Rel.junk {L : Sl} {ρ : Env} (h : Rel L ρ) {i : Nat} {x : Option (D × Nat)} : Rel (L.set i none) (ρ.set i x) where
  len := by rw [List.length_set, List.length_set]; exact h.len
  at_ := fun j d' o' e => by
    rw [List.getElem?_set] at e ⊢
    by_cases q : i = j
    · subst q
      rw [if_pos rfl] at e
      split at e <;> cases e
    · rw [if_neg q] at e ⊢
      exact h.at_ j d' o' e
/-- knowing less -/
inductive Le : Sl → Sl → Prop
  | nil : Le [] []
  | drop {x : Option (D × Bool)} {L L' : Sl} (h : Le L L') : Le (x :: L) (none :: L')
  | keep {d : D} {o : Bool} {L L' : Sl} (h : Le L L') : Le (some (d, o) :: L) (some (d, o) :: L')
  | weak {d : D} {o : Bool} {L L' : Sl} (h : Le L L') : Le (some (d, o) :: L) (some (d, false) :: L')
theorem Le.refl : ∀ L : Sl, Le L L
  | [] => .nil
  | none :: L => .drop (Le.refl L)
  | some (d, o) :: L => .keep (Le.refl L)
theorem Le.len {L L' : Sl} (h : Le L L') : L.length = L'.length := by
  induction h with
  | nil => rfl
  | drop _ ih => rw [List.length_cons, List.length_cons, ih]
  | keep _ ih => rw [List.length_cons, List.length_cons, ih]
  | weak _ ih => rw [List.length_cons, List.length_cons, ih]
theorem Le.at_ {L L' : Sl} (h : Le L L') : ∀ (i : Nat) (d : D) (o : Bool), L'[i]? = some (some (d, o)) → ∃ o', L[i]? = some (some (d, o')) ∧ (o = true → o' = true) := by
  induction h with
  | nil => intro i d o e; cases e
  | drop _ ih =>
    intro i d o e
    cases i with
    | zero => cases e
    | succ i => exact ih i d o e
  | keep _ ih =>
    intro i d o e
    cases i with
    | zero => exact ⟨o, e, id⟩
    | succ i => exact ih i d o e
  | @weak d' w L L' _ ih =>
    intro i d o e
    cases i with
    | zero =>
      simp at e
      obtain ⟨rfl, rfl⟩ := e
      exact ⟨w, rfl, fun q => nomatch q⟩
    | succ i => exact ih i d o e
theorem Rel.le {L L' : Sl} {ρ : Env} (h : Rel L ρ) (l : Le L L') : Rel L' ρ where
  len := h.len.trans l.len
  at_ := fun i d o e => by
    obtain ⟨o', e1, e2⟩ := l.at_ i d o e
    obtain ⟨k, e3, e4⟩ := h.at_ i d o' e1
    exact ⟨k, e3, e4.1, fun q => e4.2 (e2 q)⟩

/-! ### how values are said -/
abbrev eD : D → D := fun d => d
abbrev eI : Int → D := D.int
abbrev eB : Bool → D := D.bl
abbrev eS : Str → D := D.str
abbrev eN : Unit → D := fun _ => D.non
abbrev eL {α : Type} (e : α → D) : List α → D := fun xs => D.lst (xs.map e)
abbrev eT {α : Type} (e : α → D) : List α → D := fun xs => D.tup (xs.map e)
def eO {α : Type} (e : α → D) : Option α → D
  | none => .non
  | some v => e v
abbrev eP0 : Unit → D := fun _ => D.tup []
abbrev eP1 {α : Type} (a : α → D) : α → D := fun x => D.tup [a x]
abbrev eP2 {α β : Type} (a : α → D) (b : β → D) : α × β → D := fun p => D.tup [a p.1, b p.2]
abbrev eP3 {α β γ : Type} (a : α → D) (b : β → D) (c : γ → D) : α × β × γ → D := fun p => D.tup [a p.1, b p.2.1, c p.2.2]
abbrev eP4 {α β γ δ : Type} (a : α → D) (b : β → D) (c : γ → D) (d : δ → D) : α × β × γ × δ → D := fun p => D.tup [a p.1, b p.2.1, c p.2.2.1, d p.2.2.2]
abbrev eP5 {α β γ δ ε : Type} (a : α → D) (b : β → D) (c : γ → D) (d : δ → D) (f : ε → D) : α × β × γ × δ × ε → D := fun p => D.tup [a p.1, b p.2.1, c p.2.2.1, d p.2.2.2.1, f p.2.2.2.2]

/-! ### expressions -/
structure EV {α : Type} (L : Sl) (emb : α → D) (s u : List Nat) (v : α) (x : V3) : Prop where
  d : x.d = emb v
  s : Sub L x.s s
  u : Sub L x.t u
/-- e is worth what C hands on -/
def EC (Φ : Nat → Fn) (e : M) (L : Sl) {α : Type} (emb : α → D) (s u : List Nat) (C : (β : Type) → (α → R β) → R β) : Prop :=
  ∃ m : R α, (∀ (β : Type) (κ : α → R β), C β κ = m >>= κ) ∧ ∀ ρ, Rel L ρ → RefR (EV L emb s u) m (ev Φ e ρ)
/-- arguments, each worth a datum -/
structure AV (L : Sl) (s u : List Nat) (ds : List D) (x : List D × List Nat × List Nat) : Prop where
  d : x.1 = ds
  s : Sub L x.2.1 s
  u : Sub L x.2.2 u
def EA (Φ : Nat → Fn) (e : M) (L : Sl) {α : Type} (emb : α → List D) (s u : List Nat) (C : (β : Type) → (α → R β) → R β) : Prop :=
  ∃ m : R α, (∀ (β : Type) (κ : α → R β), C β κ = m >>= κ) ∧ ∀ ρ, Rel L ρ → RefR (fun v => AV L s u (emb v)) m (evs Φ e ρ)
section
variable {Φ : Nat → Fn} {L : Sl} {α β γ : Type} {e a b c : M} {ea : α → D} {eb : β → D} {ec : γ → D} {s u s' u' s'' u'' : List Nat} {A : (δ : Type) → (α → R δ) → R δ} {B : (δ : Type) → (β → R δ) → R δ} {C : (δ : Type) → (γ → R δ) → R δ}
theorem Rel.val {ρ : Env} (h : Rel L ρ) {i : Nat} {d : D} {o : Bool} (e : L[i]? = some (some (d, o))) : ρ.val i = .ok d := by
  obtain ⟨k, e1, _⟩ := h.at_ i d o e
  unfold Env.val
  rw [e1]
theorem EC.varF {i : Nat} {v : α} (h : L[i]? = some (some (ea v, false))) : EC Φ (.var i) L ea [] [] (fun _ κ => κ v) :=
  ⟨.ok v, fun _ _ => rfl, fun ρ r => by
    obtain ⟨k, e1, _⟩ := r.at_ i _ _ h
    rw [ev, r.val h, R.bind_ok]
    refine .ok ⟨rfl, Sub.dp fun j hj d q => ?_, Sub.dp fun j hj d q => ?_⟩
    · unfold Env.dep at hj
      rw [e1] at hj
      split at hj
      · cases hj
      · cases List.mem_singleton.mp hj
        rw [h] at q
        cases q
      · cases hj
    · unfold Env.dep1 at hj
      rw [e1] at hj
      dsimp only at hj
      split at hj
      · cases hj
      · cases List.mem_singleton.mp hj
        rw [h] at q
        cases q⟩
theorem EC.varT {i : Nat} {v : α} (h : L[i]? = some (some (ea v, true))) : EC Φ (.var i) L ea [i] [] (fun _ κ => κ v) :=
  ⟨.ok v, fun _ _ => rfl, fun ρ r => by
    obtain ⟨k, e1, e2⟩ := r.at_ i _ _ h
    rw [ev, r.val h, R.bind_ok]
    have e3 := e2.1
    refine .ok ⟨rfl, Sub.dp fun j hj d q => ?_, Sub.dp fun j hj d q => ?_⟩
    · unfold Env.dep at hj
      rw [e1] at hj
      split at hj
      · cases hj
      · exact hj
      · cases hj
    · unfold Env.dep1 at hj
      rw [e1] at hj
      dsimp only at hj
      rw [if_pos e3] at hj
      cases hj⟩
theorem EC.con {v : α} {d : D} (h : d = ea v) : EC Φ (.con d) L ea [] [] (fun _ κ => κ v) :=
  ⟨.ok v, fun _ _ => rfl, fun ρ r => .ok ⟨h, Sub.nil, Sub.nil⟩⟩
/-- the same datum, said otherwise -/
theorem EC.as {v : α → β} (h : EC Φ e L ea s u A) (hv : ∀ x, ea x = eb (v x)) : EC Φ e L eb s u (fun δ κ => A δ fun x => κ (v x)) := by
  obtain ⟨m, e1, e2⟩ := h
  refine ⟨m >>= fun x => .ok (v x), fun δ κ => by show A δ _ = _; rw [e1, R.bind_assoc]; rfl, fun ρ r => ?_⟩
  have := (e2 ρ r).bind (Q := EV L eb s u) (f := fun x => .ok (v x)) (g := R.ok) fun x y p => .ok ⟨p.d.trans (hv x), p.s, p.u⟩
  rwa [R.bind_id] at this
theorem EC.dyn (h : EC Φ e L ea s u A) : EC Φ e L eD s u (fun δ κ => A δ fun x => κ (ea x)) := h.as fun _ => rfl
theorem EC.sm (h : EC Φ e L ea s u A) : EC Φ e L (eO ea) s u (fun δ κ => A δ fun x => κ (Option.some x)) := h.as fun _ => rfl
/-- .. where it can be said otherwise -/
theorem EC.un {un : α → Option β} (h : EC Φ e L ea s u A) (hv : ∀ x y, un x = some y → ea x = eb y) : EC Φ e L eb s u (fun δ κ => A δ fun x => orBad (un x) >>= κ) := by
  obtain ⟨m, e1, e2⟩ := h
  refine ⟨m >>= fun x => orBad (un x), fun δ κ => by show A δ _ = _; rw [e1, R.bind_assoc], fun ρ r => ?_⟩
  have := (e2 ρ r).bind (Q := EV L eb s u) (f := fun x => orBad (un x)) (g := R.ok) fun x y p => by
    cases q : un x with
    | none => trivial
    | some z => exact .ok ⟨p.d.trans (hv x z q), p.s, p.u⟩
  rwa [R.bind_id] at this
theorem EC.get {A' : (δ : Type) → (Option α → R δ) → R δ} (h : EC Φ e L (eO ea) s u A') : EC Φ e L ea s u (fun δ κ => A' δ fun x => orBad x >>= κ) := by
  refine EC.un (un := fun x => x) h fun x y q => ?_
  subst q
  rfl
/-! one and two parts, generic -/
theorem EC.map1 {f : M → M} {g : α → R γ} {dg : V3 → R V3} (hf : ∀ ρ, ev Φ (f a) ρ = ev Φ a ρ >>= dg) (h : EC Φ a L ea s u A) (hg : ∀ v x, EV L ea s u v x → RefR (EV L ec s'' u'') (g v) (dg x)) :
    EC Φ (f a) L ec s'' u'' (fun δ κ => A δ fun x => g x >>= κ) := by
  obtain ⟨m, e1, e2⟩ := h
  refine ⟨m >>= g, fun δ κ => by show A δ _ = _; rw [e1, R.bind_assoc], fun ρ r => ?_⟩
  rw [hf]
  exact (e2 ρ r).bind hg
theorem EC.map2 {f : M → M → M} {g : α → β → R γ} {dg : V3 → V3 → R V3} (hf : ∀ ρ, ev Φ (f a b) ρ = ev Φ a ρ >>= fun x => ev Φ b ρ >>= fun y => dg x y) (h : EC Φ a L ea s u A) (h' : EC Φ b L eb s' u' B)
    (hg : ∀ v w x y, EV L ea s u v x → EV L eb s' u' w y → RefR (EV L ec s'' u'') (g v w) (dg x y)) : EC Φ (f a b) L ec s'' u'' (fun δ κ => A δ fun x => B δ fun y => g x y >>= κ) := by
  obtain ⟨m, e1, e2⟩ := h
  obtain ⟨m', e1', e2'⟩ := h'
  refine ⟨m >>= fun x => m' >>= fun y => g x y, fun δ κ => ?_, fun ρ r => ?_⟩
  · show A δ _ = _
    rw [e1, R.bind_assoc]
    congr 1
    funext x
    rw [e1', R.bind_assoc]
  · rw [hf]
    exact (e2 ρ r).bind fun v x p => (e2' ρ r).bind fun w y q => hg v w x y p q
/-- a part that is worth what a reckoning without effect says -/
theorem EC.map1p {f : M → M} {g : α → γ} {dg : V3 → R V3} (hf : ∀ ρ, ev Φ (f a) ρ = ev Φ a ρ >>= dg) (h : EC Φ a L ea s u A) (hg : ∀ v x, EV L ea s u v x → ∃ y, dg x = .ok y ∧ EV L ec s'' u'' (g v) y) :
    EC Φ (f a) L ec s'' u'' (fun δ κ => A δ fun x => κ (g x)) := by
  have := EC.map1 (g := fun x => .ok (g x)) (ec := ec) (s'' := s'') (u'' := u'') hf h fun v x p => hg v x p
  exact this
theorem EC.map2p {f : M → M → M} {g : α → β → γ} {dg : V3 → V3 → R V3} (hf : ∀ ρ, ev Φ (f a b) ρ = ev Φ a ρ >>= fun x => ev Φ b ρ >>= fun y => dg x y) (h : EC Φ a L ea s u A) (h' : EC Φ b L eb s' u' B)
    (hg : ∀ v w x y, EV L ea s u v x → EV L eb s' u' w y → ∃ z, dg x y = .ok z ∧ EV L ec s'' u'' (g v w) z) : EC Φ (f a b) L ec s'' u'' (fun δ κ => A δ fun x => B δ fun y => κ (g x y)) := by
  have := EC.map2 (g := fun x y => .ok (g x y)) (ec := ec) (s'' := s'') (u'' := u'') hf h h' fun v w x y p q => hg v w x y p q
  exact this
end
end Mp

set_option Elab.async false
set_option linter.all false
set_option maxRecDepth 100000
/-! Ts2: shallow code: the operations. -/
namespace Mp
open PySem (Str)
/-! ### plain reckonings of the shallow code -/
def atR {α : Type} (xs : List α) (i : Int) : R α := orBad (atI xs i)
def mulR (i j : Int) : R Int := .chk (cmulB i j) (.ok (i * j))
def fdivR (i j : Int) : R Int := .chk (cdivB j) (.ok (i.fdiv j))
def fmodR (i j : Int) : R Int := .chk (j ≠ 0) (.ok (i.fmod j))
def upI (lo : Int) (n : Nat) : List Int := (List.range n).map fun (i : Nat) => lo + (i : Int)
def rngR (j : Int) : R (List Int) := .chk (rngOk j) (.ok (upI 0 j.toNat))
def rng2R (i j : Int) : R (List Int) := .chk (rngOk i ∧ rngOk j) (.ok (upI i (j - i).toNat))
def maxR (xs : List Int) : R Int := orBad (maxI xs)
def minR (xs : List Int) : R Int := orBad (minI xs)
def catR {α : Type} (xs ys : List α) : R (List α) := .chk (xs.length + ys.length ≤ szl) (.ok (xs ++ ys))
def appR {α : Type} (xs : List α) (x : α) : R (List α) := .chk (xs.length < szl) (.ok (xs ++ [x]))
def setR {α : Type} (xs : List α) (i : Int) (x : α) : R (List α) := orBad (ixN xs.length i) >>= fun k => .ok (xs.set k x)
def mapR {α β : Type} (f : α → R β) : List α → R (List β)
  | [] => .ok []
  | x :: xs => f x >>= fun y => mapR f xs >>= fun ys => .ok (y :: ys)
def lcR {α β : Type} (f : α → R β) (xs : List α) : R (List β) := mapR f xs >>= fun ys => .chk (ys.length ≤ szl) (.ok ys)
def filR {α : Type} (f : α → R Bool) : List α → R (List α)
  | [] => .ok []
  | x :: xs => f x >>= fun b => filR f xs >>= fun ys => .ok (if b then x :: ys else ys)
/-- the items that pass, mapped -/
def mapIfR {α β : Type} (c : α → R Bool) (f : α → R β) : List α → R (List β)
  | [] => .ok []
  | x :: xs => c x >>= fun b => if b then f x >>= fun y => mapIfR c f xs >>= fun ys => .ok (y :: ys) else mapIfR c f xs
def lcIfR {α β : Type} (c : α → R Bool) (f : α → R β) (xs : List α) : R (List β) := mapIfR c f xs >>= fun ys => .chk (ys.length ≤ szl) (.ok ys)
def enumI {α : Type} (xs : List α) : List (Int × α) := (List.range xs.length).zipWith (fun (i : Nat) x => ((i : Int), x)) xs
def zipI {α β : Type} (xs : List α) (ys : List β) : List (α × β) := List.zipWith (fun x y => (x, y)) xs ys
def indexR (xs : List Int) (i : Int) : R Int := orBad (xs.findIdx? (· == i)) >>= fun j => .ok ((j : Nat) : Int)
def eqR (a b : D) : R Bool := .chk (okD a = true ∧ okD b = true) (.ok (eqD a b))
def isNo : D → Bool
  | .non => true
  | _ => false
def ixR (d : D) (i : Int) : R D := items d >>= fun xs => orBad (atI xs i)
def inR (d : D) (ds : List D) : R Bool := .chk (atomic d = true ∧ ds.all atomic = true) (.ok (ds.any fun y => eqD y d))

theorem ixN_map {n : Nat} {i : Int} {k : Nat} (h : ixN n i = some k) : k < n := by
  unfold ixN at h
  split at h
  · split at h
    · cases h
      omega
    · cases h
  · split at h
    · cases h
      omega
    · cases h
theorem atI_map {α β : Type} (f : α → β) (xs : List α) (i : Int) : atI (xs.map f) i = (atI xs i).map f := by
  unfold atI
  rw [List.length_map]
  cases ixN xs.length i with
  | none => rfl
  | some j => simp
theorem cut_map {α β : Type} (f : α → β) (xs : List α) (lo hi : Option Int) : cut (xs.map f) lo hi = (cut xs lo hi).map f := by
  unfold cut
  rw [List.length_map, List.map_take, List.map_drop]
theorem asInts_map : ∀ xs : List Int, asInts (xs.map D.int) = some xs
  | [] => rfl
  | x :: xs => by
    show (asInts (xs.map D.int)).map (x :: ·) = _
    rw [asInts_map xs]
    rfl
theorem upto_up (lo : Int) (n : Nat) : upto lo n = (upI lo n).map D.int := by
  unfold upto upI
  rw [List.map_map]
  rfl
theorem enumD_map {α : Type} (e : α → D) (xs : List α) : enumD (xs.map e) = (enumI xs).map (eP2 eI e) := by
  unfold enumD enumI
  rw [List.length_map, List.map_zipWith, List.zipWith_map_right]
theorem zipD_map {α β : Type} (e : α → D) (f : β → D) (xs : List α) (ys : List β) : zipD (xs.map e) (ys.map f) = (zipI xs ys).map (eP2 e f) := by
  unfold zipD zipI
  rw [List.map_zipWith, List.zipWith_map_left, List.zipWith_map_right]

/-! ### data that == compares as they are -/
structure Pl {α : Type} [DecidableEq α] (n : Nat) (e : α → D) : Prop where
  st : ∀ x, strsD (e x) = true
  dp : ∀ x, depth (e x) ≤ n
  eq : ∀ x y, eqD (e x) (e y) = decide (x = y)
theorem Pl.ok {α : Type} [DecidableEq α] {n : Nat} {e : α → D} (h : Pl n e) (hn : n ≤ 60) (x : α) : okD (e x) = true := by
  unfold okD
  rw [h.st x, decide_eq_true (Nat.le_trans (h.dp x) hn)]
  rfl
theorem Pl.I : Pl 0 eI := ⟨fun _ => rfl, fun _ => Nat.le_refl _, fun x y => by
  show (x == y) = _
  by_cases h : x = y
  · rw [decide_eq_true h, h]; simp
  · rw [decide_eq_false h]; simp [h]⟩
theorem Pl.B : Pl 0 eB := ⟨fun _ => rfl, fun _ => Nat.le_refl _, fun x y => by cases x <;> cases y <;> rfl⟩
section
variable {α β γ δ ε : Type} [DecidableEq α] [DecidableEq β] [DecidableEq γ] [DecidableEq δ] [DecidableEq ε] {n : Nat} {a : α → D} {b : β → D} {c : γ → D} {d : δ → D} {f : ε → D}
theorem Pl.strs (h : Pl n a) : ∀ xs : List α, strsDs (xs.map a) = true
  | [] => rfl
  | x :: xs => by
    show (strsD (a x) && strsDs (xs.map a)) = true
    rw [h.st, Pl.strs h xs]
    rfl
theorem Pl.depths (h : Pl n a) : ∀ xs : List α, Mp.depths (xs.map a) ≤ n
  | [] => Nat.zero_le _
  | x :: xs => Nat.max_le.mpr ⟨h.dp x, Pl.depths h xs⟩
theorem Pl.eqs (h : Pl n a) : ∀ xs ys : List α, eqDs (xs.map a) (ys.map a) = decide (xs = ys)
  | [], [] => rfl
  | [], _ :: _ => rfl
  | _ :: _, [] => rfl
  | x :: xs, y :: ys => by
    show (eqD (a x) (a y) && eqDs (xs.map a) (ys.map a)) = _
    rw [h.eq, Pl.eqs h xs ys]
    simp
theorem Pl.L (h : Pl n a) : Pl (n + 1) (eL a) := ⟨fun xs => h.strs xs, fun xs => Nat.succ_le_succ (h.depths xs), fun xs ys => h.eqs xs ys⟩
theorem Pl.T (h : Pl n a) : Pl (n + 1) (eT a) := ⟨fun xs => h.strs xs, fun xs => Nat.succ_le_succ (h.depths xs), fun xs ys => h.eqs xs ys⟩
theorem Pl.mono {m : Nat} (h : Pl n a) (l : n ≤ m) : Pl m a := ⟨h.st, fun x => Nat.le_trans (h.dp x) l, h.eq⟩
theorem Pl.P2 (h : Pl n a) (h' : Pl n b) : Pl (n + 1) (eP2 a b) := ⟨fun p => by
  show (strsD (a p.1) && (strsD (b p.2) && true)) = true
  rw [h.st, h'.st]; rfl, fun p => by
  show max (depth (a p.1)) (max (depth (b p.2)) 0) + 1 ≤ n + 1
  have := h.dp p.1; have := h'.dp p.2; omega, fun p q => by
  show (eqD (a p.1) (a q.1) && (eqD (b p.2) (b q.2) && true)) = _
  rw [h.eq, h'.eq]
  cases p; cases q; simp⟩
theorem Pl.P3 (h : Pl n a) (h' : Pl n b) (h'' : Pl n c) : Pl (n + 1) (eP3 a b c) := ⟨fun p => by
  show (strsD (a p.1) && (strsD (b p.2.1) && (strsD (c p.2.2) && true))) = true
  rw [h.st, h'.st, h''.st]; rfl, fun p => by
  show max (depth (a p.1)) (max (depth (b p.2.1)) (max (depth (c p.2.2)) 0)) + 1 ≤ n + 1
  have := h.dp p.1; have := h'.dp p.2.1; have := h''.dp p.2.2; omega, fun p q => by
  show (eqD (a p.1) (a q.1) && (eqD (b p.2.1) (b q.2.1) && (eqD (c p.2.2) (c q.2.2) && true))) = _
  rw [h.eq, h'.eq, h''.eq]
  obtain ⟨p1, p2, p3⟩ := p; obtain ⟨q1, q2, q3⟩ := q; simp⟩
end

/-! ### expressions -/
theorem RefR.of_ok {α β : Type} {P : α → β → Prop} {a : α} {n : R β} (h : ∃ b, n = .ok b ∧ P a b) : RefR P (.ok a) n := h
theorem EV.atom {α : Type} {L : Sl} {e : α → D} {v : α} {d : D} {s : List Nat} (h : d = e v) (ha : atomic d = true) : EV L e [] [] v (.new d s) := ⟨h, Sub.dpA ha, Sub.dpA ha⟩
theorem EV.mk' {α : Type} {L : Sl} {e : α → D} {v : α} {d : D} {S s : List Nat} (h : d = e v) (hs : Sub L S s) : EV L e s s v (.new d S) := ⟨h, hs.dp, hs.dp⟩
section
variable {Φ : Nat → Fn} {L : Sl} {α β γ : Type} {e a b c : M} {ea : α → D} {eb : β → D} {ec : γ → D} {s u s' u' s'' u'' : List Nat}
section intsec
variable {A B : (δ : Type) → (Int → R δ) → R δ}
theorem EC.intop {o : BOp} {g : Int → Int → Int} (ho : ∀ i j, bopI o i j = .ok (.int (g i j))) (h : EC Φ a L eI s u A) (h' : EC Φ b L eI s' u' B) : EC Φ (.bin o a b) L eI [] [] (fun δ κ => A δ fun x => B δ fun y => κ (g x y)) :=
  EC.map2p (f := .bin o) (dg := fun x y => bop o x.d y.d >>= fun z => .ok (.new z (x.t ++ y.t))) (fun ρ => rfl) h h' fun v w x y p q => by
    refine ⟨.new (.int (g v w)) (x.t ++ y.t), ?_, .atom rfl rfl⟩
    rw [p.d, q.d]
    show (bopI o v w >>= _) = _
    rw [ho]
    rfl
theorem EC.add (h : EC Φ a L eI s u A) (h' : EC Φ b L eI s' u' B) : EC Φ (.bin .add a b) L eI [] [] (fun δ κ => A δ fun x => B δ fun y => κ (x + y)) := EC.intop (fun _ _ => rfl) h h'
theorem EC.sub (h : EC Φ a L eI s u A) (h' : EC Φ b L eI s' u' B) : EC Φ (.bin .sub a b) L eI [] [] (fun δ κ => A δ fun x => B δ fun y => κ (x - y)) := EC.intop (fun _ _ => rfl) h h'
theorem EC.intopR {o : BOp} {g : Int → Int → R Int} (ho : ∀ i j, bopI o i j = g i j >>= fun z => .ok (.int z)) (h : EC Φ a L eI s u A) (h' : EC Φ b L eI s' u' B) : EC Φ (.bin o a b) L eI [] [] (fun δ κ => A δ fun x => B δ fun y => g x y >>= κ) :=
  EC.map2 (f := .bin o) (dg := fun x y => bop o x.d y.d >>= fun z => .ok (.new z (x.t ++ y.t))) (fun ρ => rfl) h h' fun v w x y p q => by
    rw [p.d, q.d]
    show RefR _ _ (bopI o v w >>= _)
    rw [ho, R.bind_assoc]
    have := RefR.bind (P := fun x y => x = y) (m := g v w) (n := g v w) (f := R.ok) (g := fun z => R.ok (D.int z) >>= fun z => R.ok (V3.new z (x.t ++ y.t))) (Q := EV L eI [] []) (by cases g v w <;> first | trivial | exact ⟨_, rfl, rfl⟩ | rfl) fun z z' r => by
      subst r
      exact .ok (.atom rfl rfl)
    rwa [R.bind_id] at this
theorem EC.mul (h : EC Φ a L eI s u A) (h' : EC Φ b L eI s' u' B) : EC Φ (.bin .mul a b) L eI [] [] (fun δ κ => A δ fun x => B δ fun y => mulR x y >>= κ) := EC.intopR (fun i j => by unfold mulR; rw [R.chk_bind]; rfl) h h'
theorem EC.fdiv (h : EC Φ a L eI s u A) (h' : EC Φ b L eI s' u' B) : EC Φ (.bin .fdiv a b) L eI [] [] (fun δ κ => A δ fun x => B δ fun y => fdivR x y >>= κ) := EC.intopR (fun i j => by unfold fdivR; rw [R.chk_bind]; rfl) h h'
theorem EC.mod (h : EC Φ a L eI s u A) (h' : EC Φ b L eI s' u' B) : EC Φ (.bin .mod a b) L eI [] [] (fun δ κ => A δ fun x => B δ fun y => fmodR x y >>= κ) := EC.intopR (fun i j => by unfold fmodR; rw [R.chk_bind]; rfl) h h'
/-- by a written number -/
theorem EC.intlit {o : BOp} {c : Int} {g : Int → Int} (ho : ∀ i, bopI o i c = .ok (.int (g i))) (h : EC Φ a L eI s u A) : EC Φ (.bin o a (.con (.int c))) L eI [] [] (fun δ κ => A δ fun x => κ (g x)) :=
  EC.map1p (f := fun a => .bin o a (.con (.int c))) (dg := fun x => bop o x.d (.int c) >>= fun z => .ok (.new z (x.t ++ []))) (fun ρ => rfl) h fun v x p => by
    refine ⟨.new (.int (g v)) (x.t ++ []), ?_, .atom rfl rfl⟩
    rw [p.d]
    show (bopI o v c >>= _) = _
    rw [ho]
    rfl
theorem EC.mulc {c : Int} (hc : c.natAbs < 18446744073709551616) (h : EC Φ a L eI s u A) : EC Φ (.bin .mul a (.con (.int c))) L eI [] [] (fun δ κ => A δ fun x => κ (x * c)) := EC.intlit (fun i => R.chk_t (.inr hc) _) h
theorem EC.cmul {c : Int} (hc : c.natAbs < 18446744073709551616) (h : EC Φ a L eI s u A) : EC Φ (.bin .mul (.con (.int c)) a) L eI [] [] (fun δ κ => A δ fun x => κ (c * x)) :=
  EC.map1p (f := fun a => .bin .mul (.con (.int c)) a) (dg := fun x => bop .mul (.int c) x.d >>= fun z => .ok (.new z ([] ++ x.t))) (fun ρ => rfl) h fun v x p => by
    refine ⟨.new (.int (c * v)) ([] ++ x.t), ?_, .atom rfl rfl⟩
    rw [p.d]
    show (bopI .mul c v >>= _) = _
    rw [show bopI .mul c v = .ok (.int (c * v)) from R.chk_t (.inl hc) _]
    rfl
theorem EC.fdivc {c : Int} (hc : cdivB c) (h : EC Φ a L eI s u A) : EC Φ (.bin .fdiv a (.con (.int c))) L eI [] [] (fun δ κ => A δ fun x => κ (x.fdiv c)) := EC.intlit (fun i => R.chk_t hc _) h
theorem EC.modc {c : Int} (hc : c ≠ 0) (h : EC Φ a L eI s u A) : EC Φ (.bin .mod a (.con (.int c))) L eI [] [] (fun δ κ => A δ fun x => κ (x.fmod c)) := EC.intlit (fun i => R.chk_t hc _) h
theorem EC.powc {i j v : Int} (h : cpowB i j) (hv : i ^ j.toNat = v) : EC Φ (.bin .pow (.con (.int i)) (.con (.int j))) L eI [] [] (fun _ κ => κ v) :=
  ⟨.ok v, fun _ _ => rfl, fun ρ r => by
    show RefR _ _ (bopI .pow i j >>= _)
    rw [show bopI .pow i j = .ok (.int (i ^ j.toNat)) from R.chk_t h _, hv]
    exact .ok (.atom rfl rfl)⟩
theorem EC.neg (h : EC Φ a L eI s u A) : EC Φ (.neg a) L eI [] [] (fun δ κ => A δ fun x => κ (-x)) :=
  EC.map1p (f := .neg) (dg := fun x => intOf x.d >>= fun i => .ok (.at (.int (-i)))) (fun ρ => rfl) h fun v x p => by
    rw [p.d]
    exact ⟨_, rfl, rfl, Sub.nil, Sub.nil⟩
theorem EC.icmp {o : COp} {g : Int → Int → Bool} (ho : ∀ i j, cop o (.int i) (.int j) = .ok (g i j)) (h : EC Φ a L eI s u A) (h' : EC Φ b L eI s' u' B) : EC Φ (.cmp o a b) L eB [] [] (fun δ κ => A δ fun x => B δ fun y => κ (g x y)) :=
  EC.map2p (f := .cmp o) (dg := fun x y => cop o x.d y.d >>= fun z => .ok (.at (.bl z))) (fun ρ => rfl) h h' fun v w x y p q => by
    rw [p.d, q.d, ho]
    exact ⟨_, rfl, rfl, Sub.nil, Sub.nil⟩
theorem EC.lt (h : EC Φ a L eI s u A) (h' : EC Φ b L eI s' u' B) : EC Φ (.cmp .lt a b) L eB [] [] (fun δ κ => A δ fun x => B δ fun y => κ (decide (x < y))) := EC.icmp (fun _ _ => rfl) h h'
theorem EC.le (h : EC Φ a L eI s u A) (h' : EC Φ b L eI s' u' B) : EC Φ (.cmp .le a b) L eB [] [] (fun δ κ => A δ fun x => B δ fun y => κ (decide (x ≤ y))) := EC.icmp (fun _ _ => rfl) h h'
theorem EC.gt (h : EC Φ a L eI s u A) (h' : EC Φ b L eI s' u' B) : EC Φ (.cmp .gt a b) L eB [] [] (fun δ κ => A δ fun x => B δ fun y => κ (decide (y < x))) := EC.icmp (fun _ _ => rfl) h h'
theorem EC.ge (h : EC Φ a L eI s u A) (h' : EC Φ b L eI s' u' B) : EC Φ (.cmp .ge a b) L eB [] [] (fun δ κ => A δ fun x => B δ fun y => κ (decide (y ≤ x))) := EC.icmp (fun _ _ => rfl) h h'
end intsec
section gen
variable {A : (δ : Type) → (α → R δ) → R δ} {B : (δ : Type) → (α → R δ) → R δ}
theorem EC.eq [DecidableEq α] {n : Nat} (hp : Pl n ea) (h : EC Φ a L ea s u A) (h' : EC Φ b L ea s' u' B) (hn : n ≤ 60 := by decide) : EC Φ (.cmp .eq a b) L eB [] [] (fun δ κ => A δ fun x => B δ fun y => κ (decide (x = y))) :=
  EC.map2p (f := .cmp .eq) (dg := fun x y => cop .eq x.d y.d >>= fun z => .ok (.at (.bl z))) (fun ρ => rfl) h h' fun v w x y p q => by
    rw [p.d, q.d]
    show ∃ z, (R.chk _ _ >>= _) = _ ∧ _
    rw [R.chk_t ⟨hp.ok hn v, hp.ok hn w⟩, hp.eq]
    exact ⟨_, rfl, rfl, Sub.nil, Sub.nil⟩
theorem EC.ne [DecidableEq α] {n : Nat} (hp : Pl n ea) (h : EC Φ a L ea s u A) (h' : EC Φ b L ea s' u' B) (hn : n ≤ 60 := by decide) : EC Φ (.cmp .ne a b) L eB [] [] (fun δ κ => A δ fun x => B δ fun y => κ (!decide (x = y))) :=
  EC.map2p (f := .cmp .ne) (dg := fun x y => cop .ne x.d y.d >>= fun z => .ok (.at (.bl z))) (fun ρ => rfl) h h' fun v w x y p q => by
    rw [p.d, q.d]
    show ∃ z, (R.chk _ _ >>= _) = _ ∧ _
    rw [R.chk_t ⟨hp.ok hn v, hp.ok hn w⟩, hp.eq]
    exact ⟨_, rfl, rfl, Sub.nil, Sub.nil⟩
end gen
section two
variable {A : (δ : Type) → (α → R δ) → R δ} {B : (δ : Type) → (β → R δ) → R δ}
theorem EC.cmpR {o : COp} {g : α → β → R Bool} (ho : ∀ i j, cop o (ea i) (eb j) = g i j) (h : EC Φ a L ea s u A) (h' : EC Φ b L eb s' u' B) : EC Φ (.cmp o a b) L eB [] [] (fun δ κ => A δ fun x => B δ fun y => g x y >>= κ) :=
  EC.map2 (f := .cmp o) (dg := fun x y => cop o x.d y.d >>= fun z => .ok (.at (.bl z))) (fun ρ => rfl) h h' fun v w x y p q => by
    rw [p.d, q.d, ho]
    cases g v w with
    | bad => trivial
    | ok z => exact .ok ⟨rfl, Sub.nil, Sub.nil⟩
    | exc k fs => rfl
theorem EC.eqd (h : EC Φ a L ea s u A) (h' : EC Φ b L eb s' u' B) : EC Φ (.cmp .eq a b) L eB [] [] (fun δ κ => A δ fun x => B δ fun y => eqR (ea x) (eb y) >>= κ) := EC.cmpR (fun _ _ => rfl) h h'
theorem EC.ned (h : EC Φ a L ea s u A) (h' : EC Φ b L eb s' u' B) : EC Φ (.cmp .ne a b) L eB [] [] (fun δ κ => A δ fun x => B δ fun y => eqR (ea x) (eb y) >>= fun z => κ (!z)) := by
  have := EC.cmpR (o := .ne) (g := fun i j => eqR (ea i) (eb j) >>= fun z => .ok (!z)) (fun i j => by unfold eqR; rw [R.chk_bind]; rfl) h h'
  obtain ⟨m, e1, e2⟩ := this
  refine ⟨m, fun δ κ => ?_, e2⟩
  rw [← e1]
  show A δ _ = A δ _
  congr 1
  funext x
  congr 1
  funext y
  rw [R.bind_assoc]
  rfl
theorem EC.isn1 {g : α → Bool} (hg : ∀ v, isNo (ea v) = g v) (h : EC Φ a L ea s u A) : EC Φ (.cmp .is a (.con .non)) L eB [] [] (fun δ κ => A δ fun x => κ (g x)) :=
  EC.map1p (f := fun a => .cmp .is a (.con .non)) (dg := fun x => cop .is x.d .non >>= fun z => .ok (.at (.bl z))) (fun ρ => rfl) h fun v x p => by
    rw [p.d, ← hg v]
    cases ea v <;> exact ⟨_, rfl, rfl, Sub.nil, Sub.nil⟩
theorem EC.isnn1 {g : α → Bool} (hg : ∀ v, isNo (ea v) = g v) (h : EC Φ a L ea s u A) : EC Φ (.cmp .isn a (.con .non)) L eB [] [] (fun δ κ => A δ fun x => κ (!g x)) :=
  EC.map1p (f := fun a => .cmp .isn a (.con .non)) (dg := fun x => cop .isn x.d .non >>= fun z => .ok (.at (.bl z))) (fun ρ => rfl) h fun v x p => by
    rw [p.d, ← hg v]
    cases ea v <;> exact ⟨_, rfl, rfl, Sub.nil, Sub.nil⟩
/-- a ≤ b ≤ c and the like -/
theorem EC.chainI {A B C : (δ : Type) → (Int → R δ) → R δ} {o q : COp} {g g' : Int → Int → Bool} (ho : ∀ i j, cop o (.int i) (.int j) = .ok (g i j)) (hq : ∀ i j, cop q (.int i) (.int j) = .ok (g' i j)) (h : EC Φ a L eI s u A) (h' : EC Φ b L eI s' u' B) (h'' : EC Φ c L eI s'' u'' C) :
    EC Φ (.chain o q a b c) L eB [] [] (fun δ κ => A δ fun x => B δ fun y => (if g x y then C Bool fun z => .ok (g' y z) else .ok false) >>= κ) := by
  obtain ⟨m, e1, e2⟩ := h
  obtain ⟨m', e1', e2'⟩ := h'
  obtain ⟨m'', e1'', e2''⟩ := h''
  refine ⟨m >>= fun x => m' >>= fun y => if g x y then m'' >>= fun z => .ok (g' y z) else .ok false, fun δ κ => ?_, fun ρ r => ?_⟩
  · show A δ _ = _
    rw [e1, R.bind_assoc]
    congr 1
    funext x
    rw [e1', R.bind_assoc]
    congr 1
    funext y
    rw [e1'']
  · rw [ev]
    refine (e2 ρ r).bind fun v x p => (e2' ρ r).bind fun w y q => ?_
    rw [p.d, q.d, ho, R.bind_ok]
    cases g v w with
    | false => exact .ok ⟨rfl, Sub.nil, Sub.nil⟩
    | true =>
      show RefR _ (m'' >>= _) _
      refine (e2'' ρ r).bind fun w' z q' => ?_
      rw [q'.d, hq]
      exact .ok ⟨rfl, Sub.nil, Sub.nil⟩
/-- .. of a part without effect -/
theorem EC.chainP {A B : (δ : Type) → (Int → R δ) → R δ} {o q : COp} {g g' : Int → Int → Bool} {z : Int} (ho : ∀ i j, cop o (.int i) (.int j) = .ok (g i j)) (hq : ∀ i j, cop q (.int i) (.int j) = .ok (g' i j)) (h : EC Φ a L eI s u A) (h' : EC Φ b L eI s' u' B) (h'' : EC Φ c L eI s'' u'' (fun _ κ => κ z)) :
    EC Φ (.chain o q a b c) L eB [] [] (fun δ κ => A δ fun x => B δ fun y => κ (g x y && g' y z)) := by
  obtain ⟨m, e1, e2⟩ := EC.chainI ho hq h h' h''
  refine ⟨m, fun δ κ => ?_, e2⟩
  rw [← e1]
  show A δ _ = A δ _
  congr 1
  funext x
  congr 1
  funext y
  cases g x y <;> rfl
end two
end
end Mp

set_option Elab.async false
set_option linter.all false
set_option maxRecDepth 100000
/-! Ts3: shallow code: truth, lists, calls, comprehensions. -/
namespace Mp
open PySem (Str)
/-- the truth of e is what C hands on -/
def ET (Φ : Nat → Fn) (e : M) (L : Sl) (C : (β : Type) → (Bool → R β) → R β) : Prop :=
  ∃ m : R Bool, (∀ (β : Type) (κ : Bool → R β), C β κ = m >>= κ) ∧ ∀ ρ, Rel L ρ → RefR (fun a b => b = a) m (tst Φ e ρ)
theorem tst_eq (Φ : Nat → Fn) (e : M) (ρ : Env) : tst Φ e ρ = ev Φ e ρ >>= fun x => truth x.d := rfl
section
variable {Φ : Nat → Fn} {L : Sl} {α β γ : Type} {e a b c : M} {ea : α → D} {eb : β → D} {ec : γ → D} {s u s' u' s'' u'' : List Nat} {A : (δ : Type) → (α → R δ) → R δ} {B : (δ : Type) → (β → R δ) → R δ} {C : (δ : Type) → (γ → R δ) → R δ} {T T' : (δ : Type) → (Bool → R δ) → R δ}
theorem ET.ofR {g : α → R Bool} (hg : ∀ v, truth (ea v) = g v) (h : EC Φ a L ea s u A) : ET Φ a L (fun δ κ => A δ fun x => g x >>= κ) := by
  obtain ⟨m, e1, e2⟩ := h
  refine ⟨m >>= g, fun δ κ => by show A δ _ = _; rw [e1, R.bind_assoc], fun ρ r => ?_⟩
  rw [tst_eq]
  refine (e2 ρ r).bind fun v x p => ?_
  rw [p.d, hg]
  cases g v <;> first | trivial | exact ⟨_, rfl, rfl⟩ | rfl
theorem ET.of {g : α → Bool} (hg : ∀ v, truth (ea v) = .ok (g v)) (h : EC Φ a L ea s u A) : ET Φ a L (fun δ κ => A δ fun x => κ (g x)) := ET.ofR (g := fun x => .ok (g x)) hg h
theorem ET.bo (h : EC Φ a L eB s u T) : ET Φ a L T := by
  have := ET.of (g := fun x => x) (fun _ => rfl) h
  exact this
theorem ET.in_ {A : (δ : Type) → (Int → R δ) → R δ} (h : EC Φ a L eI s u A) : ET Φ a L (fun δ κ => A δ fun x => κ (!decide (x = 0))) := ET.of (fun v => by
  show R.ok (v != 0) = _
  by_cases q : v = 0
  · subst q; rfl
  · rw [decide_eq_false q]; simp [q]) h
theorem ET.li {A : (δ : Type) → (List α → R δ) → R δ} (h : EC Φ a L (eL ea) s u A) : ET Φ a L (fun δ κ => A δ fun x => κ (!x.isEmpty)) := ET.of (fun v => by cases v <;> rfl) h
theorem ET.tu {A : (δ : Type) → (List α → R δ) → R δ} (h : EC Φ a L (eT ea) s u A) : ET Φ a L (fun δ κ => A δ fun x => κ (!x.isEmpty)) := ET.of (fun v => by cases v <;> rfl) h
theorem ET.dy (h : EC Φ a L ea s u A) : ET Φ a L (fun δ κ => A δ fun x => truth (ea x) >>= κ) := ET.ofR (fun _ => rfl) h
theorem EC.not (h : ET Φ a L T) : EC Φ (.not a) L eB [] [] (fun δ κ => T δ fun x => κ (!x)) := by
  obtain ⟨m, e1, e2⟩ := h
  refine ⟨m >>= fun x => .ok (!x), fun δ κ => by show T δ _ = _; rw [e1, R.bind_assoc]; rfl, fun ρ r => ?_⟩
  have : ev Φ (.not a) ρ = tst Φ a ρ >>= fun b => .ok (.at (.bl !b)) := by
    rw [tst_eq, R.bind_assoc]
    rfl
  rw [this]
  exact (e2 ρ r).bind fun v x p => .ok ⟨by rw [p]; rfl, Sub.nil, Sub.nil⟩
theorem ET.not (h : ET Φ a L T) : ET Φ (.not a) L (fun δ κ => T δ fun x => κ (!x)) := ET.bo (EC.not h)
theorem tstT_and (a b : M) (ρ : Env) : tst Φ (.and a b) ρ = tst Φ a ρ >>= fun x => if x then tst Φ b ρ else .ok false := by
  rw [tst_eq, tst_eq, ev, R.bind_assoc, R.bind_assoc]
  congr 1
  funext x
  rw [R.bind_assoc]
  cases q : truth x.d with
  | bad => rfl
  | exc c fs => rfl
  | ok w =>
    cases w with
    | false => show truth x.d = _; rw [q]; rfl
    | true => rfl
theorem tstT_or (a b : M) (ρ : Env) : tst Φ (.or a b) ρ = tst Φ a ρ >>= fun x => if x then .ok true else tst Φ b ρ := by
  rw [tst_eq, tst_eq, ev, R.bind_assoc, R.bind_assoc]
  congr 1
  funext x
  rw [R.bind_assoc]
  cases q : truth x.d with
  | bad => rfl
  | exc c fs => rfl
  | ok w =>
    cases w with
    | true => show truth x.d = _; rw [q]; rfl
    | false => rfl
theorem ET.and (h : ET Φ a L T) (h' : ET Φ b L T') : ET Φ (.and a b) L (fun δ κ => T δ fun x => (if x then T' Bool .ok else .ok false) >>= κ) := by
  obtain ⟨m, e1, e2⟩ := h
  obtain ⟨m', e1', e2'⟩ := h'
  refine ⟨m >>= fun x => if x then m' else .ok false, fun δ κ => ?_, fun ρ r => ?_⟩
  · show T δ _ = _
    rw [e1, R.bind_assoc, e1', R.bind_id]
  · rw [tstT_and]
    refine (e2 ρ r).bind fun v x p => ?_
    subst p
    cases x with
    | false => exact .ok rfl
    | true => exact e2' ρ r
theorem ET.or (h : ET Φ a L T) (h' : ET Φ b L T') : ET Φ (.or a b) L (fun δ κ => T δ fun x => (if x then .ok true else T' Bool .ok) >>= κ) := by
  obtain ⟨m, e1, e2⟩ := h
  obtain ⟨m', e1', e2'⟩ := h'
  refine ⟨m >>= fun x => if x then .ok true else m', fun δ κ => ?_, fun ρ r => ?_⟩
  · show T δ _ = _
    rw [e1, R.bind_assoc, e1', R.bind_id]
  · rw [tstT_or]
    refine (e2 ρ r).bind fun v x p => ?_
    subst p
    cases x with
    | false => exact e2' ρ r
    | true => exact .ok rfl
theorem ET.andP {y : Bool} (h : ET Φ a L T) (h' : ET Φ b L (fun _ κ => κ y)) : ET Φ (.and a b) L (fun δ κ => T δ fun x => κ (x && y)) := by
  obtain ⟨m, e1, e2⟩ := ET.and h h'
  refine ⟨m, fun δ κ => ?_, e2⟩
  rw [← e1]
  show T δ _ = T δ _
  congr 1
  funext x
  cases x <;> rfl
theorem ET.orP {y : Bool} (h : ET Φ a L T) (h' : ET Φ b L (fun _ κ => κ y)) : ET Φ (.or a b) L (fun δ κ => T δ fun x => κ (x || y)) := by
  obtain ⟨m, e1, e2⟩ := ET.or h h'
  refine ⟨m, fun δ κ => ?_, e2⟩
  rw [← e1]
  show T δ _ = T δ _
  congr 1
  funext x
  cases x <;> rfl
/-- and, or of truth values, as values -/
theorem EC.and (h : EC Φ a L eB s u T) (h' : EC Φ b L eB s' u' T') : EC Φ (.and a b) L eB (s ++ s') (u ++ u') (fun δ κ => T δ fun x => (if x then T' Bool .ok else .ok false) >>= κ) := by
  obtain ⟨m, e1, e2⟩ := h
  obtain ⟨m', e1', e2'⟩ := h'
  refine ⟨m >>= fun x => if x then m' else .ok false, fun δ κ => ?_, fun ρ r => ?_⟩
  · show T δ _ = _
    rw [e1, R.bind_assoc, e1', R.bind_id]
  · rw [ev]
    refine (e2 ρ r).bind fun v x p => ?_
    rw [p.d]
    cases v with
    | false => exact .ok ⟨p.d, fun i hi d q => List.mem_append_left _ (p.s i hi d q), fun i hi d q => List.mem_append_left _ (p.u i hi d q)⟩
    | true => exact (e2' ρ r).mono fun v x p => ⟨p.d, fun i hi d q => List.mem_append_right _ (p.s i hi d q), fun i hi d q => List.mem_append_right _ (p.u i hi d q)⟩
theorem EC.or (h : EC Φ a L eB s u T) (h' : EC Φ b L eB s' u' T') : EC Φ (.or a b) L eB (s ++ s') (u ++ u') (fun δ κ => T δ fun x => (if x then .ok true else T' Bool .ok) >>= κ) := by
  obtain ⟨m, e1, e2⟩ := h
  obtain ⟨m', e1', e2'⟩ := h'
  refine ⟨m >>= fun x => if x then .ok true else m', fun δ κ => ?_, fun ρ r => ?_⟩
  · show T δ _ = _
    rw [e1, R.bind_assoc, e1', R.bind_id]
  · rw [ev]
    refine (e2 ρ r).bind fun v x p => ?_
    rw [p.d]
    cases v with
    | true => exact .ok ⟨p.d, fun i hi d q => List.mem_append_left _ (p.s i hi d q), fun i hi d q => List.mem_append_left _ (p.u i hi d q)⟩
    | false => exact (e2' ρ r).mono fun v x p => ⟨p.d, fun i hi d q => List.mem_append_right _ (p.s i hi d q), fun i hi d q => List.mem_append_right _ (p.u i hi d q)⟩
theorem EC.andP {y : Bool} (h : EC Φ a L eB s u T) (h' : EC Φ b L eB s' u' (fun _ κ => κ y)) : EC Φ (.and a b) L eB (s ++ s') (u ++ u') (fun δ κ => T δ fun x => κ (x && y)) := by
  obtain ⟨m, e1, e2⟩ := EC.and h h'
  refine ⟨m, fun δ κ => ?_, e2⟩
  rw [← e1]
  show T δ _ = T δ _
  congr 1
  funext x
  cases x <;> rfl
theorem EC.orP {y : Bool} (h : EC Φ a L eB s u T) (h' : EC Φ b L eB s' u' (fun _ κ => κ y)) : EC Φ (.or a b) L eB (s ++ s') (u ++ u') (fun δ κ => T δ fun x => κ (x || y)) := by
  obtain ⟨m, e1, e2⟩ := EC.or h h'
  refine ⟨m, fun δ κ => ?_, e2⟩
  rw [← e1]
  show T δ _ = T δ _
  congr 1
  funext x
  cases x <;> rfl
theorem EC.ite {A B : (δ : Type) → (α → R δ) → R δ} (h : ET Φ c L T) (h' : EC Φ a L ea s u A) (h'' : EC Φ b L ea s' u' B) : EC Φ (.ite c a b) L ea (s ++ s') (u ++ u') (fun δ κ => T δ fun x => (if x then A α .ok else B α .ok) >>= κ) := by
  obtain ⟨m, e1, e2⟩ := h
  obtain ⟨m', e1', e2'⟩ := h'
  obtain ⟨m'', e1'', e2''⟩ := h''
  refine ⟨m >>= fun x => if x then m' else m'', fun δ κ => ?_, fun ρ r => ?_⟩
  · show T δ _ = _
    rw [e1, R.bind_assoc, e1', e1'', R.bind_id, R.bind_id]
  · have : ev Φ (.ite c a b) ρ = tst Φ c ρ >>= fun k => if k then ev Φ a ρ else ev Φ b ρ := by
      rw [tst_eq, R.bind_assoc]
      rfl
    rw [this]
    refine (e2 ρ r).bind fun v x p => ?_
    subst p
    cases x with
    | false => exact (e2'' ρ r).mono fun v x p => ⟨p.d, fun i hi d q => List.mem_append_right _ (p.s i hi d q), fun i hi d q => List.mem_append_right _ (p.u i hi d q)⟩
    | true => exact (e2' ρ r).mono fun v x p => ⟨p.d, fun i hi d q => List.mem_append_left _ (p.s i hi d q), fun i hi d q => List.mem_append_left _ (p.u i hi d q)⟩
theorem EC.iteP {x y : α} (h : ET Φ c L T) (h' : EC Φ a L ea s u (fun _ κ => κ x)) (h'' : EC Φ b L ea s' u' (fun _ κ => κ y)) : EC Φ (.ite c a b) L ea (s ++ s') (u ++ u') (fun δ κ => T δ fun z => κ (if z then x else y)) := by
  obtain ⟨m, e1, e2⟩ := EC.ite h h' h''
  refine ⟨m, fun δ κ => ?_, e2⟩
  rw [← e1]
  show T δ _ = T δ _
  congr 1
  funext x
  cases x <;> rfl

/-! ### lists, tuples -/
theorem EA.nil : EA Φ .nil L (fun _ : Unit => []) [] [] (fun _ κ => κ ()) := ⟨.ok (), fun _ _ => rfl, fun ρ r => .ok ⟨rfl, Sub.nil, Sub.nil⟩⟩
theorem EA.cons {eb : β → List D} (h : EC Φ a L ea s u A) (h' : EA Φ b L eb s' u' B) : EA Φ (.cons a b) L (fun p : α × β => ea p.1 :: eb p.2) (s ++ s') (u ++ u') (fun δ κ => A δ fun x => B δ fun y => κ (x, y)) := by
  obtain ⟨m, e1, e2⟩ := h
  obtain ⟨m', e1', e2'⟩ := h'
  refine ⟨m >>= fun x => m' >>= fun y => .ok (x, y), fun δ κ => ?_, fun ρ r => ?_⟩
  · show A δ _ = _
    rw [e1, R.bind_assoc]
    congr 1
    funext x
    rw [e1', R.bind_assoc]
    rfl
  · rw [evs]
    refine (e2 ρ r).bind fun v x p => (e2' ρ r).bind fun w y q => .ok ⟨?_, p.s.app q.s, p.u.app q.u⟩
    show x.d :: y.1 = _
    rw [p.d, q.d]
/-- .. items of one kind -/
theorem EA.nilH : EA Φ .nil L (fun xs : List α => xs.map ea) [] [] (fun _ κ => κ []) := ⟨.ok [], fun _ _ => rfl, fun ρ r => .ok ⟨rfl, Sub.nil, Sub.nil⟩⟩
theorem EC.lst {ds : α → List D} (h : EA Φ e L ds s u A) (g : α → List β) (hg : ∀ v, ds v = (g v).map eb) (hl : ∀ v, (g v).length ≤ szl) : EC Φ (.lst e) L (eL eb) s s (fun δ κ => A δ fun x => κ (g x)) := by
  obtain ⟨m, e1, e2⟩ := h
  refine ⟨m >>= fun x => .ok (g x), fun δ κ => by show A δ _ = _; rw [e1, R.bind_assoc]; rfl, fun ρ r => ?_⟩
  rw [ev]
  refine (e2 ρ r).bind fun v x p => ?_
  rw [R.chk_t (by rw [p.d, hg, List.length_map]; exact hl v)]
  exact .ok (.mk' (by rw [p.d, hg]) p.s)
theorem EC.tup {ds : α → List D} (h : EA Φ e L ds s u A) (g : α → β) (hg : ∀ v, D.tup (ds v) = eb (g v)) (hl : ∀ v, (ds v).length ≤ szl) : EC Φ (.tup e) L eb s s (fun δ κ => A δ fun x => κ (g x)) := by
  obtain ⟨m, e1, e2⟩ := h
  refine ⟨m >>= fun x => .ok (g x), fun δ κ => by show A δ _ = _; rw [e1, R.bind_assoc]; rfl, fun ρ r => ?_⟩
  rw [ev]
  refine (e2 ρ r).bind fun v x p => ?_
  rw [R.chk_t (by rw [p.d]; exact hl v)]
  exact .ok (.mk' (by rw [p.d, hg]) p.s)
section row
variable {A : (δ : Type) → (List α → R δ) → R δ} {B : (δ : Type) → (List α → R δ) → R δ} {I J : (δ : Type) → (Int → R δ) → R δ}
theorem atR_ref {x y : V3} {v : List α} {w : Int} (hx : Mp.items x.d = .ok (v.map ea)) (hu : Sub L x.t u) (q : EV L eI s' u' w y) : RefR (EV L ea u u) (atR v w) (intOf y.d >>= fun i => Mp.items x.d >>= fun xs => orBad (atI xs i) >>= fun z => .ok (.new z x.t)) := by
  rw [q.d, hx]
  show RefR _ _ (orBad (atI (v.map ea) w) >>= _)
  rw [atI_map]
  unfold atR
  cases atI v w with
  | none => trivial
  | some z => exact .ok (.mk' rfl hu)
theorem EC.ixL (h : EC Φ a L (eL ea) s u A) (h' : EC Φ b L eI s' u' I) : EC Φ (.ix a b) L ea u u (fun δ κ => A δ fun x => I δ fun y => atR x y >>= κ) :=
  EC.map2 (f := .ix) (dg := fun x y => intOf y.d >>= fun i => Mp.items x.d >>= fun xs => orBad (atI xs i) >>= fun z => .ok (.new z x.t)) (fun ρ => rfl) h h' fun v w x y p q => atR_ref (by rw [p.d]; rfl) p.u q
theorem EC.ixT (h : EC Φ a L (eT ea) s u A) (h' : EC Φ b L eI s' u' I) : EC Φ (.ix a b) L ea u u (fun δ κ => A δ fun x => I δ fun y => atR x y >>= κ) :=
  EC.map2 (f := .ix) (dg := fun x y => intOf y.d >>= fun i => Mp.items x.d >>= fun xs => orBad (atI xs i) >>= fun z => .ok (.new z x.t)) (fun ρ => rfl) h h' fun v w x y p q => atR_ref (by rw [p.d]; rfl) p.u q
theorem EC.lenL (h : EC Φ a L (eL ea) s u A) : EC Φ (.bf .len (.cons a .nil)) L eI [] [] (fun δ κ => A δ fun x => κ (x.length : Int)) := by
  obtain ⟨m, e1, e2⟩ := h
  refine ⟨m >>= fun x => .ok (x.length : Int), fun δ κ => by show A δ _ = _; rw [e1, R.bind_assoc]; rfl, fun ρ r => ?_⟩
  rw [ev, evs, R.bind_assoc]
  refine (e2 ρ r).bind fun v x p => ?_
  rw [evs, R.bind_ok, R.bind_ok, p.d]
  show RefR _ _ (R.ok (V3.new (.int ((v.map ea).length : Int)) (x.t ++ [])))
  rw [List.length_map]
  exact .ok (.atom rfl rfl)
theorem EC.lenT (h : EC Φ a L (eT ea) s u A) : EC Φ (.bf .len (.cons a .nil)) L eI [] [] (fun δ κ => A δ fun x => κ (x.length : Int)) := by
  obtain ⟨m, e1, e2⟩ := h
  refine ⟨m >>= fun x => .ok (x.length : Int), fun δ κ => by show A δ _ = _; rw [e1, R.bind_assoc]; rfl, fun ρ r => ?_⟩
  rw [ev, evs, R.bind_assoc]
  refine (e2 ρ r).bind fun v x p => ?_
  rw [evs, R.bind_ok, R.bind_ok, p.d]
  show RefR _ _ (R.ok (V3.new (.int ((v.map ea).length : Int)) (x.t ++ [])))
  rw [List.length_map]
  exact .ok (.atom rfl rfl)
theorem EC.catL (h : EC Φ a L (eL ea) s u A) (h' : EC Φ b L (eL ea) s' u' B) : EC Φ (.bin .add a b) L (eL ea) (u ++ u') (u ++ u') (fun δ κ => A δ fun x => B δ fun y => catR x y >>= κ) :=
  EC.map2 (f := .bin .add) (dg := fun x y => bop .add x.d y.d >>= fun z => .ok (.new z (x.t ++ y.t))) (fun ρ => rfl) h h' fun v w x y p q => by
    rw [p.d, q.d]
    show RefR _ (R.chk (v.length + w.length ≤ szl) (.ok (v ++ w))) ((R.chk ((v.map ea).length + (w.map ea).length ≤ szl) (.ok (D.lst (v.map ea ++ w.map ea)))) >>= fun z => .ok (V3.new z (x.t ++ y.t)))
    rw [R.chk_bind, ← List.map_append]
    exact .chk (fun c => by rw [List.length_map, List.length_map]; exact c) fun _ => .ok (EV.mk' rfl (p.u.app q.u))
theorem EC.catT (h : EC Φ a L (eT ea) s u A) (h' : EC Φ b L (eT ea) s' u' B) : EC Φ (.bin .add a b) L (eT ea) (u ++ u') (u ++ u') (fun δ κ => A δ fun x => B δ fun y => catR x y >>= κ) :=
  EC.map2 (f := .bin .add) (dg := fun x y => bop .add x.d y.d >>= fun z => .ok (.new z (x.t ++ y.t))) (fun ρ => rfl) h h' fun v w x y p q => by
    rw [p.d, q.d]
    show RefR _ (R.chk (v.length + w.length ≤ szl) (.ok (v ++ w))) ((R.chk ((v.map ea).length + (w.map ea).length ≤ szl) (.ok (D.tup (v.map ea ++ w.map ea)))) >>= fun z => .ok (V3.new z (x.t ++ y.t)))
    rw [R.chk_bind, ← List.map_append]
    exact .chk (fun c => by rw [List.length_map, List.length_map]; exact c) fun _ => .ok (EV.mk' rfl (p.u.app q.u))
def isCN : M → Bool
  | .con .non => true
  | _ => false
theorem part_int {m : M} (h : isCN m = false) (i : Int) : part m (.int i) = .ok (some i) := by
  unfold part
  split
  · cases h
  · rename_i e; cases e; rfl
  · rename_i h2; exact absurd rfl (h2 i)
/-- slices: what of a list or a tuple -/
theorem EC.slg {ed : List α → D} (hd : (∀ v, ed v = .lst (v.map ea)) ∨ ∀ v, ed v = .tup (v.map ea)) {lo hi : M} (h : EC Φ a L ed s u A) (hlo : isCN lo = false) (hhi : isCN hi = false) (h' : EC Φ lo L eI s' u' I) (h'' : EC Φ hi L eI s'' u'' J) :
    EC Φ (.sl a lo hi) L ed u u (fun δ κ => A δ fun x => I δ fun i => J δ fun j => κ (cut x (some i) (some j))) := by
  obtain ⟨m, e1, e2⟩ := h
  obtain ⟨m', e1', e2'⟩ := h'
  obtain ⟨m'', e1'', e2''⟩ := h''
  refine ⟨m >>= fun x => m' >>= fun i => m'' >>= fun j => .ok (cut x (some i) (some j)), fun δ κ => ?_, fun ρ r => ?_⟩
  · show A δ _ = _
    rw [e1, R.bind_assoc]
    congr 1
    funext x
    rw [e1', R.bind_assoc]
    congr 1
    funext i
    rw [e1'', R.bind_assoc]
    rfl
  · rw [ev]
    refine (e2 ρ r).bind fun v x p => (e2' ρ r).bind fun i y q => (e2'' ρ r).bind fun j z q' => ?_
    rw [q.d, q'.d, part_int hlo, part_int hhi, R.bind_ok, R.bind_ok, p.d]
    rcases hd with hd | hd
    · rw [hd]
      exact .ok (.mk' (by rw [hd, cut_map]) p.u)
    · rw [hd]
      exact .ok (.mk' (by rw [hd, cut_map]) p.u)
theorem EC.slg1 {ed : List α → D} (hd : (∀ v, ed v = .lst (v.map ea)) ∨ ∀ v, ed v = .tup (v.map ea)) {lo : M} (h : EC Φ a L ed s u A) (hlo : isCN lo = false) (h' : EC Φ lo L eI s' u' I) :
    EC Φ (.sl a lo (.con .non)) L ed u u (fun δ κ => A δ fun x => I δ fun i => κ (cut x (some i) none)) := by
  obtain ⟨m, e1, e2⟩ := h
  obtain ⟨m', e1', e2'⟩ := h'
  refine ⟨m >>= fun x => m' >>= fun i => .ok (cut x (some i) none), fun δ κ => ?_, fun ρ r => ?_⟩
  · show A δ _ = _
    rw [e1, R.bind_assoc]
    congr 1
    funext x
    rw [e1', R.bind_assoc]
    rfl
  · rw [ev]
    refine (e2 ρ r).bind fun v x p => (e2' ρ r).bind fun i y q => ?_
    rw [q.d, part_int hlo, ev, R.bind_ok, R.bind_ok, p.d]
    rcases hd with hd | hd
    · rw [hd]
      exact .ok (.mk' (by rw [hd, cut_map]) p.u)
    · rw [hd]
      exact .ok (.mk' (by rw [hd, cut_map]) p.u)
theorem EC.slg2 {ed : List α → D} (hd : (∀ v, ed v = .lst (v.map ea)) ∨ ∀ v, ed v = .tup (v.map ea)) {hi : M} (h : EC Φ a L ed s u A) (hhi : isCN hi = false) (h'' : EC Φ hi L eI s'' u'' J) :
    EC Φ (.sl a (.con .non) hi) L ed u u (fun δ κ => A δ fun x => J δ fun j => κ (cut x none (some j))) := by
  obtain ⟨m, e1, e2⟩ := h
  obtain ⟨m'', e1'', e2''⟩ := h''
  refine ⟨m >>= fun x => m'' >>= fun j => .ok (cut x none (some j)), fun δ κ => ?_, fun ρ r => ?_⟩
  · show A δ _ = _
    rw [e1, R.bind_assoc]
    congr 1
    funext x
    rw [e1'', R.bind_assoc]
    rfl
  · rw [ev]
    refine (e2 ρ r).bind fun v x p => ?_
    rw [ev, R.bind_ok]
    refine (e2'' ρ r).bind fun j z q' => ?_
    rw [q'.d, part_int hhi]
    show RefR _ _ (R.ok none >>= fun l => R.ok (some j) >>= fun h => _)
    rw [R.bind_ok, R.bind_ok, p.d]
    rcases hd with hd | hd
    · rw [hd]
      exact .ok (.mk' (by rw [hd, cut_map]) p.u)
    · rw [hd]
      exact .ok (.mk' (by rw [hd, cut_map]) p.u)
end row
/-- an item at a written place, of a tuple of known size -/
theorem EC.prj {i : Int} {g : α → β} (hg : ∀ v, (Mp.items (ea v) >>= fun xs => orBad (atI xs i)) = .ok (eb (g v))) (h : EC Φ a L ea s u A) : EC Φ (.ix a (.con (.int i))) L eb u u (fun δ κ => A δ fun x => κ (g x)) :=
  EC.map1p (f := fun a => .ix a (.con (.int i))) (dg := fun x => Mp.items x.d >>= fun xs => orBad (atI xs i) >>= fun z => .ok (.new z x.t)) (fun ρ => rfl) h fun v x p => by
    have := hg v
    rw [p.d, ← R.bind_assoc, this]
    exact ⟨_, rfl, .mk' rfl p.u⟩
theorem EC.prjn {i : Int} {g : α → β} (hg : ∀ v, (Mp.items (ea v) >>= fun xs => orBad (atI xs (-i))) = .ok (eb (g v))) (h : EC Φ a L ea s u A) : EC Φ (.ix a (.neg (.con (.int i)))) L eb u u (fun δ κ => A δ fun x => κ (g x)) :=
  EC.map1p (f := fun a => .ix a (.neg (.con (.int i)))) (dg := fun x => Mp.items x.d >>= fun xs => orBad (atI xs (-i)) >>= fun z => .ok (.new z x.t)) (fun ρ => rfl) h fun v x p => by
    have := hg v
    rw [p.d, ← R.bind_assoc, this]
    exact ⟨_, rfl, .mk' rfl p.u⟩
theorem EC.ixD {I : (δ : Type) → (Int → R δ) → R δ} (h : EC Φ a L ea s u A) (h' : EC Φ b L eI s' u' I) : EC Φ (.ix a b) L eD u u (fun δ κ => A δ fun x => I δ fun y => ixR (ea x) y >>= κ) :=
  EC.map2 (f := .ix) (dg := fun x y => intOf y.d >>= fun i => Mp.items x.d >>= fun xs => orBad (atI xs i) >>= fun z => .ok (.new z x.t)) (fun ρ => rfl) h h' fun v w x y p q => by
    rw [p.d, q.d]
    unfold ixR
    show RefR _ _ (Mp.items (ea v) >>= _)
    cases Mp.items (ea v) with
    | bad => trivial
    | exc c fs => rfl
    | ok xs =>
      show RefR _ (orBad (atI xs w)) (orBad (atI xs w) >>= _)
      cases atI xs w with
      | none => trivial
      | some z => exact .ok (.mk' rfl p.u)
theorem EC.isi {ts : List Ty} {g : α → Bool} (hg : ∀ v, ts.any (isTy (ea v)) = g v) (h : EC Φ a L ea s u A) : EC Φ (.isi a ts) L eB [] [] (fun δ κ => A δ fun x => κ (g x)) :=
  EC.map1p (f := fun a => .isi a ts) (dg := fun x => .ok (.at (.bl (ts.any (isTy x.d))))) (fun ρ => rfl) h fun v x p => ⟨_, rfl, by rw [p.d, hg]; rfl, Sub.nil, Sub.nil⟩
theorem EC.isi1 {t : Ty} {g : α → Bool} (hg : ∀ v, isTy (ea v) t = g v) (h : EC Φ a L ea s u A) : EC Φ (.isi1 a t) L eB [] [] (fun δ κ => A δ fun x => κ (g x)) :=
  EC.map1p (f := fun a => .isi1 a t) (dg := fun x => .ok (.at (.bl (isTy x.d t)))) (fun ρ => rfl) h fun v x p => ⟨_, rfl, by rw [p.d, hg]; rfl, Sub.nil, Sub.nil⟩
/-- built-in functions: of one, of two -/
theorem EC.bf1R {f : Bf} {g : α → R β} (hg : ∀ v, RefR (fun y d => d = eb y) (g v) (bf f [ea v])) (h : EC Φ a L ea s u A) : EC Φ (.bf f (.cons a .nil)) L eb u u (fun δ κ => A δ fun x => g x >>= κ) := by
  obtain ⟨m, e1, e2⟩ := h
  refine ⟨m >>= g, fun δ κ => by show A δ _ = _; rw [e1, R.bind_assoc], fun ρ r => ?_⟩
  rw [ev, evs, R.bind_assoc]
  refine (e2 ρ r).bind fun v x p => ?_
  rw [evs, R.bind_ok, R.bind_ok, p.d]
  have := (hg v).bind (f := R.ok) (g := fun z => .ok (.new z (x.t ++ []))) (Q := EV L eb u u) fun y d q => .ok (.mk' q (by rw [List.append_nil]; exact p.u))
  rwa [R.bind_id] at this
theorem EC.bf1 {f : Bf} {g : α → β} (hg : ∀ v, bf f [ea v] = .ok (eb (g v))) (h : EC Φ a L ea s u A) : EC Φ (.bf f (.cons a .nil)) L eb u u (fun δ κ => A δ fun x => κ (g x)) := by
  have := EC.bf1R (f := f) (g := fun x => .ok (g x)) (eb := eb) (fun v => by rw [hg]; exact .ok rfl) h
  exact this
theorem EC.atom (hb : ∀ v, atomic (ea v) = true) (h : EC Φ e L ea s u A) : EC Φ e L ea s u A := h
theorem EC.bf2R {f : Bf} {g : α → β → R γ} (hg : ∀ v w, RefR (fun y d => d = ec y) (g v w) (bf f [ea v, eb w])) (h : EC Φ a L ea s u A) (h' : EC Φ b L eb s' u' B) : EC Φ (.bf f (.cons a (.cons b .nil))) L ec (u ++ u') (u ++ u') (fun δ κ => A δ fun x => B δ fun y => g x y >>= κ) := by
  obtain ⟨m, e1, e2⟩ := h
  obtain ⟨m', e1', e2'⟩ := h'
  refine ⟨m >>= fun x => m' >>= fun y => g x y, fun δ κ => ?_, fun ρ r => ?_⟩
  · show A δ _ = _
    rw [e1, R.bind_assoc]
    congr 1
    funext x
    rw [e1', R.bind_assoc]
  · rw [ev, evs, R.bind_assoc]
    refine (e2 ρ r).bind fun v x p => ?_
    rw [evs, R.bind_assoc, R.bind_assoc]
    refine (e2' ρ r).bind fun w y q => ?_
    rw [evs, R.bind_ok, R.bind_ok, R.bind_ok, p.d, q.d]
    have := (hg v w).bind (f := R.ok) (g := fun z => .ok (.new z (x.t ++ (y.t ++ [])))) (Q := EV L ec (u ++ u') (u ++ u')) fun z d t => .ok (.mk' t (by rw [List.append_nil]; exact p.u.app q.u))
    rwa [R.bind_id] at this
theorem EC.bf2 {f : Bf} {g : α → β → γ} (hg : ∀ v w, bf f [ea v, eb w] = .ok (ec (g v w))) (h : EC Φ a L ea s u A) (h' : EC Φ b L eb s' u' B) : EC Φ (.bf f (.cons a (.cons b .nil))) L ec (u ++ u') (u ++ u') (fun δ κ => A δ fun x => B δ fun y => κ (g x y)) := by
  have := EC.bf2R (f := f) (g := fun x y => .ok (g x y)) (ec := ec) (fun v w => by rw [hg]; exact .ok rfl) h h'
  exact this
theorem EC.max2 {I J : (δ : Type) → (Int → R δ) → R δ} (h : EC Φ a L eI s u I) (h' : EC Φ b L eI s' u' J) : EC Φ (.bf .max (.cons a (.cons b .nil))) L eI (u ++ u') (u ++ u') (fun δ κ => I δ fun x => J δ fun y => κ (max x y)) := EC.bf2 (fun v w => by
  show R.ok (D.int (if w > v then w else v)) = .ok (.int (max v w))
  congr 2
  omega) h h'
theorem EC.min2 {I J : (δ : Type) → (Int → R δ) → R δ} (h : EC Φ a L eI s u I) (h' : EC Φ b L eI s' u' J) : EC Φ (.bf .min (.cons a (.cons b .nil))) L eI (u ++ u') (u ++ u') (fun δ κ => I δ fun x => J δ fun y => κ (min x y)) := EC.bf2 (fun v w => by
  show R.ok (D.int (if w < v then w else v)) = .ok (.int (min v w))
  congr 2
  omega) h h'
theorem EC.sumL {A : (δ : Type) → (List Int → R δ) → R δ} (h : EC Φ a L (eL eI) s u A) : EC Φ (.bf .sum (.cons a .nil)) L eI u u (fun δ κ => A δ fun x => κ x.sum) := EC.bf1 (fun v => by
  show (orBad (asInts (v.map D.int)) >>= _) = _
  rw [asInts_map]; rfl) h
theorem EC.sumT {A : (δ : Type) → (List Int → R δ) → R δ} (h : EC Φ a L (eT eI) s u A) : EC Φ (.bf .sum (.cons a .nil)) L eI u u (fun δ κ => A δ fun x => κ x.sum) := EC.bf1 (fun v => by
  show (orBad (asInts (v.map D.int)) >>= _) = _
  rw [asInts_map]; rfl) h
theorem EC.maxL {A : (δ : Type) → (List Int → R δ) → R δ} (h : EC Φ a L (eL eI) s u A) : EC Φ (.bf .max (.cons a .nil)) L eI u u (fun δ κ => A δ fun x => maxR x >>= κ) := EC.bf1R (fun v => by
  show RefR _ _ (orBad (asInts (v.map D.int)) >>= _)
  rw [asInts_map]
  show RefR _ (orBad (maxI v)) (orBad (maxI v) >>= _)
  cases maxI v with
  | none => trivial
  | some z => exact .ok rfl) h
theorem EC.minL {A : (δ : Type) → (List Int → R δ) → R δ} (h : EC Φ a L (eL eI) s u A) : EC Φ (.bf .min (.cons a .nil)) L eI u u (fun δ κ => A δ fun x => minR x >>= κ) := EC.bf1R (fun v => by
  show RefR _ _ (orBad (asInts (v.map D.int)) >>= _)
  rw [asInts_map]
  show RefR _ (orBad (minI v)) (orBad (minI v) >>= _)
  cases minI v with
  | none => trivial
  | some z => exact .ok rfl) h
/-! ### calls -/
/-- a def's run refines m -/
def FnR (f : Fn) (ds : List D) (m : R α) (ea : α → D) (own : Bool) : Prop := RefR (fun v z => z.1 = ea v ∧ Ow own z.1 z.2) m (f ds)
theorem EC.call {f : Nat} {ds : α → List D} {g : α → R β} {w : Bool} (h : EA Φ e L ds s u A) (hf : ∀ v, FnR (Φ f) (ds v) (g v) eb w) : EC Φ (.call f e) L eb s s (fun δ κ => A δ fun x => g x >>= κ) := by
  obtain ⟨m, e1, e2⟩ := h
  refine ⟨m >>= g, fun δ κ => by show A δ _ = _; rw [e1, R.bind_assoc], fun ρ r => ?_⟩
  rw [ev]
  refine (e2 ρ r).bind fun v x p => ?_
  have := (hf v).bind (f := R.ok) (g := fun z => .ok (.new z.1 x.2.1)) (Q := EV L eb s s) fun y d q => .ok (.mk' q.1 p.s)
  rw [R.bind_id] at this
  rw [p.d]
  exact this
/-! ### what a for goes through -/
def IT (Φ : Nat → Fn) (e : M) (L : Sl) (ea : α → D) (s u : List Nat) (C : (β : Type) → (List α → R β) → R β) : Prop :=
  ∃ m : R (List α), (∀ (β : Type) (κ : List α → R β), C β κ = m >>= κ) ∧ ∀ ρ, Rel L ρ → RefR (fun xs v => Mp.items v.d = .ok (xs.map ea) ∧ Sub L v.s s ∧ Sub L v.t u) m (ev Φ e ρ)
section iter
variable {A : (δ : Type) → (List α → R δ) → R δ} {B : (δ : Type) → (List β → R δ) → R δ} {I J : (δ : Type) → (Int → R δ) → R δ}
theorem IT.l (h : EC Φ e L (eL ea) s u A) : IT Φ e L ea s u A := by
  obtain ⟨m, e1, e2⟩ := h
  exact ⟨m, e1, fun ρ r => (e2 ρ r).mono fun v x p => ⟨by rw [p.d]; rfl, p.s, p.u⟩⟩
theorem IT.t (h : EC Φ e L (eT ea) s u A) : IT Φ e L ea s u A := by
  obtain ⟨m, e1, e2⟩ := h
  exact ⟨m, e1, fun ρ r => (e2 ρ r).mono fun v x p => ⟨by rw [p.d]; rfl, p.s, p.u⟩⟩
theorem EC.rng1 (h : EC Φ a L eI s u I) : EC Φ (.rng1 a) L (eL eI) [] [] (fun δ κ => I δ fun x => rngR x >>= κ) :=
  EC.map1 (f := .rng1) (dg := fun x => intOf x.d >>= fun j => .chk (rngOk j) (.ok (.at (.lst (upto 0 j.toNat))))) (fun ρ => rfl) h fun v x p => by
    rw [p.d]
    show RefR _ (rngR v) (R.chk (rngOk v) (.ok (V3.at (.lst (upto 0 v.toNat)))))
    rw [upto_up]
    exact .chk id fun _ => .ok ⟨rfl, Sub.nil, Sub.nil⟩
theorem EC.rngc {n : Int} (hn : rngOk n) : EC Φ (.rng1 (.con (.int n))) L (eL eI) [] [] (fun _ κ => κ (upI 0 n.toNat)) :=
  ⟨.ok (upI 0 n.toNat), fun _ _ => rfl, fun ρ r => by
    show RefR _ _ (R.chk (rngOk n) (.ok (V3.at (.lst (upto 0 n.toNat)))))
    rw [upto_up, R.chk_t hn]
    exact .ok ⟨rfl, Sub.nil, Sub.nil⟩⟩
theorem EC.rng2 (h : EC Φ a L eI s u I) (h' : EC Φ b L eI s' u' J) : EC Φ (.rng2 a b) L (eL eI) [] [] (fun δ κ => I δ fun x => J δ fun y => rng2R x y >>= κ) :=
  EC.map2 (f := .rng2) (dg := fun x y => intOf x.d >>= fun i => intOf y.d >>= fun j => .chk (rngOk i ∧ rngOk j) (.ok (.at (.lst (upto i (j - i).toNat))))) (fun ρ => rfl) h h' fun v w x y p q => by
    rw [p.d, q.d]
    show RefR _ (rng2R v w) (R.chk (rngOk v ∧ rngOk w) (.ok (V3.at (.lst (upto v (w - v).toNat)))))
    rw [upto_up]
    exact .chk id fun _ => .ok ⟨rfl, Sub.nil, Sub.nil⟩
theorem EC.enum (h : IT Φ a L ea s u A) : EC Φ (.enum a) L (eL (eP2 eI ea)) s u (fun δ κ => A δ fun x => κ (enumI x)) := by
  obtain ⟨m, e1, e2⟩ := h
  refine ⟨m >>= fun x => .ok (enumI x), fun δ κ => by show A δ _ = _; rw [e1, R.bind_assoc]; rfl, fun ρ r => ?_⟩
  rw [ev]
  refine (e2 ρ r).bind fun v x p => ?_
  rw [p.1, R.bind_ok]
  exact .ok ⟨congrArg D.lst (enumD_map ea v), p.2.1, p.2.2⟩
theorem EC.zipL (h : EC Φ a L (eL ea) s u A) (h' : EC Φ b L (eL eb) s' u' B) : EC Φ (.zip a b) L (eL (eP2 ea eb)) (s ++ s') (u ++ u') (fun δ κ => A δ fun x => B δ fun y => κ (zipI x y)) :=
  EC.map2p (f := .zip) (dg := fun x y => match x.d, y.d with | .lst xs, .lst ys => .ok ⟨.lst (zipD xs ys), x.s ++ y.s, x.t ++ y.t⟩ | .tup xs, .tup ys => .ok ⟨.lst (zipD xs ys), x.s ++ y.s, x.t ++ y.t⟩ | _, _ => .bad) (fun ρ => rfl) h h' fun v w x y p q => by
    rw [p.d, q.d]
    exact ⟨_, rfl, congrArg D.lst (zipD_map ea eb v w), p.s.app q.s, p.u.app q.u⟩
theorem EC.zipT (h : EC Φ a L (eT ea) s u A) (h' : EC Φ b L (eT eb) s' u' B) : EC Φ (.zip a b) L (eL (eP2 ea eb)) (s ++ s') (u ++ u') (fun δ κ => A δ fun x => B δ fun y => κ (zipI x y)) :=
  EC.map2p (f := .zip) (dg := fun x y => match x.d, y.d with | .lst xs, .lst ys => .ok ⟨.lst (zipD xs ys), x.s ++ y.s, x.t ++ y.t⟩ | .tup xs, .tup ys => .ok ⟨.lst (zipD xs ys), x.s ++ y.s, x.t ++ y.t⟩ | _, _ => .bad) (fun ρ => rfl) h h' fun v w x y p q => by
    rw [p.d, q.d]
    exact ⟨_, rfl, congrArg D.lst (zipD_map ea eb v w), p.s.app q.s, p.u.app q.u⟩
theorem EC.rev (h : IT Φ a L ea s u A) : EC Φ (.rev a) L (eL ea) s u (fun δ κ => A δ fun x => κ x.reverse) := by
  obtain ⟨m, e1, e2⟩ := h
  refine ⟨m >>= fun x => .ok x.reverse, fun δ κ => by show A δ _ = _; rw [e1, R.bind_assoc]; rfl, fun ρ r => ?_⟩
  rw [ev]
  refine (e2 ρ r).bind fun v x p => ?_
  rw [p.1, R.bind_ok]
  exact .ok ⟨by rw [← List.map_reverse], p.2.1, p.2.2⟩
theorem EC.index {A : (δ : Type) → (List Int → R δ) → R δ} (h : EC Φ a L (eL eI) s u A) (h' : EC Φ b L eI s' u' I) : EC Φ (.index a b) L eI [] [] (fun δ κ => A δ fun x => I δ fun y => indexR x y >>= κ) :=
  EC.map2 (f := .index) (dg := fun x y => intOf y.d >>= fun i => lstOf x.d >>= fun xs => orBad (asInts xs) >>= fun ns => orBad (ns.findIdx? (· == i)) >>= fun j => .ok (.at (.int ((j : Nat) : Int)))) (fun ρ => rfl) h h' fun v w x y p q => by
    rw [p.d, q.d]
    show RefR _ (indexR v w) (orBad (asInts (v.map D.int)) >>= _)
    rw [asInts_map]
    show RefR _ (indexR v w) (orBad (v.findIdx? (· == w)) >>= _)
    unfold indexR
    cases v.findIdx? (· == w) with
    | none => trivial
    | some j => exact .ok ⟨rfl, Sub.nil, Sub.nil⟩
end iter
/-! ### targets -/
def Sl.wipe (L : Sl) : List Nat → Sl
  | [] => L
  | v :: vs => (Sl.wipe L vs).set v none
theorem Rel.wipe {ρ : Env} : ∀ (vs : List Nat) {L : Sl}, Rel L ρ → Rel (L.wipe vs) (ρ.wipe vs)
  | [], _, h => h
  | v :: vs, _, h => (Rel.wipe vs h).junk
/-- binding a target: what is known then -/
structure TB (t : Tg) (L : Sl) (own : List Nat) (ea : α → D) (L1 : α → Sl) : Prop where
  go : ∀ (v : α) (ρ : Env), Rel L ρ → ∃ ρ1, t.set (ea v) ρ = .ok ρ1 ∧ Rel (L1 v) ρ1
  at_ : ∀ (v : α) (i : Nat), i ∉ own → (L1 v)[i]? = L[i]?
theorem set_other {i j : Nat} {x : Option (D × Bool)} (h : j ≠ i) : (L.set i x)[j]? = L[j]? := by
  rw [List.getElem?_set, if_neg (Ne.symm h)]
theorem Rel.setF {ρ : Env} (h : Rel L ρ) {i : Nat} {d : D} : Rel (L.set i (some (d, false))) (ρ.set i (sv d)) := h.set (Ow.F (Nat.zero_le 1))
theorem TB.name {i : Nat} : TB (.name i) L [i] ea (fun v => L.set i (some (ea v, false))) where
  go := fun v ρ r => ⟨_, rfl, r.setF⟩
  at_ := fun v j h => set_other fun e => h (List.mem_singleton.mpr e)
theorem TB.names2 {i j : Nat} : TB (.names [i, j]) L [i, j] (eP2 ea eb) (fun v => (L.set i (some (ea v.1, false))).set j (some (eb v.2, false))) where
  go := fun v ρ r => ⟨_, rfl, r.setF.setF⟩
  at_ := fun v k h => by
    rw [List.mem_cons, List.mem_singleton, not_or] at h
    rw [set_other h.2, set_other h.1]
theorem TB.names3 {i j k : Nat} : TB (.names [i, j, k]) L [i, j, k] (eP3 ea eb ec) (fun v => ((L.set i (some (ea v.1, false))).set j (some (eb v.2.1, false))).set k (some (ec v.2.2, false))) where
  go := fun v ρ r => ⟨_, rfl, r.setF.setF.setF⟩
  at_ := fun v l h => by
    rw [List.mem_cons, List.mem_cons, List.mem_singleton, not_or, not_or] at h
    rw [set_other h.2.2, set_other h.2.1, set_other h.1]
/-! ### comprehensions -/
def Junk (L : Sl) : List Nat → Prop
  | [] => True
  | i :: is => L[i]? = some none ∧ Junk L is
theorem Junk.at_ : ∀ {is : List Nat} {i : Nat}, Junk L is → i ∈ is → L[i]? = some none
  | j :: js, i, h, m => by
    rcases List.mem_cons.mp m with e | e
    · subst e; exact h.1
    · exact Junk.at_ h.2 e
theorem Sl.wipe_at : ∀ (vs : List Nat) (L : Sl) (i : Nat), i ∉ vs → (L.wipe vs)[i]? = L[i]?
  | [], _, _, _ => rfl
  | v :: vs, L, i, h => by
    show ((Sl.wipe L vs).set v none)[i]? = _
    rw [set_other fun e => h (List.mem_cons.mpr (.inl e)), Sl.wipe_at vs L i fun m => h (List.mem_cons_of_mem _ m)]
theorem Sl.frz_own : ∀ (s : List Nat) (L : Sl) (i : Nat) (d : D), L[i]? = some (some (d, true)) → i ∉ s → (L.frz s)[i]? = some (some (d, true))
  | [], _, _, _, h, _ => h
  | j :: js, L, i, d, h, n => Sl.frz_own js (L.modify j fz) i d (by
      rw [List.getElem?_modify, h]; simp [show ¬ j = i from fun e => n (List.mem_cons.mpr (.inl e.symm))]) fun m => n (List.mem_cons_of_mem _ m)
theorem mapR_ref {f : α → R β} {g : D → R V3} (h : ∀ v, RefR (fun y w => w.d = eb y ∧ Sub L w.s u) (f v) (g (ea v))) : ∀ xs : List α, RefR (fun ys p => p.1 = ys.map eb ∧ Sub L p.2 u) (mapR f xs) (lcGo g (xs.map ea))
  | [] => .ok ⟨rfl, Sub.nil⟩
  | x :: xs => by
    show RefR _ (f x >>= _) (g (ea x) >>= _)
    refine (h x).bind fun y w p => (mapR_ref h xs).bind fun ys q r => .ok ⟨?_, ?_⟩
    · show w.d :: q.1 = _
      rw [p.1, r.1]
      rfl
    · intro i hi d e
      rcases List.mem_append.mp hi with m | m
      · exact p.2 i m d e
      · exact r.2 i m d e
theorem mapIfR_ref {c : α → R Bool} {f : α → R β} {k : D → R Bool} {g : D → R V3} (hc : ∀ v, RefR (fun a b => b = a) (c v) (k (ea v))) (h : ∀ v, RefR (fun y w => w.d = eb y ∧ Sub L w.s u) (f v) (g (ea v))) : ∀ xs : List α, RefR (fun ys p => p.1 = ys.map eb ∧ Sub L p.2 u) (mapIfR c f xs) (lcGoIf k g (xs.map ea))
  | [] => .ok ⟨rfl, Sub.nil⟩
  | x :: xs => by
    show RefR _ (c x >>= _) (k (ea x) >>= _)
    refine (hc x).bind fun b b' eb' => ?_
    subst eb'
    cases b' with
    | false => exact mapIfR_ref hc h xs
    | true =>
      show RefR _ (f x >>= _) (g (ea x) >>= _)
      refine (h x).bind fun y w p => (mapIfR_ref hc h xs).bind fun ys q r => .ok ⟨?_, ?_⟩
      · show w.d :: q.1 = _
        rw [p.1, r.1]
        rfl
      · intro i hi d e
        rcases List.mem_append.mp hi with m | m
        · exact p.2 i m d e
        · exact r.2 i m d e
section lc
variable {A : (δ : Type) → (List α → R δ) → R δ} {it : M} {t : Tg} {own : List Nat} {L1 : α → Sl} {B : α → (δ : Type) → (β → R δ) → R δ} {T : α → (δ : Type) → (Bool → R δ) → R δ}
theorem lc_item (hj : Junk L own) (hb : TB t ((L.frz u).wipe own) own ea L1) (he : ∀ v, EC Φ e (L1 v) eb [] u'' (B v)) {ρ : Env} {U : List Nat} (r : Rel L ρ) (hu : Sub L U u) (v : α) :
    RefR (fun y w => w.d = eb y ∧ Sub L w.s u) (B v β .ok) (t.set (ea v) ((ρ.frz U).wipe own) >>= fun ρ1 => ev Φ e ρ1) := by
  obtain ⟨m, e1, e2⟩ := he v
  obtain ⟨ρ1, q1, q2⟩ := hb.go v _ ((r.frz hu).wipe own)
  rw [e1, R.bind_id, q1, R.bind_ok]
  refine (e2 ρ1 q2).mono fun y w p => ⟨p.d, fun i hi d e => ?_⟩
  by_cases hm : i ∈ u
  · exact hm
  · have n : i ∉ own := fun m => by
      rw [hj.at_ m] at e
      cases e
    have := p.s i hi d (by rw [hb.at_ v i n, Sl.wipe_at own _ i n]; exact Sl.frz_own u L i d e hm)
    cases this
theorem lc_cond (hb : TB t ((L.frz u).wipe own) own ea L1) (he : ∀ v, ET Φ e (L1 v) (T v)) {ρ : Env} {U : List Nat} (r : Rel L ρ) (hu : Sub L U u) (v : α) :
    RefR (fun a b => b = a) (T v Bool .ok) (t.set (ea v) ((ρ.frz U).wipe own) >>= fun ρ1 => ev Φ e ρ1 >>= fun x => truth x.d) := by
  obtain ⟨m, e1, e2⟩ := he v
  obtain ⟨ρ1, q1, q2⟩ := hb.go v _ ((r.frz hu).wipe own)
  rw [e1, R.bind_id, q1, R.bind_ok]
  exact e2 ρ1 q2
theorem EC.lc (h : IT Φ it L ea s u A) (hj : Junk L own) (hb : TB t ((L.frz u).wipe own) own ea L1) (he : ∀ v, EC Φ e (L1 v) eb s'' u'' (B v)) (hs : s'' = []) :
    EC Φ (.lc e t own it) L (eL eb) (u ++ u) (u ++ u) (fun δ κ => A δ fun xs => lcR (fun v => B v β .ok) xs >>= κ) := by
  subst hs
  obtain ⟨m, e1, e2⟩ := h
  refine ⟨m >>= fun xs => lcR (fun v => B v β .ok) xs, fun δ κ => by show A δ _ = _; rw [e1, R.bind_assoc], fun ρ r => ?_⟩
  rw [ev]
  refine (e2 ρ r).bind fun xs v p => ?_
  rw [p.1, R.bind_ok]
  refine (mapR_ref (fun x => lc_item hj hb he r p.2.2 x) xs).bind fun ys q w => ?_
  refine .chk (fun c => by rw [w.1, List.length_map]; exact c) fun _ => .ok (.mk' (by rw [w.1]) (p.2.2.app w.2))
theorem EC.lcIf (h : IT Φ it L ea s u A) (hj : Junk L own) (hb : TB t ((L.frz u).wipe own) own ea L1) (hc : ∀ v, ET Φ c (L1 v) (T v)) (he : ∀ v, EC Φ e (L1 v) eb s'' u'' (B v)) (hs : s'' = []) :
    EC Φ (.lcIf e t own it c) L (eL eb) (u ++ u) (u ++ u) (fun δ κ => A δ fun xs => lcIfR (fun v => T v Bool .ok) (fun v => B v β .ok) xs >>= κ) := by
  subst hs
  obtain ⟨m, e1, e2⟩ := h
  refine ⟨m >>= fun xs => lcIfR (fun v => T v Bool .ok) (fun v => B v β .ok) xs, fun δ κ => by show A δ _ = _; rw [e1, R.bind_assoc], fun ρ r => ?_⟩
  rw [ev]
  refine (e2 ρ r).bind fun xs v p => ?_
  rw [p.1, R.bind_ok]
  refine (mapIfR_ref (fun x => lc_cond hb hc r p.2.2 x) (fun x => lc_item hj hb he r p.2.2 x) xs).bind fun ys q w => ?_
  refine .chk (fun c => by rw [w.1, List.length_map]; exact c) fun _ => .ok (.mk' (by rw [w.1]) (p.2.2.app w.2))
end lc
end
end Mp

set_option Elab.async false
set_option linter.all false
set_option maxRecDepth 100000
/-! Ts4: shallow code: statements, loops, defs. -/
namespace Mp
open PySem (Str)
/-! ### values that may be owned -/
def EO (Φ : Nat → Fn) (e : M) (L : Sl) {α : Type} (ea : α → D) (s : List Nat) (own : Bool) (C : (β : Type) → (α → R β) → R β) : Prop :=
  ∃ m : R α, (∀ (β : Type) (κ : α → R β), C β κ = m >>= κ) ∧ ∀ ρ, Rel L ρ → RefR (fun v (x : V3 × Nat) => x.1.d = ea v ∧ Sub L x.1.s s ∧ Ow own x.1.d x.2) m (evO Φ e ρ)
theorem ev_evO (Φ : Nat → Fn) (e : M) (ρ : Env) : ev Φ e ρ = evO Φ e ρ >>= fun p => .ok p.1 := by
  have g : ∀ (m : R V3) (f : V3 → Nat), m = (m >>= fun x => R.ok (x, f x)) >>= fun p => .ok p.1 := fun m f => by
    rw [R.bind_assoc]
    exact (R.bind_id m).symm
  cases e with
  | call f es =>
    rw [ev, evO, R.bind_assoc]
    congr 1
    funext xs
    rw [R.bind_assoc]
    rfl
  | bin o a b => exact g _ _
  | lst es => exact g _ _
  | lc e t own it => exact g _ _
  | lcIf e t own it c => exact g _ _
  | _ => exact g _ _
section
variable {Φ : Nat → Fn} {L : Sl} {α β γ : Type} {e a b c : M} {ea : α → D} {eb : β → D} {s u s' u' s'' u'' : List Nat} {A : (δ : Type) → (α → R δ) → R δ} {B : (δ : Type) → (β → R δ) → R δ}
theorem evO_le (he : ∀ f es, e ≠ .call f es) {ρ : Env} {p : V3 × Nat} (h : evO Φ e ρ = .ok p) : p.2 ≤ 1 := by
  have g : ∀ {m : R V3} {f : V3 → Nat}, (∀ x, f x ≤ 1) → (m >>= fun x => R.ok (x, f x)) = .ok p → p.2 ≤ 1 := fun {m f} hf h => by
    cases m with
    | bad => cases h
    | exc c fs => cases h
    | ok x => cases h; exact hf x
  cases e with
  | call f es => exact absurd rfl (he f es)
  | bin o a b => exact g (f := fun x => isL x.d) (fun x => by show isL x.d ≤ 1; unfold isL; split <;> omega) h
  | lst es => exact g (f := fun _ => 1) (fun _ => Nat.le_refl _) h
  | lc e t own it => exact g (f := fun _ => 1) (fun _ => Nat.le_refl _) h
  | lcIf e t own it c => exact g (f := fun _ => 1) (fun _ => Nat.le_refl _) h
  | _ => exact g (f := fun _ => 0) (fun _ => Nat.zero_le _) h
theorem EO.of (h : EC Φ e L ea s u A) (he : ∀ f es, e ≠ .call f es := by intro _ _ h; cases h) : EO Φ e L ea s false A := by
  obtain ⟨m, e1, e2⟩ := h
  refine ⟨m, e1, fun ρ r => ?_⟩
  have := e2 ρ r
  rw [ev_evO] at this
  cases hv : evO Φ e ρ with
  | bad =>
    rw [hv] at this
    cases m with
    | bad => trivial
    | ok x => obtain ⟨_, q, _⟩ := this; cases q
    | exc c fs => cases this
  | exc c fs =>
    rw [hv] at this
    cases m with
    | bad => trivial
    | ok x => obtain ⟨_, q, _⟩ := this; cases q
    | exc c' fs' =>
      have t : (R.exc c fs : R V3) = R.exc c' fs' := this
      cases t
      rfl
  | ok p =>
    rw [hv] at this
    cases m with
    | bad => trivial
    | ok x => obtain ⟨_, q, w⟩ := this; cases q; exact ⟨p, rfl, w.d, w.s, Ow.F (evO_le he hv)⟩
    | exc c fs => cases this
theorem EO.of1 {k : V3 → Nat} (hk : ∀ ρ, evO Φ e ρ = ev Φ e ρ >>= fun x => .ok (x, k x)) (h1 : ∀ v x, x.d = ea v → k x = 1) (h : EC Φ e L ea s u A) : EO Φ e L ea s true A := by
  obtain ⟨m, e1, e2⟩ := h
  refine ⟨m, e1, fun ρ r => ?_⟩
  rw [hk]
  have := (e2 ρ r).bind (f := R.ok) (g := fun x => .ok (x, k x)) (Q := fun v (x : V3 × Nat) => x.1.d = ea v ∧ Sub L x.1.s s ∧ Ow true x.1.d x.2) fun v x p => .ok ⟨p.d, p.s, by rw [h1 v x p.d]; exact Ow.one⟩
  rwa [R.bind_id] at this
/-- a value that is no list is owned as a list is -/
theorem EO.con {d : D} (hd : isL d = 0) (h : EC Φ (.con d) L ea s u A) : EO Φ (.con d) L ea s true A := by
  obtain ⟨m, e1, e2⟩ := h
  refine ⟨m, e1, fun ρ r => ?_⟩
  have := e2 ρ r
  cases m with
  | bad => trivial
  | ok x =>
    obtain ⟨y, q, w⟩ := this
    cases q
    exact ⟨_, rfl, w.d, w.s, Ow.atm hd⟩
  | exc c fs => cases this
theorem EO.lst {es : M} (h : EC Φ (.lst es) L ea s u A) : EO Φ (.lst es) L ea s true A := EO.of1 (k := fun _ => 1) (fun ρ => rfl) (fun _ _ _ => rfl) h
theorem EO.lc {it : M} {t : Tg} {own : List Nat} (h : EC Φ (.lc e t own it) L ea s u A) : EO Φ (.lc e t own it) L ea s true A := EO.of1 (k := fun _ => 1) (fun ρ => rfl) (fun _ _ _ => rfl) h
theorem EO.lcIf {it : M} {t : Tg} {own : List Nat} (h : EC Φ (.lcIf e t own it c) L ea s u A) : EO Φ (.lcIf e t own it c) L ea s true A := EO.of1 (k := fun _ => 1) (fun ρ => rfl) (fun _ _ _ => rfl) h
theorem EO.bin {o : BOp} {A : (δ : Type) → (List α → R δ) → R δ} (h : EC Φ (.bin o a b) L (eL ea) s u A) : EO Φ (.bin o a b) L (eL ea) s true A := EO.of1 (k := fun x => isL x.d) (fun ρ => rfl) (fun v x e => by rw [e]; rfl) h
theorem EO.call {f : Nat} {ds : α → List D} {g : α → R β} {w : Bool} (h : EA Φ e L ds s u A) (hf : ∀ v, FnR (Φ f) (ds v) (g v) eb w) : EO Φ (.call f e) L eb s w (fun δ κ => A δ fun x => g x >>= κ) := by
  obtain ⟨m, e1, e2⟩ := h
  refine ⟨m >>= g, fun δ κ => by show A δ _ = _; rw [e1, R.bind_assoc], fun ρ r => ?_⟩
  rw [evO]
  refine (e2 ρ r).bind fun v x p => ?_
  have := (hf v).bind (f := R.ok) (g := fun z => .ok (V3.new z.1 x.2.1, z.2)) (Q := fun v (x : V3 × Nat) => x.1.d = eb v ∧ Sub L x.1.s s ∧ Ow w x.1.d x.2) fun y d q => ⟨(V3.new d.1 x.2.1, d.2), rfl, q.1, p.s.dp, q.2⟩
  rw [R.bind_id] at this
  rw [p.d]
  exact this
/-- the same value, said otherwise, owned as before -/
theorem EO.as {v : α → β} {w : Bool} (h : EO Φ e L ea s w A) (hv : ∀ x, ea x = eb (v x)) : EO Φ e L eb s w (fun δ κ => A δ fun x => κ (v x)) := by
  obtain ⟨m, e1, e2⟩ := h
  refine ⟨m >>= fun x => .ok (v x), fun δ κ => by show A δ _ = _; rw [e1, R.bind_assoc]; rfl, fun ρ r => ?_⟩
  have := (e2 ρ r).bind (f := fun x => .ok (v x)) (g := R.ok) (Q := fun y (x : V3 × Nat) => x.1.d = eb y ∧ Sub L x.1.s s ∧ Ow w x.1.d x.2) fun x y p => .ok ⟨p.1.trans (hv x), p.2.1, p.2.2⟩
  rwa [R.bind_id] at this
theorem EO.un {un : α → Option β} {w : Bool} (h : EO Φ e L ea s w A) (hv : ∀ x y, un x = some y → ea x = eb y) : EO Φ e L eb s w (fun δ κ => A δ fun x => orBad (un x) >>= κ) := by
  obtain ⟨m, e1, e2⟩ := h
  refine ⟨m >>= fun x => orBad (un x), fun δ κ => by show A δ _ = _; rw [e1, R.bind_assoc], fun ρ r => ?_⟩
  have := (e2 ρ r).bind (f := fun x => orBad (un x)) (g := R.ok) (Q := fun y (x : V3 × Nat) => x.1.d = eb y ∧ Sub L x.1.s s ∧ Ow w x.1.d x.2) fun x y p => by
    cases q : un x with
    | none => trivial
    | some z => exact .ok ⟨p.1.trans (hv x z q), p.2.1, p.2.2⟩
  rwa [R.bind_id] at this
end
/-! ### statements -/
/-- how a piece of shallow code ends -/
inductive LO (σ α : Type) where
  | nx (s : σ)
  | rt (v : α)
inductive LK (σ : Type) where
  | nx (s : σ)
  | bk (s : σ)
inductive LB (σ α : Type) where
  | nx (s : σ)
  | bk (s : σ)
  | rt (v : α)
def LO.k {σ α β : Type} (r : LO σ α) (κ : σ → R β) (f : α → R β) : R β := match r with
  | .nx s => κ s
  | .rt v => f v
@[simp] theorem LO.k_nx {σ α β : Type} (s : σ) (κ : σ → R β) (f : α → R β) : (LO.nx s).k κ f = κ s := rfl
@[simp] theorem LO.k_rt {σ α β : Type} (v : α) (κ : σ → R β) (f : α → R β) : (LO.rt v).k κ f = f v := rfl
def optK {α β : Type} (o : Option α) (a : R β) (b : α → R β) : R β := match o with
  | none => a
  | some v => b v
@[simp] theorem optK_none {α β : Type} (a : R β) (b : α → R β) : optK none a b = a := rfl
@[simp] theorem optK_some {α β : Type} (v : α) (a : R β) (b : α → R β) : optK (some v) a b = b v := rfl
def forR {α σ : Type} (f : α → σ → R σ) : List α → σ → R σ
  | [], s => .ok s
  | x :: xs, s => f x s >>= fun s' => forR f xs s'
def forO {α σ γ : Type} (f : α → σ → R (LO σ γ)) : List α → σ → R (LO σ γ)
  | [], s => .ok (.nx s)
  | x :: xs, s => f x s >>= fun r => match r with
    | .nx s' => forO f xs s'
    | .rt v => .ok (.rt v)
def forK {α σ : Type} (f : α → σ → R (LK σ)) : List α → σ → R σ
  | [], s => .ok s
  | x :: xs, s => f x s >>= fun r => match r with
    | .nx s' => forK f xs s'
    | .bk s' => .ok s'
def forB {α σ γ : Type} (f : α → σ → R (LB σ γ)) : List α → σ → R (LO σ γ)
  | [], s => .ok (.nx s)
  | x :: xs, s => f x s >>= fun r => match r with
    | .nx s' => forB f xs s'
    | .bk s' => .ok (.nx s')
    | .rt v => .ok (.rt v)
def whlR {σ : Type} (c : σ → R Bool) (f : σ → R σ) : Nat → σ → R σ
  | 0, _ => .bad
  | n + 1, s => c s >>= fun b => if b then f s >>= fun s' => whlR c f n s' else .ok s
def whlO {σ γ : Type} (c : σ → R Bool) (f : σ → R (LO σ γ)) : Nat → σ → R (LO σ γ)
  | 0, _ => .bad
  | n + 1, s => c s >>= fun b => if b then f s >>= fun r => (match r with
    | .nx s' => whlO c f n s'
    | .rt v => .ok (.rt v)) else .ok (.nx s)
class GQ {β : Type} (Q : R β → Out → Prop) : Prop where
  bad : ∀ o, Q .bad o
  exc : ∀ c fs, Q (.exc c fs) (.ex c fs)
def exs (Φ : Nat → Fn) (fu : Nat) : List S → Env → Out
  | [], ρ => .nx ρ
  | s :: ss, ρ => (ex Φ fu s ρ).then (exs Φ fu ss)
def KN (Φ : Nat → Fn) (fu : Nat) {β : Type} (Q : R β → Out → Prop) (L : Sl) (m : R β) (ss : List S) : Prop := ∀ ρ, Rel L ρ → Q m (exs Φ fu ss ρ)
/-- Q takes a return -/
def RT {α β : Type} (Q : R β → Out → Prop) (ea : α → D) (own : Bool) (f : α → R β) : Prop := ∀ v k, Ow own (ea v) k → Q (f v) (.rt (ea v) k)
def QF {α : Type} (ea : α → D) (own : Bool) (m : R α) (o : Out) : Prop := match m with
  | .ok v => (∃ k, o = .rt (ea v) k ∧ Ow own (ea v) k) ∨ (∃ ρ, o = .nx ρ ∧ ea v = .non)
  | .exc c fs => o = .ex c fs
  | .bad => True
def QJ {σ : Type} (Lf : σ → Sl) (m : R σ) (o : Out) : Prop := match m with
  | .ok x => ∃ ρ, o = .nx ρ ∧ Rel (Lf x) ρ
  | .exc c fs => o = .ex c fs
  | .bad => True
def QJR {σ α : Type} (Lf : σ → Sl) (ea : α → D) (own : Bool) (m : R (LO σ α)) (o : Out) : Prop := match m with
  | .ok (.nx x) => ∃ ρ, o = .nx ρ ∧ Rel (Lf x) ρ
  | .ok (.rt v) => ∃ k, o = .rt (ea v) k ∧ Ow own (ea v) k
  | .exc c fs => o = .ex c fs
  | .bad => True
def QL {σ : Type} (Lf : σ → Sl) (m : R σ) (o : Out) : Prop := match m with
  | .ok x => ∃ ρ, (o = .nx ρ ∨ o = .ct ρ) ∧ Rel (Lf x) ρ
  | .exc c fs => o = .ex c fs
  | .bad => True
def QLO {σ α : Type} (Lf : σ → Sl) (ea : α → D) (own : Bool) (m : R (LO σ α)) (o : Out) : Prop := match m with
  | .ok (.nx x) => ∃ ρ, (o = .nx ρ ∨ o = .ct ρ) ∧ Rel (Lf x) ρ
  | .ok (.rt v) => ∃ k, o = .rt (ea v) k ∧ Ow own (ea v) k
  | .exc c fs => o = .ex c fs
  | .bad => True
def QLK {σ : Type} (Lf : σ → Sl) (m : R (LK σ)) (o : Out) : Prop := match m with
  | .ok (.nx x) => ∃ ρ, (o = .nx ρ ∨ o = .ct ρ) ∧ Rel (Lf x) ρ
  | .ok (.bk x) => ∃ ρ, o = .bk ρ ∧ Rel (Lf x) ρ
  | .exc c fs => o = .ex c fs
  | .bad => True
def QLB {σ α : Type} (Lf : σ → Sl) (ea : α → D) (own : Bool) (m : R (LB σ α)) (o : Out) : Prop := match m with
  | .ok (.nx x) => ∃ ρ, (o = .nx ρ ∨ o = .ct ρ) ∧ Rel (Lf x) ρ
  | .ok (.bk x) => ∃ ρ, o = .bk ρ ∧ Rel (Lf x) ρ
  | .ok (.rt v) => ∃ k, o = .rt (ea v) k ∧ Ow own (ea v) k
  | .exc c fs => o = .ex c fs
  | .bad => True
section
variable {α σ : Type} {ea : α → D} {own : Bool} {Lf : σ → Sl}
instance : GQ (QF ea own) := ⟨fun _ => trivial, fun _ _ => rfl⟩
instance : GQ (QJ Lf) := ⟨fun _ => trivial, fun _ _ => rfl⟩
instance : GQ (QJR Lf ea own) := ⟨fun _ => trivial, fun _ _ => rfl⟩
instance : GQ (QL Lf) := ⟨fun _ => trivial, fun _ _ => rfl⟩
instance : GQ (QLO Lf ea own) := ⟨fun _ => trivial, fun _ _ => rfl⟩
instance : GQ (QLK Lf) := ⟨fun _ => trivial, fun _ _ => rfl⟩
instance : GQ (QLB Lf ea own) := ⟨fun _ => trivial, fun _ _ => rfl⟩
theorem RT.f : RT (QF ea own) ea own .ok := fun v k h => .inl ⟨k, rfl, h⟩
theorem RT.jr : RT (QJR Lf ea own) ea own (fun v => .ok (.rt v)) := fun v k h => ⟨k, rfl, h⟩
theorem RT.lo : RT (QLO Lf ea own) ea own (fun v => .ok (.rt v)) := fun v k h => ⟨k, rfl, h⟩
theorem RT.lb : RT (QLB Lf ea own) ea own (fun v => .ok (.rt v)) := fun v k h => ⟨k, rfl, h⟩
/-- .. of what is owned, where nothing need be -/
theorem RT.weak {β : Type} {Q : R β → Out → Prop} {f : α → R β} (h : RT Q ea false f) : RT Q ea own f := fun v k q => h v k q.weak
end
section
variable {Φ : Nat → Fn} {fu : Nat} {L : Sl} {α β γ σ : Type} {Q : R β → Out → Prop} {e c : M} {ea : α → D} {ec : γ → D} {s u s' u' : List Nat} {A : (δ : Type) → (α → R δ) → R δ} {T : (δ : Type) → (Bool → R δ) → R δ} {m m' ma mb : R β} {ss : List S} {a b st : S} {own : Bool} {Lf : σ → Sl} {κ : α → R β}
theorem GQ.bind {γ δ : Type} [GQ Q] {P : γ → δ → Prop} {m : R γ} {n : R δ} {f : γ → R β} {g : δ → Out} (h : RefR P m n) (k : ∀ a b, P a b → Q (f a) (g b)) : Q (m >>= f) (n.out g) := by
  cases m with
  | bad => exact GQ.bad _
  | ok a =>
    obtain ⟨b, e, p⟩ := h
    subst e
    exact k a b p
  | exc c fs =>
    have e : n = .exc c fs := h
    subst e
    exact GQ.exc c fs
theorem then_assoc (o : Out) (f g : Env → Out) : (o.then f).then g = o.then fun ρ => (f ρ).then g := by cases o <;> rfl
theorem out_then {δ : Type} (n : R δ) (g : δ → Out) (f : Env → Out) : (n.out g).then f = n.out fun x => (g x).then f := by cases n <;> rfl
theorem KN.seq (h : KN Φ fu Q L m (a :: b :: ss)) : KN Φ fu Q L m (.seq a b :: ss) := fun ρ r => by
  have := h ρ r
  unfold exs at this ⊢
  rw [ex, then_assoc]
  exact this
theorem KN.skip (h : KN Φ fu Q L m ss) : KN Φ fu Q L m (.skip :: ss) := h
theorem KN.asgE [GQ Q] {i : Nat} {L' : α → Sl} (h : EO Φ e L ea s own A) (hm : m = A β κ) (hL : ∀ v, (L.frz s).set i (some (ea v, own)) = L' v) (hk : ∀ v, KN Φ fu Q (L' v) (κ v) ss) : KN Φ fu Q L m (.asg i e :: ss) := fun ρ r => by
  obtain ⟨w, e1, e2⟩ := h
  rw [hm, e1]
  unfold exs
  rw [ex, out_then]
  exact GQ.bind (e2 ρ r) fun v x p => hk v _ (by rw [p.1, ← hL]; exact (r.frz p.2.1).set (p.1 ▸ p.2.2))
theorem KN.asgP [GQ Q] {i : Nat} {L' : α → Sl} (h : EO Φ e L ea s own A) (hm : m = A β (fun v => R.ok v >>= κ)) (hL : ∀ v, (L.frz s).set i (some (ea v, own)) = L' v) (hk : ∀ v, KN Φ fu Q (L' v) (κ v) ss) : KN Φ fu Q L m (.asg i e :: ss) := KN.asgE h hm hL hk
theorem KN.exp [GQ Q] (h : EC Φ e L ea s u A) (hm : m = A β fun _ => m') (hk : KN Φ fu Q L m' ss) : KN Φ fu Q L m (.exp e :: ss) := fun ρ r => by
  obtain ⟨w, e1, e2⟩ := h
  rw [hm, e1]
  unfold exs
  rw [ex, out_then]
  exact GQ.bind (e2 ρ r) fun v x p => hk ρ r
theorem KN.unp [GQ Q] {is own : List Nat} {L1 L' : α → Sl} (h : EC Φ e L ea s u A) (hb : TB (.names is) (L.frz s) own ea L1) (hm : m = A β κ) (hL : ∀ v, L1 v = L' v) (hk : ∀ v, KN Φ fu Q (L' v) (κ v) ss) : KN Φ fu Q L m (.unp is e :: ss) := fun ρ r => by
  obtain ⟨w, e1, e2⟩ := h
  rw [hm, e1]
  unfold exs
  rw [ex]
  have q : ∀ ρ : Env, (do let x ← ev Φ e ρ; let ds ← Mp.items x.d; orBad (setAll is ds (ρ.frz x.s)) : R Env).out .nx = (ev Φ e ρ).out fun x => (Mp.items x.d >>= fun ds => orBad (setAll is ds (ρ.frz x.s))).out .nx := fun ρ => by cases ev Φ e ρ <;> rfl
  rw [q, out_then]
  refine GQ.bind (e2 ρ r) fun v x p => ?_
  obtain ⟨ρ1, q1, q2⟩ := hb.go v _ (r.frz p.s)
  rw [p.d]
  have q3 : (Mp.items (ea v) >>= fun ds => orBad (setAll is ds (ρ.frz x.s))) = R.ok ρ1 := by
    cases h : ea v <;> rw [h] at q1 <;> first | exact q1 | cases q1
  rw [q3]
  exact hk v ρ1 (hL v ▸ q2)
theorem ownL_ok {ρ : Env} {i : Nat} {xs : List α} (r : Rel L ρ) (h : L[i]? = some (some (eL ea xs, true))) : ρ.own i = .ok (xs.map ea) := by
  obtain ⟨k, e1, e2⟩ := r.at_ i _ _ h
  cases e2.lst
  unfold Env.own
  rw [e1]
  rfl
theorem KN.app [GQ Q] {i : Nat} {xs : List α} {κ : List α → R β} {L' : List α → Sl} (h : EC Φ e L ea s u A) (hL : (L.frz s)[i]? = some (some (eL ea xs, true))) (hm : m = A β fun v => appR xs v >>= κ) (hL' : ∀ ys, (L.frz s).set i (some (eL ea ys, true)) = L' ys) (hk : ∀ ys, KN Φ fu Q (L' ys) (κ ys) ss) : KN Φ fu Q L m (.app i e :: ss) := fun ρ r => by
  obtain ⟨w, e1, e2⟩ := h
  rw [hm, e1]
  unfold exs
  rw [ex]
  have q : ∀ ρ : Env, (do let x ← ev Φ e ρ; let ρ1 := ρ.frz x.s; let xs ← ρ1.own i; R.chk (xs.length < szl) (.ok (ρ1.set i (some (.lst (xs ++ [x.d]), 1)))) : R Env).out .nx = (ev Φ e ρ).out fun x => ((ρ.frz x.s).own i >>= fun xs => R.chk (xs.length < szl) (.ok ((ρ.frz x.s).set i (some (.lst (xs ++ [x.d]), 1))))).out .nx := fun ρ => by cases ev Φ e ρ <;> rfl
  rw [q, out_then]
  refine GQ.bind (e2 ρ r) fun v x p => ?_
  rw [ownL_ok (r.frz p.s) hL, R.bind_ok, p.d, List.length_map]
  unfold appR
  by_cases c : xs.length < szl
  · rw [R.chk_t c, R.chk_t c]
    refine hk _ _ ?_
    have := (r.frz p.s).set (i := i) (d := eL ea (xs ++ [v])) (o := true) (k := 1) Ow.one
    rw [show eL ea (xs ++ [v]) = D.lst (xs.map ea ++ [ea v]) by rw [eL, List.map_append]; rfl] at this
    rw [← hL']
    show Rel (List.set (Sl.frz L s) i (some (D.lst ((xs ++ [v]).map ea), true))) _
    rw [List.map_append]
    exact this
  · unfold R.chk
    rw [if_neg c]
    exact GQ.bad _
theorem KN.six [GQ Q] {i : Nat} {xs : List α} {ix : M} {I : (δ : Type) → (Int → R δ) → R δ} {κ : List α → R β} {L' : List α → Sl} (h : EC Φ e L ea s u A) (h' : EC Φ ix (L.frz s) eI s' u' I) (hL : (L.frz s)[i]? = some (some (eL ea xs, true))) (hm : m = A β fun v => I β fun j => setR xs j v >>= κ) (hL' : ∀ ys, (L.frz s).set i (some (eL ea ys, true)) = L' ys) (hk : ∀ ys, KN Φ fu Q (L' ys) (κ ys) ss) : KN Φ fu Q L m (.six i ix e :: ss) := fun ρ r => by
  obtain ⟨w, e1, e2⟩ := h
  obtain ⟨w', e1', e2'⟩ := h'
  rw [hm, e1]
  unfold exs
  rw [ex]
  have q : ∀ ρ : Env, (do let x ← ev Φ e ρ; let ρ1 := ρ.frz x.s; let xs ← ρ1.own i; let y ← ev Φ ix ρ1; let j ← intOf y.d; let k ← orBad (ixN xs.length j); .ok (ρ1.set i (some (.lst (xs.set k x.d), 1))) : R Env).out .nx = (ev Φ e ρ).out fun x => ((ρ.frz x.s).own i >>= fun xs => ev Φ ix (ρ.frz x.s) >>= fun y => intOf y.d >>= fun j => orBad (ixN xs.length j) >>= fun k => R.ok ((ρ.frz x.s).set i (some (.lst (xs.set k x.d), 1)))).out .nx := fun ρ => by cases ev Φ e ρ <;> rfl
  rw [q, out_then]
  refine GQ.bind (e2 ρ r) fun v x p => ?_
  rw [ownL_ok (r.frz p.s) hL, R.bind_ok, p.d, e1']
  have q2 : ∀ f : V3 → R Env, (ev Φ ix (ρ.frz x.s) >>= f).out .nx = (ev Φ ix (ρ.frz x.s)).out fun y => (f y).out .nx := fun f => by cases ev Φ ix (ρ.frz x.s) <;> rfl
  rw [q2, out_then]
  refine GQ.bind (e2' _ (r.frz p.s)) fun j y p' => ?_
  rw [p'.d, List.length_map]
  show Q (setR xs j v >>= κ) (((orBad (ixN xs.length j) >>= fun k => R.ok ((ρ.frz x.s).set i (some (D.lst ((xs.map ea).set k (ea v)), 1)))).out Out.nx).then (exs Φ fu ss))
  unfold setR
  cases ixN xs.length j with
  | none => exact GQ.bad _
  | some k =>
    refine hk _ _ ?_
    have := (r.frz p.s).set (i := i) (d := eL ea (xs.set k v)) (o := true) (k := 1) Ow.one
    rw [show eL ea (xs.set k v) = D.lst ((xs.map ea).set k (ea v)) from congrArg D.lst (List.map_set ..)] at this
    rw [← hL']
    show Rel (List.set (Sl.frz L s) i (some (D.lst ((xs.set k v).map ea), true))) _
    rw [List.map_set]
    exact this
theorem KN.ite [GQ Q] (h : ET Φ c L T) (hm : m = T β fun x => if x then ma else mb) (ha : KN Φ fu Q L ma (a :: ss)) (hb : KN Φ fu Q L mb (b :: ss)) : KN Φ fu Q L m (.ite c a b :: ss) := fun ρ r => by
  obtain ⟨w, e1, e2⟩ := h
  rw [hm, e1]
  unfold exs
  rw [ex, out_then]
  refine GQ.bind (e2 ρ r) fun v x p => ?_
  subst p
  cases x with
  | true => exact ha ρ r
  | false => exact hb ρ r
theorem KN.isN [GQ Q] {LN : Sl} {LS : γ → Sl} {i : Nat} {o : Option γ} {w : Bool} {mb : γ → R β} (hL : L[i]? = some (some (eO ec o, w))) (hn : ∀ v, Mp.isNo (ec v) = false) (hm : m = optK o ma mb) (hn1 : L.set i (some (.non, w)) = LN) (hs1 : ∀ v, L.set i (some (ec v, w)) = LS v) (ha : KN Φ fu Q LN ma (a :: ss)) (hb : ∀ v, KN Φ fu Q (LS v) (mb v) (b :: ss)) :
    KN Φ fu Q L m (.ite (.cmp .is (.var i) (.con .non)) a b :: ss) := fun ρ r => by
  have g : ∀ x, L[i]? = some x → L.set i x = L := fun x h => by
    apply List.ext_getElem?
    intro j
    rw [List.getElem?_set]
    by_cases q : i = j
    · subst q
      have := (List.getElem?_eq_some_iff.mp h).1
      rw [if_pos rfl, if_pos this, h]
    · rw [if_neg q]
  have hv := r.val hL
  have t : tst Φ (.cmp .is (.var i) (.con .non)) ρ = .ok (Mp.isNo (eO ec o)) := by
    rw [tst_eq, ev, ev, hv, R.bind_ok, R.bind_ok, ev, R.bind_ok]
    cases eO ec o <;> rfl
  rw [hm]
  unfold exs
  rw [ex, out_then, t]
  cases o with
  | none =>
    have := ha ρ (by rw [← hn1]; have g' : L.set i (some (.non, w)) = L := g _ hL; rw [g']; exact r)
    exact this
  | some v =>
    have := hb v ρ (by rw [← hs1]; have g' : L.set i (some (ec v, w)) = L := g _ hL; rw [g']; exact r)
    have q : Mp.isNo (eO ec (some v)) = false := hn v
    rw [q]
    exact this
theorem KN.isnn [GQ Q] {LN : Sl} {LS : γ → Sl} {i : Nat} {o : Option γ} {w : Bool} {ma : γ → R β} {mb : R β} (hL : L[i]? = some (some (eO ec o, w))) (hn : ∀ v, Mp.isNo (ec v) = false) (hm : m = optK o mb ma) (hn1 : L.set i (some (.non, w)) = LN) (hs1 : ∀ v, L.set i (some (ec v, w)) = LS v) (ha : ∀ v, KN Φ fu Q (LS v) (ma v) (a :: ss)) (hb : KN Φ fu Q LN mb (b :: ss)) :
    KN Φ fu Q L m (.ite (.cmp .isn (.var i) (.con .non)) a b :: ss) := fun ρ r => by
  have := KN.isN (a := b) (b := a) (ma := mb) (mb := ma) (Φ := Φ) (fu := fu) (Q := Q) hL hn hm hn1 hs1 hb ha ρ r
  have hv := r.val hL
  have t : tst Φ (.cmp .is (.var i) (.con .non)) ρ = .ok (Mp.isNo (eO ec o)) := by
    rw [tst_eq, ev, ev, hv, R.bind_ok, R.bind_ok, ev, R.bind_ok]
    cases eO ec o <;> rfl
  have t' : tst Φ (.cmp .isn (.var i) (.con .non)) ρ = .ok (!Mp.isNo (eO ec o)) := by
    rw [tst_eq, ev, ev, hv, R.bind_ok, R.bind_ok, ev, R.bind_ok]
    cases eO ec o <;> rfl
  unfold exs at this ⊢
  rw [ex, t] at this
  rw [ex, t']
  cases q : Mp.isNo (eO ec o) <;> rw [q] at this <;> exact this
theorem KN.ret [GQ Q] {f : α → R β} (hv : ∀ i, e ≠ .var i) (h : EO Φ e L ea s own A) (hq : RT Q ea own f) (hm : m = A β f) : KN Φ fu Q L m (.ret e :: ss) := fun ρ r => by
  obtain ⟨w, e1, e2⟩ := h
  rw [hm, e1]
  unfold exs
  have q : ex Φ fu (.ret e) ρ = (evO Φ e ρ).out fun x => .rt x.1.d x.2 := by
    cases e <;> first | rfl | exact absurd rfl (hv _)
  rw [q, out_then]
  refine GQ.bind (e2 ρ r) fun v x p => ?_
  rw [p.1]
  exact hq v x.2 (p.1 ▸ p.2.2)
theorem KN.retv [GQ Q] {i : Nat} {v : α} {f : α → R β} (hL : L[i]? = some (some (ea v, own))) (hq : RT Q ea own f) (hm : m = f v) : KN Φ fu Q L m (.ret (.var i) :: ss) := fun ρ r => by
  obtain ⟨k, e1, e2⟩ := r.at_ i _ _ hL
  rw [hm]
  unfold exs
  rw [ex, e1]
  exact hq v k e2
theorem KN.retN [GQ Q] {v : α} {f : α → R β} (hn : ea v = .non) (hq : RT Q ea own f) (hm : m = f v) : KN Φ fu Q L m (.retN :: ss) := fun ρ r => by
  rw [hm]
  have := hq v 0 (by rw [hn]; exact Ow.atm rfl)
  rw [hn] at this
  exact this
theorem KN.rai [GQ Q] {k : Nat} {ds : α → List D} (h : EA Φ e L ds s u A) (hm : m = A β fun v => .exc k (ds v)) : KN Φ fu Q L m (.rai k e :: ss) := fun ρ r => by
  obtain ⟨w, e1, e2⟩ := h
  rw [hm, e1]
  unfold exs
  rw [ex, out_then]
  refine GQ.bind (e2 ρ r) fun v x p => ?_
  rw [p.d]
  exact GQ.exc _ _
/-- two ways that meet -/
theorem KN.join [GQ Q] {m0 : R σ} {κ : σ → R β} (hm : m = m0 >>= κ) (h : KN Φ fu (QJ Lf) L m0 [st]) (hk : ∀ x, KN Φ fu Q (Lf x) (κ x) ss) : KN Φ fu Q L m (st :: ss) := fun ρ r => by
  have := h ρ r
  have q : exs Φ fu [st] ρ = ex Φ fu st ρ := by show (ex Φ fu st ρ).then .nx = _; cases ex Φ fu st ρ <;> rfl
  rw [q] at this
  rw [hm]
  unfold exs
  cases m0 with
  | bad => exact GQ.bad _
  | exc c fs =>
    have e : ex Φ fu st ρ = .ex c fs := this
    rw [e]
    exact GQ.exc _ _
  | ok x =>
    obtain ⟨ρ', e, r'⟩ := this
    rw [e]
    exact hk x ρ' r'
theorem KN.joinR [GQ Q] {m0 : R (LO σ α)} {κ : σ → R β} {f : α → R β} (hq : RT Q ea own f) (hm : m = m0 >>= fun r => r.k κ f) (h : KN Φ fu (QJR Lf ea own) L m0 [st]) (hk : ∀ x, KN Φ fu Q (Lf x) (κ x) ss) : KN Φ fu Q L m (st :: ss) := fun ρ r => by
  have := h ρ r
  have q : exs Φ fu [st] ρ = ex Φ fu st ρ := by show (ex Φ fu st ρ).then .nx = _; cases ex Φ fu st ρ <;> rfl
  rw [q] at this
  rw [hm]
  unfold exs
  cases m0 with
  | bad => exact GQ.bad _
  | exc c fs =>
    have e : ex Φ fu st ρ = .ex c fs := this
    rw [e]
    exact GQ.exc _ _
  | ok x =>
    cases x with
    | nx x =>
      obtain ⟨ρ', e, r'⟩ := this
      rw [e]
      exact hk x ρ' r'
    | rt v =>
      obtain ⟨k, e, r'⟩ := this
      rw [e]
      exact hq v k r'
theorem KN.endJ {x : σ} (h : Le L (Lf x)) : KN Φ fu (QJ Lf) L (.ok x) [] := fun ρ r => ⟨ρ, rfl, r.le h⟩
theorem KN.endJR {x : σ} (h : Le L (Lf x)) : KN Φ fu (QJR Lf ea own) L (.ok (.nx x)) [] := fun ρ r => ⟨ρ, rfl, r.le h⟩
theorem KN.endL {x : σ} (h : Le L (Lf x)) : KN Φ fu (QL Lf) L (.ok x) [] := fun ρ r => ⟨ρ, .inl rfl, r.le h⟩
theorem KN.endLO {x : σ} (h : Le L (Lf x)) : KN Φ fu (QLO Lf ea own) L (.ok (.nx x)) [] := fun ρ r => ⟨ρ, .inl rfl, r.le h⟩
theorem KN.endLK {x : σ} (h : Le L (Lf x)) : KN Φ fu (QLK Lf) L (.ok (.nx x)) [] := fun ρ r => ⟨ρ, .inl rfl, r.le h⟩
theorem KN.endLB {x : σ} (h : Le L (Lf x)) : KN Φ fu (QLB Lf ea own) L (.ok (.nx x)) [] := fun ρ r => ⟨ρ, .inl rfl, r.le h⟩
theorem KN.cntL {x : σ} (h : Le L (Lf x)) : KN Φ fu (QL Lf) L (.ok x) (.cnt :: ss) := fun ρ r => ⟨ρ, .inr rfl, r.le h⟩
theorem KN.cntLO {x : σ} (h : Le L (Lf x)) : KN Φ fu (QLO Lf ea own) L (.ok (.nx x)) (.cnt :: ss) := fun ρ r => ⟨ρ, .inr rfl, r.le h⟩
theorem KN.cntLK {x : σ} (h : Le L (Lf x)) : KN Φ fu (QLK Lf) L (.ok (.nx x)) (.cnt :: ss) := fun ρ r => ⟨ρ, .inr rfl, r.le h⟩
theorem KN.cntLB {x : σ} (h : Le L (Lf x)) : KN Φ fu (QLB Lf ea own) L (.ok (.nx x)) (.cnt :: ss) := fun ρ r => ⟨ρ, .inr rfl, r.le h⟩
theorem KN.brkLK {x : σ} (h : Le L (Lf x)) : KN Φ fu (QLK Lf) L (.ok (.bk x)) (.brk :: ss) := fun ρ r => ⟨ρ, rfl, r.le h⟩
theorem KN.brkLB {x : σ} (h : Le L (Lf x)) : KN Φ fu (QLB Lf ea own) L (.ok (.bk x)) (.brk :: ss) := fun ρ r => ⟨ρ, rfl, r.le h⟩
theorem KN.endF {v : α} (h : ea v = .non) : KN Φ fu (QF ea own) L (.ok v) [] := fun ρ r => .inr ⟨ρ, rfl, h⟩
/-! loops -/
theorem exs_1 (st : S) (ρ : Env) : exs Φ fu [st] ρ = ex Φ fu st ρ := by show (ex Φ fu st ρ).then .nx = _; cases ex Φ fu st ρ <;> rfl
section loops
variable {t : Tg} {it : M} {ow : List Nat} {L1 : σ → α → Sl} {AA : (δ : Type) → (List α → R δ) → R δ} {x0 : σ} {κ : σ → R β}
theorem for_ref (hb : ∀ x, TB t (Lf x) ow ea (L1 x)) {f : α → σ → R σ} (hf : ∀ x v, KN Φ fu (QL Lf) (L1 x v) (f v x) [b]) : ∀ (xs : List α) (x : σ) (ρ : Env), Rel (Lf x) ρ → QJ Lf (forR f xs x) (forGo t (ex Φ fu b) (xs.map ea) ρ)
  | [], x, ρ, r => ⟨ρ, rfl, r⟩
  | v :: xs, x, ρ, r => by
    obtain ⟨ρ1, q1, r1⟩ := (hb x).go v ρ r
    have h := hf x v ρ1 r1
    rw [exs_1] at h
    show QJ Lf (f v x >>= _) (match t.set (ea v) ρ with | .ok ρ1 => (match ex Φ fu b ρ1 with | .nx ρ' => forGo t (ex Φ fu b) (xs.map ea) ρ' | .ct ρ' => forGo t (ex Φ fu b) (xs.map ea) ρ' | .bk ρ' => .nx ρ' | o => o) | _ => .bad)
    rw [q1]
    dsimp only
    cases e : f v x with
    | bad => trivial
    | exc c fs =>
      rw [e] at h
      have h' : ex Φ fu b ρ1 = .ex c fs := h
      rw [h']
      rfl
    | ok x' =>
      rw [e] at h
      obtain ⟨ρ', h1, r'⟩ := h
      rcases h1 with h1 | h1 <;> rw [h1] <;> exact for_ref hb hf xs x' ρ' r'
theorem forO_ref (hb : ∀ x, TB t (Lf x) ow ea (L1 x)) {f : α → σ → R (LO σ γ)} (hf : ∀ x v, KN Φ fu (QLO Lf ec own) (L1 x v) (f v x) [b]) : ∀ (xs : List α) (x : σ) (ρ : Env), Rel (Lf x) ρ → QJR Lf ec own (forO f xs x) (forGo t (ex Φ fu b) (xs.map ea) ρ)
  | [], x, ρ, r => ⟨ρ, rfl, r⟩
  | v :: xs, x, ρ, r => by
    obtain ⟨ρ1, q1, r1⟩ := (hb x).go v ρ r
    have h := hf x v ρ1 r1
    rw [exs_1] at h
    show QJR Lf ec own (f v x >>= _) (match t.set (ea v) ρ with | .ok ρ1 => (match ex Φ fu b ρ1 with | .nx ρ' => forGo t (ex Φ fu b) (xs.map ea) ρ' | .ct ρ' => forGo t (ex Φ fu b) (xs.map ea) ρ' | .bk ρ' => .nx ρ' | o => o) | _ => .bad)
    rw [q1]
    dsimp only
    cases e : f v x with
    | bad => trivial
    | exc c fs =>
      rw [e] at h
      have h' : ex Φ fu b ρ1 = .ex c fs := h
      rw [h']
      rfl
    | ok r' =>
      rw [e] at h
      cases r' with
      | nx x' =>
        obtain ⟨ρ', h1, r'⟩ := h
        rcases h1 with h1 | h1 <;> rw [h1] <;> exact forO_ref hb hf xs x' ρ' r'
      | rt w =>
        obtain ⟨k, h1, r'⟩ := h
        rw [h1]
        exact ⟨k, rfl, r'⟩
theorem forK_ref (hb : ∀ x, TB t (Lf x) ow ea (L1 x)) {f : α → σ → R (LK σ)} (hf : ∀ x v, KN Φ fu (QLK Lf) (L1 x v) (f v x) [b]) : ∀ (xs : List α) (x : σ) (ρ : Env), Rel (Lf x) ρ → QJ Lf (forK f xs x) (forGo t (ex Φ fu b) (xs.map ea) ρ)
  | [], x, ρ, r => ⟨ρ, rfl, r⟩
  | v :: xs, x, ρ, r => by
    obtain ⟨ρ1, q1, r1⟩ := (hb x).go v ρ r
    have h := hf x v ρ1 r1
    rw [exs_1] at h
    show QJ Lf (f v x >>= _) (match t.set (ea v) ρ with | .ok ρ1 => (match ex Φ fu b ρ1 with | .nx ρ' => forGo t (ex Φ fu b) (xs.map ea) ρ' | .ct ρ' => forGo t (ex Φ fu b) (xs.map ea) ρ' | .bk ρ' => .nx ρ' | o => o) | _ => .bad)
    rw [q1]
    dsimp only
    cases e : f v x with
    | bad => trivial
    | exc c fs =>
      rw [e] at h
      have h' : ex Φ fu b ρ1 = .ex c fs := h
      rw [h']
      rfl
    | ok r' =>
      rw [e] at h
      cases r' with
      | nx x' =>
        obtain ⟨ρ', h1, r'⟩ := h
        rcases h1 with h1 | h1 <;> rw [h1] <;> exact forK_ref hb hf xs x' ρ' r'
      | bk x' =>
        obtain ⟨ρ', h1, r'⟩ := h
        rw [h1]
        exact ⟨ρ', rfl, r'⟩
theorem forB_ref (hb : ∀ x, TB t (Lf x) ow ea (L1 x)) {f : α → σ → R (LB σ γ)} (hf : ∀ x v, KN Φ fu (QLB Lf ec own) (L1 x v) (f v x) [b]) : ∀ (xs : List α) (x : σ) (ρ : Env), Rel (Lf x) ρ → QJR Lf ec own (forB f xs x) (forGo t (ex Φ fu b) (xs.map ea) ρ)
  | [], x, ρ, r => ⟨ρ, rfl, r⟩
  | v :: xs, x, ρ, r => by
    obtain ⟨ρ1, q1, r1⟩ := (hb x).go v ρ r
    have h := hf x v ρ1 r1
    rw [exs_1] at h
    show QJR Lf ec own (f v x >>= _) (match t.set (ea v) ρ with | .ok ρ1 => (match ex Φ fu b ρ1 with | .nx ρ' => forGo t (ex Φ fu b) (xs.map ea) ρ' | .ct ρ' => forGo t (ex Φ fu b) (xs.map ea) ρ' | .bk ρ' => .nx ρ' | o => o) | _ => .bad)
    rw [q1]
    dsimp only
    cases e : f v x with
    | bad => trivial
    | exc c fs =>
      rw [e] at h
      have h' : ex Φ fu b ρ1 = .ex c fs := h
      rw [h']
      rfl
    | ok r' =>
      rw [e] at h
      cases r' with
      | nx x' =>
        obtain ⟨ρ', h1, r'⟩ := h
        rcases h1 with h1 | h1 <;> rw [h1] <;> exact forB_ref hb hf xs x' ρ' r'
      | bk x' =>
        obtain ⟨ρ', h1, r'⟩ := h
        rw [h1]
        exact ⟨ρ', rfl, r'⟩
      | rt w =>
        obtain ⟨k, h1, r'⟩ := h
        rw [h1]
        exact ⟨k, rfl, r'⟩
theorem for_head [GQ Q] {m : R β} {g : List α → R β} (hno : ∀ ρ, lentI t it b ρ = none) (h : IT Φ it L ea s u AA) (hl : Le (L.frz (s ++ u)) (Lf x0)) (hm : m = AA β g) (hk : ∀ xs ρ, Rel (Lf x0) ρ → Q (g xs) ((forGo t (ex Φ fu b) (xs.map ea) ρ).then (exs Φ fu ss))) : KN Φ fu Q L m (.for_ t it b :: ss) := fun ρ r => by
  obtain ⟨w, e1, e2⟩ := h
  rw [hm, e1]
  unfold exs
  rw [ex]
  simp only [hno ρ]
  have q : (do let x ← ev Φ it ρ; let ds ← Mp.items x.d; .ok (ds, x.s ++ x.t) : R (List D × List Nat)).out (fun p => forGo t (ex Φ fu b) p.1 (ρ.frz p.2)) = (ev Φ it ρ).out fun x => (Mp.items x.d >>= fun ds => R.ok (ds, x.s ++ x.t)).out fun p => forGo t (ex Φ fu b) p.1 (ρ.frz p.2) := by
    cases ev Φ it ρ <;> rfl
  rw [q, out_then]
  refine GQ.bind (e2 ρ r) fun xs x p => ?_
  rw [p.1]
  exact hk xs _ ((r.frz (p.2.1.app p.2.2)).le hl)
/-- .. through a name's items that the body does not touch -/
theorem for_headV [GQ Q] {m : R β} {g : List α → R β} {i : Nat} {d : D} {o : Bool} (hi : itVar it = some i) (ho : (occS i b || t.has i) = false) (hL : L[i]? = some (some (d, o))) (h : IT Φ it L ea s u AA) (hl : Le (L.set i none) (Lf x0)) (hm : m = AA β g)
    (hk : ∀ xs ρ k, Ow o d k → ρ[i]? = some none → Rel (Lf x0) ρ → Q (g xs) (((forGo t (ex Φ fu b) (xs.map ea) ρ).back i (some (d, k))).then (exs Φ fu ss))) : KN Φ fu Q L m (.for_ t it b :: ss) := fun ρ r => by
  obtain ⟨w, e1, e2⟩ := h
  obtain ⟨k, r1, r2⟩ := r.at_ i d o hL
  have hle : lentI t it b ρ = some (i, some (d, k)) := by
    unfold lentI
    rw [hi]
    dsimp only
    rw [ho, if_neg (by decide), r1]
    dsimp only
    rw [if_pos r2.1]
  rw [hm, e1]
  unfold exs
  rw [ex]
  simp only [hle]
  have q : (do let x ← ev Φ it ρ; let ds ← Mp.items x.d; .ok (ds, x.s ++ x.t) : R (List D × List Nat)).out (fun p => (forGo t (ex Φ fu b) p.1 (ρ.set i none)).back i (some (d, k))) = (ev Φ it ρ).out fun x => (Mp.items x.d >>= fun ds => R.ok (ds, x.s ++ x.t)).out fun p => (forGo t (ex Φ fu b) p.1 (ρ.set i none)).back i (some (d, k)) := by
    cases ev Φ it ρ <;> rfl
  rw [q, out_then]
  refine GQ.bind (e2 ρ r) fun xs x p => ?_
  rw [p.1]
  have hil : i < ρ.length := (List.getElem?_eq_some_iff.mp r1).1
  exact hk xs _ k r2 (List.getElem?_set_self hil) (r.junk.le hl)
/-! a name that a statement does not touch stays without a value -/
theorem frz_none {i : Nat} : ∀ {S : List Nat} {ρ : Env}, ρ[i]? = some none → (ρ.frz S)[i]? = some none
  | [], _, h => h
  | j :: S, ρ, h => frz_none (S := S) (by
      rw [List.getElem?_modify, h]
      by_cases q : j = i <;> simp [q, frz1])
theorem setAll_none {i : Nat} : ∀ {js : List Nat} {ds : List D} {ρ ρ' : Env}, js.contains i = false → setAll js ds ρ = some ρ' → ρ[i]? = some none → ρ'[i]? = some none
  | [], [], _, _, _, e, h => by cases e; exact h
  | [], _ :: _, _, _, _, e, _ => by cases e
  | _ :: _, [], _, _, _, e, _ => by cases e
  | j :: js, d :: ds, ρ, ρ', hc, e, h => by
    simp at hc
    exact setAll_none (js := js) (ds := ds) (by simp; exact hc.2) e (by rw [List.getElem?_set_ne (fun z => hc.1 z.symm)]; exact h)
theorem tg_none {i : Nat} {t : Tg} {d : D} {ρ ρ' : Env} (hc : t.has i = false) (e : t.set d ρ = .ok ρ') (h : ρ[i]? = some none) : ρ'[i]? = some none := by
  cases t with
  | name j =>
    cases e
    have hc : (i == j) = false := hc
    simp at hc
    rw [List.getElem?_set_ne (fun z => hc z.symm)]
    exact h
  | names js =>
    have hc : js.contains i = false := hc
    cases d <;> try cases e
    all_goals
      rename_i ds
      have e : orBad (setAll js ds ρ) = .ok ρ' := e
      cases q : setAll js ds ρ with
      | none => rw [q] at e; cases e
      | some z =>
        rw [q] at e
        cases e
        exact setAll_none hc q h
def KNone (i : Nat) : Out → Prop
  | .nx ρ => ρ[i]? = some none
  | .bk ρ => ρ[i]? = some none
  | .ct ρ => ρ[i]? = some none
  | _ => True
theorem KNone.out {i : Nat} {δ : Type} {n : R δ} {f : δ → Out} (h : ∀ x, n = .ok x → KNone i (f x)) : KNone i (n.out f) := by
  cases n with
  | bad => trivial
  | exc c fs => trivial
  | ok x => exact h x rfl
theorem KNone.then {i : Nat} {o : Out} {f : Env → Out} (h : KNone i o) (k : ∀ ρ, ρ[i]? = some none → KNone i (f ρ)) : KNone i (o.then f) := by
  cases o with
  | nx ρ => exact k ρ h
  | _ => exact h
theorem forGo_none {i : Nat} {t : Tg} {f : Env → Out} (ht : t.has i = false) (hf : ∀ ρ, ρ[i]? = some none → KNone i (f ρ)) : ∀ (ds : List D) (ρ : Env), ρ[i]? = some none → KNone i (forGo t f ds ρ)
  | [], _, h => h
  | d :: ds, ρ, h => by
    unfold forGo
    cases e : t.set d ρ with
    | bad => trivial
    | exc c fs => trivial
    | ok ρ1 =>
      have h1 := hf ρ1 (tg_none ht e h)
      dsimp only
      cases e2 : f ρ1 with
      | nx ρ' => rw [e2] at h1; exact forGo_none ht hf ds ρ' h1
      | ct ρ' => rw [e2] at h1; exact forGo_none ht hf ds ρ' h1
      | bk ρ' => rw [e2] at h1; exact h1
      | rt d k => trivial
      | bad => trivial
      | ex c fs => trivial
theorem forGo_nobk {t : Tg} {f : Env → Out} : ∀ (ds : List D) (ρ ρ' : Env), forGo t f ds ρ ≠ .bk ρ' ∧ forGo t f ds ρ ≠ .ct ρ'
  | [], ρ, ρ' => ⟨fun h => (nomatch h), fun h => (nomatch h)⟩
  | d :: ds, ρ, ρ' => by
    unfold forGo
    cases e : t.set d ρ with
    | bad => exact ⟨fun h => (nomatch h), fun h => (nomatch h)⟩
    | exc c fs => exact ⟨fun h => (nomatch h), fun h => (nomatch h)⟩
    | ok ρ1 =>
      dsimp only
      cases e2 : f ρ1 with
      | nx ρ2 => exact forGo_nobk ds ρ2 ρ'
      | ct ρ2 => exact forGo_nobk ds ρ2 ρ'
      | bk ρ2 => exact ⟨fun h => (nomatch h), fun h => (nomatch h)⟩
      | rt d k => exact ⟨fun h => (nomatch h), fun h => (nomatch h)⟩
      | bad => exact ⟨fun h => (nomatch h), fun h => (nomatch h)⟩
      | ex c fs => exact ⟨fun h => (nomatch h), fun h => (nomatch h)⟩
theorem whlGo_none {i : Nat} {c : Env → R Bool} {f : Env → Out} (hf : ∀ ρ, ρ[i]? = some none → KNone i (f ρ)) : ∀ (n : Nat) (ρ : Env), ρ[i]? = some none → KNone i (whlGo c f n ρ)
  | 0, _, _ => trivial
  | n + 1, ρ, h => by
    unfold whlGo
    cases c ρ with
    | bad => trivial
    | exc k fs => trivial
    | ok b =>
      cases b with
      | false => exact h
      | true =>
        have h1 := hf ρ h
        dsimp only
        cases e2 : f ρ with
        | nx ρ' => rw [e2] at h1; exact whlGo_none hf n ρ' h1
        | ct ρ' => rw [e2] at h1; exact whlGo_none hf n ρ' h1
        | bk ρ' => rw [e2] at h1; exact h1
        | rt d k => trivial
        | bad => trivial
        | ex c fs => trivial
theorem ex_none {i : Nat} : ∀ (st : S) (ρ : Env), occS i st = false → ρ[i]? = some none → KNone i (ex Φ fu st ρ)
  | .skip, ρ, _, h => h
  | .seq a b, ρ, hc, h => by
    unfold occS at hc
    rw [Bool.or_eq_false_iff] at hc
    rw [ex]
    exact (ex_none a ρ hc.1 h).then fun ρ' h' => ex_none b ρ' hc.2 h'
  | .asg j e, ρ, hc, h => by
    unfold occS at hc
    rw [Bool.or_eq_false_iff] at hc
    have hj : i ≠ j := by simpa using hc.1
    rw [ex]
    refine KNone.out fun x _ => ?_
    show (List.set _ j _)[i]? = _
    rw [List.getElem?_set_ne (fun z => hj z.symm)]
    exact frz_none h
  | .unp js e, ρ, hc, h => by
    unfold occS at hc
    rw [Bool.or_eq_false_iff] at hc
    rw [ex]
    refine KNone.out fun ρ' e' => ?_
    obtain ⟨x, _, e2⟩ := R.of_bind e'
    obtain ⟨ds, _, e3⟩ := R.of_bind e2
    cases q : setAll js ds (ρ.frz x.s) with
    | none => rw [q] at e3; cases e3
    | some z =>
      rw [q] at e3
      cases e3
      exact setAll_none hc.1 q (frz_none h)
  | .six j a e, ρ, hc, h => by
    unfold occS at hc
    rw [Bool.or_eq_false_iff, Bool.or_eq_false_iff] at hc
    have hj : i ≠ j := by simpa using hc.1.1
    rw [ex]
    refine KNone.out fun ρ' e' => ?_
    obtain ⟨x, _, e2⟩ := R.of_bind e'
    obtain ⟨xs, _, e3⟩ := R.of_bind e2
    obtain ⟨y, _, e4⟩ := R.of_bind e3
    obtain ⟨k, _, e5⟩ := R.of_bind e4
    obtain ⟨n, _, e6⟩ := R.of_bind e5
    cases e6
    show (List.set _ j _)[i]? = _
    rw [List.getElem?_set_ne (fun z => hj z.symm)]
    exact frz_none h
  | .app j e, ρ, hc, h => by
    unfold occS at hc
    rw [Bool.or_eq_false_iff] at hc
    have hj : i ≠ j := by simpa using hc.1
    rw [ex]
    refine KNone.out fun ρ' e' => ?_
    obtain ⟨x, _, e2⟩ := R.of_bind e'
    obtain ⟨xs, _, e3⟩ := R.of_bind e2
    obtain ⟨_, e4⟩ := R.of_chk e3
    cases e4
    show (List.set _ j _)[i]? = _
    rw [List.getElem?_set_ne (fun z => hj z.symm)]
    exact frz_none h
  | .exp e, ρ, _, h => by
    rw [ex]
    exact KNone.out fun _ _ => h
  | .ret e, ρ, _, _ => by
    have gen : ∀ e' : M, KNone i ((evO Φ e' ρ).out fun x => .rt x.1.d x.2) := fun e' => KNone.out fun _ _ => trivial
    cases e with
    | var j =>
      rw [ex]
      split <;> trivial
    | con d => exact gen (.con d)
    | nil => exact gen .nil
    | cons a r => exact gen (.cons a r)
    | _ => exact gen _
  | .retN, _, _, _ => trivial
  | .ite c a b, ρ, hc, h => by
    unfold occS at hc
    rw [Bool.or_eq_false_iff, Bool.or_eq_false_iff] at hc
    rw [ex]
    refine KNone.out fun k _ => ?_
    cases k with
    | true => exact ex_none a ρ hc.1.2 h
    | false => exact ex_none b ρ hc.2 h
  | .whl c b, ρ, hc, h => by
    unfold occS at hc
    rw [Bool.or_eq_false_iff] at hc
    rw [ex]
    exact whlGo_none (fun ρ' h' => ex_none b ρ' hc.2 h') fu ρ h
  | .for_ t it b, ρ, hc, h => by
    unfold occS at hc
    rw [Bool.or_eq_false_iff, Bool.or_eq_false_iff] at hc
    rw [ex]
    refine KNone.out fun p _ => ?_
    cases e : lentI t it b ρ with
    | none => exact forGo_none hc.1.1 (fun ρ' h' => ex_none b ρ' hc.2 h') _ _ (frz_none h)
    | some z =>
      obtain ⟨j, y⟩ := z
      have hj : i ≠ j := fun z => by
        unfold lentI at e
        cases q : itVar it with
        | none => rw [q] at e; cases e
        | some w =>
          rw [q] at e
          dsimp only at e
          split at e
          · cases e
          · split at e
            · rename_i d k e1
              split at e
              · cases e
                rw [← z, h] at e1
                cases e1
              · cases e
            · cases e
      have g := forGo_none (i := i) hc.1.1 (fun ρ' h' => ex_none b ρ' hc.2 h') p.1 (ρ.set j none) (by rw [List.getElem?_set_ne (fun z => hj z.symm)]; exact h)
      dsimp only
      cases e2 : forGo t (ex Φ fu b) p.1 (ρ.set j none) with
      | nx ρ' =>
        rw [e2] at g
        show KNone i (match ρ'[j]? with
          | some none => .nx (ρ'.set j y)
          | _ => .bad)
        split
        · show (List.set ρ' j y)[i]? = _
          rw [List.getElem?_set_ne (fun z => hj z.symm)]
          exact g
        · trivial
      | _ => trivial
  | .brk, ρ, _, h => h
  | .cnt, ρ, _, h => h
  | .rai c es, ρ, _, _ => by
    rw [ex]
    exact KNone.out fun _ _ => trivial
theorem KN.for_ [GQ Q] {f : α → σ → R σ} (hno : ∀ ρ, lentI t it b ρ = none) (h : IT Φ it L ea s u AA) (hl : Le (L.frz (s ++ u)) (Lf x0)) (hb : ∀ x, TB t (Lf x) ow ea (L1 x)) (hm : m = AA β fun xs => forR f xs x0 >>= κ) (hf : ∀ x v, KN Φ fu (QL Lf) (L1 x v) (f v x) [b]) (hk : ∀ x, KN Φ fu Q (Lf x) (κ x) ss) : KN Φ fu Q L m (.for_ t it b :: ss) :=
  for_head hno h hl hm fun xs ρ r => by
    have := for_ref hb hf xs x0 ρ r
    cases e : forR f xs x0 with
    | bad => exact GQ.bad _
    | exc c fs =>
      rw [e] at this
      have h' : forGo t (ex Φ fu b) (xs.map ea) ρ = .ex c fs := this
      rw [h']
      exact GQ.exc _ _
    | ok x =>
      rw [e] at this
      obtain ⟨ρ', h1, r'⟩ := this
      rw [h1]
      exact hk x ρ' r'
theorem KN.forK [GQ Q] {f : α → σ → R (LK σ)} (hno : ∀ ρ, lentI t it b ρ = none) (h : IT Φ it L ea s u AA) (hl : Le (L.frz (s ++ u)) (Lf x0)) (hb : ∀ x, TB t (Lf x) ow ea (L1 x)) (hm : m = AA β fun xs => Mp.forK f xs x0 >>= κ) (hf : ∀ x v, KN Φ fu (QLK Lf) (L1 x v) (f v x) [b]) (hk : ∀ x, KN Φ fu Q (Lf x) (κ x) ss) : KN Φ fu Q L m (.for_ t it b :: ss) :=
  for_head hno h hl hm fun xs ρ r => by
    have := forK_ref hb hf xs x0 ρ r
    cases e : Mp.forK f xs x0 with
    | bad => exact GQ.bad _
    | exc c fs =>
      rw [e] at this
      have h' : forGo t (ex Φ fu b) (xs.map ea) ρ = .ex c fs := this
      rw [h']
      exact GQ.exc _ _
    | ok x =>
      rw [e] at this
      obtain ⟨ρ', h1, r'⟩ := this
      rw [h1]
      exact hk x ρ' r'
theorem KN.forO [GQ Q] {f : α → σ → R (LO σ γ)} {g : γ → R β} (hno : ∀ ρ, lentI t it b ρ = none) (h : IT Φ it L ea s u AA) (hl : Le (L.frz (s ++ u)) (Lf x0)) (hb : ∀ x, TB t (Lf x) ow ea (L1 x)) (hq : RT Q ec own g) (hm : m = AA β fun xs => Mp.forO f xs x0 >>= fun r => r.k κ g) (hf : ∀ x v, KN Φ fu (QLO Lf ec own) (L1 x v) (f v x) [b]) (hk : ∀ x, KN Φ fu Q (Lf x) (κ x) ss) : KN Φ fu Q L m (.for_ t it b :: ss) :=
  for_head hno h hl hm fun xs ρ r => by
    have := forO_ref hb hf xs x0 ρ r
    cases e : Mp.forO f xs x0 with
    | bad => exact GQ.bad _
    | exc c fs =>
      rw [e] at this
      have h' : forGo t (ex Φ fu b) (xs.map ea) ρ = .ex c fs := this
      rw [h']
      exact GQ.exc _ _
    | ok x =>
      rw [e] at this
      cases x with
      | nx x =>
        obtain ⟨ρ', h1, r'⟩ := this
        rw [h1]
        exact hk x ρ' r'
      | rt v =>
        obtain ⟨k, h1, r'⟩ := this
        rw [h1]
        exact hq v k r'
theorem KN.forB [GQ Q] {f : α → σ → R (LB σ γ)} {g : γ → R β} (hno : ∀ ρ, lentI t it b ρ = none) (h : IT Φ it L ea s u AA) (hl : Le (L.frz (s ++ u)) (Lf x0)) (hb : ∀ x, TB t (Lf x) ow ea (L1 x)) (hq : RT Q ec own g) (hm : m = AA β fun xs => Mp.forB f xs x0 >>= fun r => r.k κ g) (hf : ∀ x v, KN Φ fu (QLB Lf ec own) (L1 x v) (f v x) [b]) (hk : ∀ x, KN Φ fu Q (Lf x) (κ x) ss) : KN Φ fu Q L m (.for_ t it b :: ss) :=
  for_head hno h hl hm fun xs ρ r => by
    have := forB_ref hb hf xs x0 ρ r
    cases e : Mp.forB f xs x0 with
    | bad => exact GQ.bad _
    | exc c fs =>
      rw [e] at this
      have h' : forGo t (ex Φ fu b) (xs.map ea) ρ = .ex c fs := this
      rw [h']
      exact GQ.exc _ _
    | ok x =>
      rw [e] at this
      cases x with
      | nx x =>
        obtain ⟨ρ', h1, r'⟩ := this
        rw [h1]
        exact hk x ρ' r'
      | rt v =>
        obtain ⟨k, h1, r'⟩ := this
        rw [h1]
        exact hq v k r'
theorem back_nx {ρ : Env} {i : Nat} {y : Option (D × Nat)} (h : ρ[i]? = some none) : (Out.nx ρ).back i y = .nx (ρ.set i y) := by
  show (match ρ[i]? with
    | some none => Out.nx (ρ.set i y)
    | _ => .bad) = _
  rw [h]
theorem KN.for_V [GQ Q] {i : Nat} {d : D} {o : Bool} {L' : σ → Sl} {f : α → σ → R σ} (hi : itVar it = some i) (ho : (occS i b || t.has i) = false) (hL : L[i]? = some (some (d, o))) (h : IT Φ it L ea s u AA) (hl : Le (L.set i none) (Lf x0)) (hb : ∀ x, TB t (Lf x) ow ea (L1 x)) (hm : m = AA β fun xs => forR f xs x0 >>= κ) (hL' : ∀ x, (Lf x).set i (some (d, o)) = L' x) (hf : ∀ x v, KN Φ fu (QL Lf) (L1 x v) (f v x) [b]) (hk : ∀ x, KN Φ fu Q (L' x) (κ x) ss) : KN Φ fu Q L m (.for_ t it b :: ss) :=
  for_headV hi ho hL h hl hm fun xs ρ k ow' hn r => by
    have := for_ref hb hf xs x0 ρ r
    rw [Bool.or_eq_false_iff] at ho
    have kn := forGo_none (i := i) ho.2 (fun ρ' h' => ex_none (Φ := Φ) (fu := fu) b ρ' ho.1 h') (xs.map ea) ρ hn
    cases e : forR f xs x0 with
    | bad => exact GQ.bad _
    | exc c fs =>
      rw [e] at this
      have h' : forGo t (ex Φ fu b) (xs.map ea) ρ = .ex c fs := this
      rw [h']
      exact GQ.exc _ _
    | ok x =>
      rw [e] at this
      obtain ⟨ρ', h1, r'⟩ := this
      rw [h1] at kn ⊢
      rw [back_nx kn]
      exact hk x _ (by rw [← hL']; exact r'.set ow')
theorem KN.forKV [GQ Q] {i : Nat} {d : D} {o : Bool} {L' : σ → Sl} {f : α → σ → R (LK σ)} (hi : itVar it = some i) (ho : (occS i b || t.has i) = false) (hL : L[i]? = some (some (d, o))) (h : IT Φ it L ea s u AA) (hl : Le (L.set i none) (Lf x0)) (hb : ∀ x, TB t (Lf x) ow ea (L1 x)) (hm : m = AA β fun xs => Mp.forK f xs x0 >>= κ) (hL' : ∀ x, (Lf x).set i (some (d, o)) = L' x) (hf : ∀ x v, KN Φ fu (QLK Lf) (L1 x v) (f v x) [b]) (hk : ∀ x, KN Φ fu Q (L' x) (κ x) ss) : KN Φ fu Q L m (.for_ t it b :: ss) :=
  for_headV hi ho hL h hl hm fun xs ρ k ow' hn r => by
    have := forK_ref hb hf xs x0 ρ r
    rw [Bool.or_eq_false_iff] at ho
    have kn := forGo_none (i := i) ho.2 (fun ρ' h' => ex_none (Φ := Φ) (fu := fu) b ρ' ho.1 h') (xs.map ea) ρ hn
    cases e : Mp.forK f xs x0 with
    | bad => exact GQ.bad _
    | exc c fs =>
      rw [e] at this
      have h' : forGo t (ex Φ fu b) (xs.map ea) ρ = .ex c fs := this
      rw [h']
      exact GQ.exc _ _
    | ok x =>
      rw [e] at this
      obtain ⟨ρ', h1, r'⟩ := this
      rw [h1] at kn ⊢
      rw [back_nx kn]
      exact hk x _ (by rw [← hL']; exact r'.set ow')
theorem KN.forOV [GQ Q] {i : Nat} {d : D} {o : Bool} {L' : σ → Sl} {f : α → σ → R (LO σ γ)} {g : γ → R β} (hi : itVar it = some i) (ho : (occS i b || t.has i) = false) (hL : L[i]? = some (some (d, o))) (h : IT Φ it L ea s u AA) (hl : Le (L.set i none) (Lf x0)) (hb : ∀ x, TB t (Lf x) ow ea (L1 x)) (hq : RT Q ec own g) (hm : m = AA β fun xs => Mp.forO f xs x0 >>= fun r => r.k κ g) (hL' : ∀ x, (Lf x).set i (some (d, o)) = L' x) (hf : ∀ x v, KN Φ fu (QLO Lf ec own) (L1 x v) (f v x) [b]) (hk : ∀ x, KN Φ fu Q (L' x) (κ x) ss) : KN Φ fu Q L m (.for_ t it b :: ss) :=
  for_headV hi ho hL h hl hm fun xs ρ k ow' hn r => by
    have := forO_ref hb hf xs x0 ρ r
    rw [Bool.or_eq_false_iff] at ho
    have kn := forGo_none (i := i) ho.2 (fun ρ' h' => ex_none (Φ := Φ) (fu := fu) b ρ' ho.1 h') (xs.map ea) ρ hn
    cases e : Mp.forO f xs x0 with
    | bad => exact GQ.bad _
    | exc c fs =>
      rw [e] at this
      have h' : forGo t (ex Φ fu b) (xs.map ea) ρ = .ex c fs := this
      rw [h']
      exact GQ.exc _ _
    | ok x =>
      rw [e] at this
      cases x with
      | nx x =>
        obtain ⟨ρ', h1, r'⟩ := this
        rw [h1] at kn ⊢
        rw [back_nx kn]
        exact hk x _ (by rw [← hL']; exact r'.set ow')
      | rt v =>
        obtain ⟨k', h1, r'⟩ := this
        rw [h1]
        exact hq v k' r'
theorem KN.forBV [GQ Q] {i : Nat} {d : D} {o : Bool} {L' : σ → Sl} {f : α → σ → R (LB σ γ)} {g : γ → R β} (hi : itVar it = some i) (ho : (occS i b || t.has i) = false) (hL : L[i]? = some (some (d, o))) (h : IT Φ it L ea s u AA) (hl : Le (L.set i none) (Lf x0)) (hb : ∀ x, TB t (Lf x) ow ea (L1 x)) (hq : RT Q ec own g) (hm : m = AA β fun xs => Mp.forB f xs x0 >>= fun r => r.k κ g) (hL' : ∀ x, (Lf x).set i (some (d, o)) = L' x) (hf : ∀ x v, KN Φ fu (QLB Lf ec own) (L1 x v) (f v x) [b]) (hk : ∀ x, KN Φ fu Q (L' x) (κ x) ss) : KN Φ fu Q L m (.for_ t it b :: ss) :=
  for_headV hi ho hL h hl hm fun xs ρ k ow' hn r => by
    have := forB_ref hb hf xs x0 ρ r
    rw [Bool.or_eq_false_iff] at ho
    have kn := forGo_none (i := i) ho.2 (fun ρ' h' => ex_none (Φ := Φ) (fu := fu) b ρ' ho.1 h') (xs.map ea) ρ hn
    cases e : Mp.forB f xs x0 with
    | bad => exact GQ.bad _
    | exc c fs =>
      rw [e] at this
      have h' : forGo t (ex Φ fu b) (xs.map ea) ρ = .ex c fs := this
      rw [h']
      exact GQ.exc _ _
    | ok x =>
      rw [e] at this
      cases x with
      | nx x =>
        obtain ⟨ρ', h1, r'⟩ := this
        rw [h1] at kn ⊢
        rw [back_nx kn]
        exact hk x _ (by rw [← hL']; exact r'.set ow')
      | rt v =>
        obtain ⟨k', h1, r'⟩ := this
        rw [h1]
        exact hq v k' r'
theorem whl_ref {TT : σ → (δ : Type) → (Bool → R δ) → R δ} {f : σ → R σ} (hc : ∀ x, ET Φ c (Lf x) (TT x)) (hf : ∀ x, KN Φ fu (QL Lf) (Lf x) (f x) [b]) : ∀ (n : Nat) (x : σ) (ρ : Env), Rel (Lf x) ρ → QJ Lf (whlR (fun x => TT x Bool .ok) f n x) (whlGo (tst Φ c) (ex Φ fu b) n ρ)
  | 0, x, ρ, r => trivial
  | n + 1, x, ρ, r => by
    obtain ⟨w, e1, e2⟩ := hc x
    have g := e2 ρ r
    have h := hf x ρ r
    rw [exs_1] at h
    show QJ Lf (TT x Bool .ok >>= _) (match tst Φ c ρ with | .ok true => (match ex Φ fu b ρ with | .nx ρ' => whlGo (tst Φ c) (ex Φ fu b) n ρ' | .ct ρ' => whlGo (tst Φ c) (ex Φ fu b) n ρ' | .bk ρ' => .nx ρ' | o => o) | .ok false => .nx ρ | .exc k fs => .ex k fs | .bad => .bad)
    rw [e1, R.bind_id]
    cases w with
    | bad => trivial
    | exc k fs =>
      have g' : tst Φ c ρ = .exc k fs := g
      rw [g']
      rfl
    | ok x1 =>
      obtain ⟨x2, g1, g2⟩ := g
      subst g2
      rw [g1]
      cases x2 with
      | false => exact ⟨ρ, rfl, r⟩
      | true =>
        show QJ Lf (f x >>= _) _
        dsimp only
        cases e : f x with
        | bad => trivial
        | exc c fs =>
          rw [e] at h
          have h' : ex Φ fu b ρ = .ex c fs := h
          rw [h']
          rfl
        | ok x' =>
          rw [e] at h
          obtain ⟨ρ', h1, r'⟩ := h
          rcases h1 with h1 | h1 <;> rw [h1] <;> exact whl_ref hc hf n x' ρ' r'
theorem whlO_ref {TT : σ → (δ : Type) → (Bool → R δ) → R δ} {f : σ → R (LO σ γ)} (hc : ∀ x, ET Φ c (Lf x) (TT x)) (hf : ∀ x, KN Φ fu (QLO Lf ec own) (Lf x) (f x) [b]) : ∀ (n : Nat) (x : σ) (ρ : Env), Rel (Lf x) ρ → QJR Lf ec own (whlO (fun x => TT x Bool .ok) f n x) (whlGo (tst Φ c) (ex Φ fu b) n ρ)
  | 0, x, ρ, r => trivial
  | n + 1, x, ρ, r => by
    obtain ⟨w, e1, e2⟩ := hc x
    have g := e2 ρ r
    have h := hf x ρ r
    rw [exs_1] at h
    show QJR Lf ec own (TT x Bool .ok >>= _) (match tst Φ c ρ with | .ok true => (match ex Φ fu b ρ with | .nx ρ' => whlGo (tst Φ c) (ex Φ fu b) n ρ' | .ct ρ' => whlGo (tst Φ c) (ex Φ fu b) n ρ' | .bk ρ' => .nx ρ' | o => o) | .ok false => .nx ρ | .exc k fs => .ex k fs | .bad => .bad)
    rw [e1, R.bind_id]
    cases w with
    | bad => trivial
    | exc k fs =>
      have g' : tst Φ c ρ = .exc k fs := g
      rw [g']
      rfl
    | ok x1 =>
      obtain ⟨x2, g1, g2⟩ := g
      subst g2
      rw [g1]
      cases x2 with
      | false => exact ⟨ρ, rfl, r⟩
      | true =>
        show QJR Lf ec own (f x >>= _) _
        dsimp only
        cases e : f x with
        | bad => trivial
        | exc c fs =>
          rw [e] at h
          have h' : ex Φ fu b ρ = .ex c fs := h
          rw [h']
          rfl
        | ok x' =>
          rw [e] at h
          cases x' with
          | nx x' =>
            obtain ⟨ρ', h1, r'⟩ := h
            rcases h1 with h1 | h1 <;> rw [h1] <;> exact whlO_ref hc hf n x' ρ' r'
          | rt v =>
            obtain ⟨k, h1, r'⟩ := h
            rw [h1]
            exact ⟨k, rfl, r'⟩
theorem KN.whl [GQ Q] {TT : σ → (δ : Type) → (Bool → R δ) → R δ} {f : σ → R σ} (hl : Le L (Lf x0)) (hc : ∀ x, ET Φ c (Lf x) (TT x)) (hm : m = whlR (fun x => TT x Bool .ok) f fu x0 >>= κ) (hf : ∀ x, KN Φ fu (QL Lf) (Lf x) (f x) [b]) (hk : ∀ x, KN Φ fu Q (Lf x) (κ x) ss) : KN Φ fu Q L m (.whl c b :: ss) :=
  KN.join (m0 := whlR (fun x => TT x Bool .ok) f fu x0) hm (fun ρ r => by
    rw [exs_1, ex]
    exact whl_ref hc hf fu x0 ρ (r.le hl)) hk
theorem KN.whlO [GQ Q] {TT : σ → (δ : Type) → (Bool → R δ) → R δ} {f : σ → R (LO σ γ)} {g : γ → R β} (hl : Le L (Lf x0)) (hc : ∀ x, ET Φ c (Lf x) (TT x)) (hq : RT Q ec own g) (hm : m = Mp.whlO (fun x => TT x Bool .ok) f fu x0 >>= fun r => r.k κ g) (hf : ∀ x, KN Φ fu (QLO Lf ec own) (Lf x) (f x) [b]) (hk : ∀ x, KN Φ fu Q (Lf x) (κ x) ss) : KN Φ fu Q L m (.whl c b :: ss) :=
  KN.joinR (m0 := Mp.whlO (fun x => TT x Bool .ok) f fu x0) hq hm (fun ρ r => by
    rw [exs_1, ex]
    exact whlO_ref hc hf fu x0 ρ (r.le hl)) hk
end loops
/-! defs -/
theorem Rel.start (ds : List D) (n : Nat) : Rel (ds.map (fun d => some (d, false)) ++ List.replicate n none) (ds.map sv ++ List.replicate n none) where
  len := by simp
  at_ := fun i d o e => by
    by_cases h : i < ds.length
    · rw [List.getElem?_append_left (by rw [List.length_map]; exact h), List.getElem?_map] at e ⊢
      cases q : ds[i]? with
      | none => rw [q] at e; cases e
      | some x =>
        rw [q] at e
        cases e
        exact ⟨0, rfl, Ow.F (Nat.zero_le _)⟩
    · rw [List.getElem?_append_right (by rw [List.length_map]; omega), List.getElem?_replicate] at e
      split at e <;> cases e
theorem FnR.run {np n : Nat} {ds : List D} {m : R α} (hl : ds.length = np) (h : KN Φ fu (QF ea own) (ds.map (fun d => some (d, false)) ++ List.replicate (n - ds.length) none) m [b]) : FnR (run Φ fu np n b) ds m ea own := by
  have := h _ (Rel.start ds (n - ds.length))
  rw [exs_1] at this
  unfold FnR Mp.run
  rw [if_pos hl]
  cases m with
  | bad => trivial
  | exc c fs =>
    have e : ex Φ fu b (ds.map sv ++ List.replicate (n - ds.length) none) = .ex c fs := this
    rw [e]
    rfl
  | ok v =>
    rcases this with ⟨k, e, h⟩ | ⟨ρ, e, h1⟩
    · rw [e]
      exact ⟨_, rfl, rfl, h⟩
    · rw [e]
      exact ⟨_, rfl, h1.symm, Ow.atm rfl⟩
theorem FnR.def_ {tab : List (Nat × Nat × S)} {np n j k : Nat} {ds : List D} {m : R α} (ht : tab[j]? = some (np, n, b)) (hl : ds.length = np) (h : KN (pphi fu tab k) fu (QF ea own) (ds.map (fun d => some (d, false)) ++ List.replicate (n - ds.length) none) m [b]) : FnR (pphi fu tab (k + 1) j) ds m ea own := by
  have := FnR.run (n := n) hl h
  unfold FnR at this ⊢
  rw [pphi, ht]
  exact this
end
end Mp

set_option Elab.async false
set_option linter.all false
set_option maxRecDepth 100000
/-! Ts5: shallow code: what the printer names besides. -/
namespace Mp
open PySem (Str)
/-- turns that a while may take -/
@[irreducible] def FU : Nat := 100000
theorem FU_eq : FU = 100000 := by unfold FU; rfl
abbrev eF1 {α : Type} (a : α → D) : α → D := fun x => D.lst [a x]
abbrev eF2 {α β : Type} (a : α → D) (b : β → D) : α × β → D := fun p => D.lst [a p.1, b p.2]
abbrev eF3 {α β γ : Type} (a : α → D) (b : β → D) (c : γ → D) : α × β × γ → D := fun p => D.lst [a p.1, b p.2.1, c p.2.2]
abbrev eF4 {α β γ δ : Type} (a : α → D) (b : β → D) (c : γ → D) (d : δ → D) : α × β × γ × δ → D := fun p => D.lst [a p.1, b p.2.1, c p.2.2.1, d p.2.2.2]
abbrev eF5 {α β γ δ ε : Type} (a : α → D) (b : β → D) (c : γ → D) (d : δ → D) (f : ε → D) : α × β × γ × δ × ε → D := fun p => D.lst [a p.1, b p.2.1, c p.2.2.1, d p.2.2.2.1, f p.2.2.2.2]
def unI : D → Option Int
  | .int i => some i
  | _ => none
theorem unI_ok (d : D) (i : Int) (h : unI d = some i) : eD d = eI i := by cases d <;> cases h; rfl
def unB : D → Option Bool
  | .bl i => some i
  | _ => none
theorem unB_ok (d : D) (i : Bool) (h : unB d = some i) : eD d = eB i := by cases d <;> cases h; rfl
def unS : D → Option Str
  | .str i => some i
  | _ => none
theorem unS_ok (d : D) (i : Str) (h : unS d = some i) : eD d = eS i := by cases d <;> cases h; rfl
theorem unD_ok (d : D) (i : D) (h : some d = some i) : eD d = eD i := by cases h; rfl
def unAll {α : Type} (u : D → Option α) : List D → Option (List α)
  | [] => some []
  | d :: ds => (u d).bind fun x => (unAll u ds).map (x :: ·)
theorem unAll_ok {α : Type} {u : D → Option α} {e : α → D} (h : ∀ d x, u d = some x → eD d = e x) : ∀ ds xs, unAll u ds = some xs → ds = xs.map e
  | [], xs, q => by cases q; rfl
  | d :: ds, xs, q => by
    unfold unAll at q
    cases hd : u d with
    | none => rw [hd] at q; cases q
    | some x =>
      rw [hd] at q
      cases hs : unAll u ds with
      | none => simp [hs] at q
      | some ys =>
        simp [hs] at q
        subst q
        rw [unAll_ok h ds ys hs, List.map_cons]
        congr 1
        exact h d x hd
def unL {α : Type} (u : D → Option α) : D → Option (List α)
  | .lst ds => unAll u ds
  | _ => none
theorem unL_ok {α : Type} {u : D → Option α} {e : α → D} (h : ∀ d x, u d = some x → eD d = e x) (d : D) (xs : List α) (q : unL u d = some xs) : eD d = eL e xs := by
  cases d <;> first | cases q | exact congrArg D.lst (unAll_ok h _ _ q)
def unT {α : Type} (u : D → Option α) : D → Option (List α)
  | .tup ds => unAll u ds
  | _ => none
theorem unT_ok {α : Type} {u : D → Option α} {e : α → D} (h : ∀ d x, u d = some x → eD d = e x) (d : D) (xs : List α) (q : unT u d = some xs) : eD d = eT e xs := by
  cases d <;> first | cases q | exact congrArg D.tup (unAll_ok h _ _ q)
theorem unAll_map {α : Type} {u : D → Option α} {e : α → D} (h : ∀ x, u (e x) = some x) : ∀ xs : List α, unAll u (xs.map e) = some xs
  | [] => rfl
  | x :: xs => by
    show (u (e x)).bind (fun y => (unAll u (xs.map e)).map (y :: ·)) = _
    rw [h, unAll_map h xs]
    rfl
def unF2 {α : Type} : List α → Option (α × α)
  | [a, b] => some (a, b)
  | _ => none
def unF3 {α : Type} : List α → Option (α × α × α)
  | [a, b, c] => some (a, b, c)
  | _ => none
theorem unF2_ok {α : Type} {e : α → D} (xs : List α) (p : α × α) (h : unF2 xs = some p) : eL e xs = eF2 e e p := by
  match xs, h with
  | [a, b], h => cases h; rfl
theorem unF3_ok {α : Type} {e : α → D} (xs : List α) (p : α × α × α) (h : unF3 xs = some p) : eL e xs = eF3 e e e p := by
  match xs, h with
  | [a, b, c], h => cases h; rfl
def lenR : D → R Int
  | .lst xs => .ok xs.length
  | .tup xs => .ok xs.length
  | _ => .bad
theorem lenR_ok (d : D) : RefR (fun y d => d = eI y) (lenR d) (bf .len [eD d]) := by
  cases d <;> first | trivial | exact .ok rfl
theorem listR_ok (d : D) : RefR (fun y d => d = eL eD y) (items d) (bf .list [eD d]) := by
  cases d with
  | lst xs => exact .ok (congrArg D.lst (List.map_id xs).symm)
  | tup xs => exact .ok (congrArg D.lst (List.map_id xs).symm)
  | _ => trivial
theorem tupleR_ok (d : D) : RefR (fun y d => d = eT eD y) (items d) (bf .tuple [eD d]) := by
  cases d with
  | lst xs => exact .ok (congrArg D.tup (List.map_id xs).symm)
  | tup xs => exact .ok (congrArg D.tup (List.map_id xs).symm)
  | _ => trivial
section
variable {Φ : Nat → Fn} {fu : Nat} {L : Sl} {α β γ δ ε : Type} {e a b c : M} {ea : α → D} {eb : β → D} {ec : γ → D} {ed : δ → D} {ee : ε → D} {s u s' u' : List Nat} {A : (δ : Type) → (α → R δ) → R δ}
theorem IT.dy {A : (δ : Type) → (D → R δ) → R δ} (h : EC Φ e L eD s u A) : IT Φ e L eD s u (fun δ κ => A δ fun x => items x >>= κ) := by
  obtain ⟨m, e1, e2⟩ := h
  refine ⟨m >>= items, fun δ κ => by show A δ _ = _; rw [e1, R.bind_assoc], fun ρ r => ?_⟩
  have := (e2 ρ r).bind (f := items) (g := R.ok) (Q := fun xs (v : V3) => Mp.items v.d = .ok (xs.map eD) ∧ Sub L v.s s ∧ Sub L v.t u) fun v x p => by
    have q := p.d
    cases v with
    | lst xs => exact .ok ⟨by rw [q]; exact congrArg R.ok (List.map_id xs).symm, p.s, p.u⟩
    | tup xs => exact .ok ⟨by rw [q]; exact congrArg R.ok (List.map_id xs).symm, p.s, p.u⟩
    | _ => trivial
  rwa [R.bind_id] at this
theorem EC.lstF {ds : α → List D} (h : EA Φ e L ds s u A) (g : α → β) (hg : ∀ v, D.lst (ds v) = eb (g v)) (hl : ∀ v, (ds v).length ≤ szl) : EC Φ (.lst e) L eb s s (fun δ κ => A δ fun x => κ (g x)) := by
  obtain ⟨m, e1, e2⟩ := h
  refine ⟨m >>= fun x => .ok (g x), fun δ κ => by show A δ _ = _; rw [e1, R.bind_assoc]; rfl, fun ρ r => ?_⟩
  rw [ev]
  refine (e2 ρ r).bind fun v x p => ?_
  rw [R.chk_t (by rw [p.d]; exact hl v)]
  exact .ok (.mk' (by rw [p.d, hg]) p.s)
theorem KN.unpP {κ : α → R β} {m : R β} {ss : List S} {Q : R β → Out → Prop} [GQ Q] {is own : List Nat} {L1 L' : α → Sl} (h : EC Φ e L ea s u A) (hb : TB (.names is) (L.frz s) own ea L1) (hm : m = A β (fun v => R.ok v >>= κ)) (hL : ∀ v, L1 v = L' v) (hk : ∀ v, KN Φ fu Q (L' v) (κ v) ss) : KN Φ fu Q L m (.unp is e :: ss) := KN.unp h hb hm hL hk
theorem TB.names2F {i j : Nat} : TB (.names [i, j]) L [i, j] (eF2 ea eb) (fun v => (L.set i (some (ea v.1, false))).set j (some (eb v.2, false))) where
  go := fun v ρ r => ⟨_, rfl, r.setF.setF⟩
  at_ := TB.names2.at_
theorem TB.names3F {i j k : Nat} : TB (.names [i, j, k]) L [i, j, k] (eF3 ea eb ec) (fun v => ((L.set i (some (ea v.1, false))).set j (some (eb v.2.1, false))).set k (some (ec v.2.2, false))) where
  go := fun v ρ r => ⟨_, rfl, r.setF.setF.setF⟩
  at_ := TB.names3.at_
theorem TB.names4 {i j k l : Nat} : TB (.names [i, j, k, l]) L [i, j, k, l] (eP4 ea eb ec ed) (fun v => (((L.set i (some (ea v.1, false))).set j (some (eb v.2.1, false))).set k (some (ec v.2.2.1, false))).set l (some (ed v.2.2.2, false))) where
  go := fun v ρ r => ⟨_, rfl, r.setF.setF.setF.setF⟩
  at_ := fun v q h => by
    simp only [List.mem_cons, List.not_mem_nil, or_false, not_or] at h
    rw [set_other h.2.2.2, set_other h.2.2.1, set_other h.2.1, set_other h.1]
theorem TB.names5 {i j k l n : Nat} : TB (.names [i, j, k, l, n]) L [i, j, k, l, n] (eP5 ea eb ec ed ee) (fun v => ((((L.set i (some (ea v.1, false))).set j (some (eb v.2.1, false))).set k (some (ec v.2.2.1, false))).set l (some (ed v.2.2.2.1, false))).set n (some (ee v.2.2.2.2, false))) where
  go := fun v ρ r => ⟨_, rfl, r.setF.setF.setF.setF.setF⟩
  at_ := fun v q h => by
    simp only [List.mem_cons, List.not_mem_nil, or_false, not_or] at h
    rw [set_other h.2.2.2.2, set_other h.2.2.2.1, set_other h.2.2.1, set_other h.2.1, set_other h.1]
/-- membership among plain data -/
theorem any_in [DecidableEq α] {n : Nat} (hp : Pl n ea) (x : α) : ∀ ys : List α, ((ys.map ea).any fun y => eqD y (ea x)) = decide (x ∈ ys)
  | [] => rfl
  | y :: ys => by
    rw [List.map_cons, List.any_cons, any_in hp x ys, hp.eq]
    by_cases h : y = x
    · subst h; simp
    · have h' : ¬ x = y := fun q => h q.symm
      simp [h, h']
theorem all_atomic (ha : ∀ x, atomic (ea x) = true) : ∀ ys : List α, (ys.map ea).all atomic = true
  | [] => rfl
  | y :: ys => by rw [List.map_cons, List.all_cons, ha, all_atomic ha ys]; rfl
section mem
variable {B : (δ : Type) → (List α → R δ) → R δ} [DecidableEq α] {n : Nat}
theorem EC.inL (hp : Pl n ea) (ha : ∀ x, atomic (ea x) = true) (h : EC Φ a L ea s u A) (h' : EC Φ b L (eL ea) s' u' B) : EC Φ (.cmp .in_ a b) L eB [] [] (fun δ κ => A δ fun x => B δ fun y => κ (decide (x ∈ y))) :=
  EC.map2p (f := .cmp .in_) (dg := fun x y => cop .in_ x.d y.d >>= fun z => .ok (.at (.bl z))) (fun ρ => rfl) h h' fun v w x y p q => by
    rw [p.d, q.d]
    show ∃ z, (R.chk (atomic (ea v) = true ∧ (w.map ea).all atomic = true) (.ok ((w.map ea).any fun y => eqD y (ea v))) >>= _) = _ ∧ _
    rw [R.chk_t ⟨ha v, all_atomic ha w⟩, any_in hp]
    exact ⟨_, rfl, rfl, Sub.nil, Sub.nil⟩
theorem EC.inT (hp : Pl n ea) (ha : ∀ x, atomic (ea x) = true) (h : EC Φ a L ea s u A) (h' : EC Φ b L (eT ea) s' u' B) : EC Φ (.cmp .in_ a b) L eB [] [] (fun δ κ => A δ fun x => B δ fun y => κ (decide (x ∈ y))) :=
  EC.map2p (f := .cmp .in_) (dg := fun x y => cop .in_ x.d y.d >>= fun z => .ok (.at (.bl z))) (fun ρ => rfl) h h' fun v w x y p q => by
    rw [p.d, q.d]
    show ∃ z, (R.chk (atomic (ea v) = true ∧ (w.map ea).all atomic = true) (.ok ((w.map ea).any fun y => eqD y (ea v))) >>= _) = _ ∧ _
    rw [R.chk_t ⟨ha v, all_atomic ha w⟩, any_in hp]
    exact ⟨_, rfl, rfl, Sub.nil, Sub.nil⟩
theorem EC.ninL (hp : Pl n ea) (ha : ∀ x, atomic (ea x) = true) (h : EC Φ a L ea s u A) (h' : EC Φ b L (eL ea) s' u' B) : EC Φ (.cmp .nin a b) L eB [] [] (fun δ κ => A δ fun x => B δ fun y => κ (!decide (x ∈ y))) :=
  EC.map2p (f := .cmp .nin) (dg := fun x y => cop .nin x.d y.d >>= fun z => .ok (.at (.bl z))) (fun ρ => rfl) h h' fun v w x y p q => by
    rw [p.d, q.d]
    show ∃ z, (R.chk (atomic (ea v) = true ∧ (w.map ea).all atomic = true) (.ok (!(w.map ea).any fun y => eqD y (ea v))) >>= _) = _ ∧ _
    rw [R.chk_t ⟨ha v, all_atomic ha w⟩, any_in hp]
    exact ⟨_, rfl, rfl, Sub.nil, Sub.nil⟩
theorem EC.ninT (hp : Pl n ea) (ha : ∀ x, atomic (ea x) = true) (h : EC Φ a L ea s u A) (h' : EC Φ b L (eT ea) s' u' B) : EC Φ (.cmp .nin a b) L eB [] [] (fun δ κ => A δ fun x => B δ fun y => κ (!decide (x ∈ y))) :=
  EC.map2p (f := .cmp .nin) (dg := fun x y => cop .nin x.d y.d >>= fun z => .ok (.at (.bl z))) (fun ρ => rfl) h h' fun v w x y p q => by
    rw [p.d, q.d]
    show ∃ z, (R.chk (atomic (ea v) = true ∧ (w.map ea).all atomic = true) (.ok (!(w.map ea).any fun y => eqD y (ea v))) >>= _) = _ ∧ _
    rw [R.chk_t ⟨ha v, all_atomic ha w⟩, any_in hp]
    exact ⟨_, rfl, rfl, Sub.nil, Sub.nil⟩
end mem
end
end Mp
namespace Mp
section
variable {Φ : Nat → Fn} {fu : Nat} {L : Sl} {β γ : Type} {Q : R β → Out → Prop} {ec : γ → D} {m : R β} {ss : List S}
/-- a name that may be none, where it must not be -/
theorem KN.narrow [GQ Q] {i : Nat} {o : Option γ} {w : Bool} {κ : γ → R β} {LS : γ → Sl} (hL : L[i]? = some (some (eO ec o, w))) (hm : m = orBad o >>= κ) (hs : ∀ v, L.set i (some (ec v, w)) = LS v) (hk : ∀ v, KN Φ fu Q (LS v) (κ v) ss) : KN Φ fu Q L m ss := fun ρ r => by
  rw [hm]
  cases o with
  | none => exact GQ.bad _
  | some v =>
    refine hk v ρ ?_
    rw [← hs]
    have g : L.set i (some (ec v, w)) = L := by
      apply List.ext_getElem?
      intro j
      rw [List.getElem?_set]
      by_cases q : i = j
      · subst q
        have := (List.getElem?_eq_some_iff.mp hL).1
        rw [if_pos rfl, if_pos this, hL]
        rfl
      · rw [if_neg q]
    rw [g]
    exact r
theorem EO.sm {α : Type} {e : M} {ea : α → D} {s : List Nat} {A : (δ : Type) → (α → R δ) → R δ} {w : Bool} (h : EO Φ e L ea s w A) : EO Φ e L (eO ea) s w (fun δ κ => A δ fun x => κ (some x)) := EO.as h fun _ => rfl
theorem EO.dyn {α : Type} {e : M} {ea : α → D} {s : List Nat} {A : (δ : Type) → (α → R δ) → R δ} {w : Bool} (h : EO Φ e L ea s w A) : EO Φ e L eD s w (fun δ κ => A δ fun x => κ (ea x)) := EO.as h fun _ => rfl
theorem items_id (xs : List D) : xs.map eD = xs := List.map_id xs
/-- the items of a datum -/
def itF2 (d : D) : Option (D × D) := match d with
  | .lst [a, b] => some (a, b)
  | .tup [a, b] => some (a, b)
  | _ => none
def itF3 (d : D) : Option (D × D × D) := match d with
  | .lst [a, b, c] => some (a, b, c)
  | .tup [a, b, c] => some (a, b, c)
  | _ => none
def itF4 (d : D) : Option (D × D × D × D) := match d with
  | .lst [a, b, c, e] => some (a, b, c, e)
  | .tup [a, b, c, e] => some (a, b, c, e)
  | _ => none
def itF5 (d : D) : Option (D × D × D × D × D) := match d with
  | .lst [a, b, c, e, f] => some (a, b, c, e, f)
  | .tup [a, b, c, e, f] => some (a, b, c, e, f)
  | _ => none
end
/-- .. of a datum whose items are as many as the names -/
structure IF {α : Type} (g : D → Option α) (ds : α → List D) : Prop where
  ok : ∀ d v, g d = some v → d = .lst (ds v) ∨ d = .tup (ds v)
theorem IF.f2 : IF itF2 (fun p => [p.1, p.2]) := ⟨fun d v h => by
  unfold itF2 at h
  split at h <;> cases h <;> first | exact .inl rfl | exact .inr rfl⟩
theorem IF.f3 : IF itF3 (fun p => [p.1, p.2.1, p.2.2]) := ⟨fun d v h => by
  unfold itF3 at h
  split at h <;> cases h <;> first | exact .inl rfl | exact .inr rfl⟩
theorem IF.f4 : IF itF4 (fun p => [p.1, p.2.1, p.2.2.1, p.2.2.2]) := ⟨fun d v h => by
  unfold itF4 at h
  split at h <;> cases h <;> first | exact .inl rfl | exact .inr rfl⟩
theorem IF.f5 : IF itF5 (fun p => [p.1, p.2.1, p.2.2.1, p.2.2.2.1, p.2.2.2.2]) := ⟨fun d v h => by
  unfold itF5 at h
  split at h <;> cases h <;> first | exact .inl rfl | exact .inr rfl⟩
section
variable {Φ : Nat → Fn} {fu : Nat} {L : Sl} {α β : Type} {Q : R β → Out → Prop} {m : R β} {ss : List S} {e : M} {s u : List Nat} {A : (δ : Type) → (D → R δ) → R δ}
/-- names for the items of a datum -/
theorem KN.unpD [GQ Q] {is own : List Nat} {L1 L' : α → Sl} {g : D → Option α} {ds : α → List D} {κ : α → R β} (hi : IF g ds) (h : EC Φ e L eD s u A) (hb : TB (.names is) (L.frz s) own (fun v => D.tup (ds v)) L1) (hm : m = A β fun d => orBad (g d) >>= κ) (hL : ∀ v, L1 v = L' v) (hk : ∀ v, KN Φ fu Q (L' v) (κ v) ss) : KN Φ fu Q L m (.unp is e :: ss) := fun ρ r => by
  obtain ⟨w, e1, e2⟩ := h
  rw [hm, e1]
  unfold exs
  rw [ex]
  have q : ∀ ρ : Env, (do let x ← ev Φ e ρ; let ds ← Mp.items x.d; orBad (setAll is ds (ρ.frz x.s)) : R Env).out .nx = (ev Φ e ρ).out fun x => (Mp.items x.d >>= fun ds => orBad (setAll is ds (ρ.frz x.s))).out .nx := fun ρ => by cases ev Φ e ρ <;> rfl
  rw [q, out_then]
  refine GQ.bind (e2 ρ r) fun d x p => ?_
  rw [p.d]
  cases hg : g d with
  | none => exact GQ.bad _
  | some v =>
    obtain ⟨ρ1, q1, q2⟩ := hb.go v _ (r.frz p.s)
    have q1' : orBad (setAll is (ds v) (ρ.frz x.s)) = R.ok ρ1 := q1
    rcases hi.ok d v hg with e | e
    · rw [e]
      show Q (κ v) (((orBad (setAll is (ds v) (ρ.frz x.s))).out Out.nx).then _)
      rw [q1']
      exact hk v ρ1 (hL v ▸ q2)
    · rw [e]
      show Q (κ v) (((orBad (setAll is (ds v) (ρ.frz x.s))).out Out.nx).then _)
      rw [q1']
      exact hk v ρ1 (hL v ▸ q2)
theorem TB.d2 {i j : Nat} : TB (.names [i, j]) L [i, j] (fun p : D × D => D.tup [p.1, p.2]) (fun v => (L.set i (some (v.1, false))).set j (some (v.2, false))) := TB.names2 (ea := eD) (eb := eD)
theorem TB.d3 {i j k : Nat} : TB (.names [i, j, k]) L [i, j, k] (fun p : D × D × D => D.tup [p.1, p.2.1, p.2.2]) (fun v => ((L.set i (some (v.1, false))).set j (some (v.2.1, false))).set k (some (v.2.2, false))) := TB.names3 (ea := eD) (eb := eD) (ec := eD)
theorem TB.d4 {i j k l : Nat} : TB (.names [i, j, k, l]) L [i, j, k, l] (fun p : D × D × D × D => D.tup [p.1, p.2.1, p.2.2.1, p.2.2.2]) (fun v => (((L.set i (some (v.1, false))).set j (some (v.2.1, false))).set k (some (v.2.2.1, false))).set l (some (v.2.2.2, false))) := TB.names4 (ea := eD) (eb := eD) (ec := eD) (ed := eD)
theorem TB.d5 {i j k l n : Nat} : TB (.names [i, j, k, l, n]) L [i, j, k, l, n] (fun p : D × D × D × D × D => D.tup [p.1, p.2.1, p.2.2.1, p.2.2.2.1, p.2.2.2.2]) (fun v => ((((L.set i (some (v.1, false))).set j (some (v.2.1, false))).set k (some (v.2.2.1, false))).set l (some (v.2.2.2.1, false))).set n (some (v.2.2.2.2, false))) := TB.names5 (ea := eD) (eb := eD) (ec := eD) (ed := eD) (ee := eD)
/-- slices of a datum -/
def slD (d : D) (l h : Option Int) : R D := match d with
  | .lst xs => .ok (.lst (cut xs l h))
  | .tup xs => .ok (.tup (cut xs l h))
  | _ => .bad
theorem slD_ref {v : D} {x : V3} {l h : Option Int} (p : EV L eD s u v x) : RefR (EV L eD u u) (slD v l h) (match x.d with | .lst xs => R.ok (V3.new (.lst (cut xs l h)) x.t) | .tup xs => R.ok (V3.new (.tup (cut xs l h)) x.t) | _ => .bad) := by
  have q := p.d
  unfold slD
  cases v with
  | lst xs => rw [q]; exact .ok (.mk' rfl p.u)
  | tup xs => rw [q]; exact .ok (.mk' rfl p.u)
  | _ => trivial
theorem EC.slD1 {a lo : M} {s' u' : List Nat} {I : (δ : Type) → (Int → R δ) → R δ} (h : EC Φ a L eD s u A) (hlo : isCN lo = false) (h' : EC Φ lo L eI s' u' I) : EC Φ (.sl a lo (.con .non)) L eD u u (fun δ κ => A δ fun x => I δ fun i => slD x (some i) none >>= κ) := by
  obtain ⟨m, e1, e2⟩ := h
  obtain ⟨m', e1', e2'⟩ := h'
  refine ⟨m >>= fun x => m' >>= fun i => slD x (some i) none, fun δ κ => ?_, fun ρ r => ?_⟩
  · show A δ _ = _
    rw [e1, R.bind_assoc]
    congr 1
    funext x
    rw [e1', R.bind_assoc]
  · rw [ev]
    refine (e2 ρ r).bind fun v x p => (e2' ρ r).bind fun i y q => ?_
    rw [q.d, part_int hlo, ev, R.bind_ok, R.bind_ok]
    exact slD_ref p
theorem EC.slD2 {a hi : M} {s' u' : List Nat} {I : (δ : Type) → (Int → R δ) → R δ} (h : EC Φ a L eD s u A) (hhi : isCN hi = false) (h' : EC Φ hi L eI s' u' I) : EC Φ (.sl a (.con .non) hi) L eD u u (fun δ κ => A δ fun x => I δ fun i => slD x none (some i) >>= κ) := by
  obtain ⟨m, e1, e2⟩ := h
  obtain ⟨m', e1', e2'⟩ := h'
  refine ⟨m >>= fun x => m' >>= fun i => slD x none (some i), fun δ κ => ?_, fun ρ r => ?_⟩
  · show A δ _ = _
    rw [e1, R.bind_assoc]
    congr 1
    funext x
    rw [e1', R.bind_assoc]
  · rw [ev]
    refine (e2 ρ r).bind fun v x p => ?_
    rw [ev, R.bind_ok]
    refine (e2' ρ r).bind fun i y q => ?_
    rw [q.d, part_int hhi]
    show RefR _ _ (R.ok none >>= fun l => R.ok (some i) >>= fun h => _)
    rw [R.bind_ok, R.bind_ok]
    exact slD_ref p
end
end Mp

set_option Elab.async false
set_option linter.all false
set_option maxRecDepth 100000
/-! Va: shallow code reckoned: what its words are worth. -/
namespace Mp
theorem chk_of {α : Type} {c : Prop} [Decidable c] (h : c) (x : R α) : R.chk c x = x := R.chk_t h x
/-- the item at i -/
def gi (ns : List Int) (i : Int) : Int := ns.getD i.toNat 0
theorem atR_gi {ns : List Int} {i : Int} (h : 0 ≤ i) (h2 : i < ns.length) : atR ns i = .ok (gi ns i) := by
  unfold atR atI ixN
  rw [if_pos h, if_pos h2]
  have h3 : i.toNat < ns.length := by omega
  show orBad (ns[i.toNat]?) = _
  unfold gi
  rw [List.getD_eq_getElem?_getD, List.getElem?_eq_getElem h3]
  rfl
theorem atR_get {α : Type} {ns : List α} {i : Int} {x : α} (h : 0 ≤ i) (h2 : ns[i.toNat]? = some x) : atR ns i = .ok x := by
  have h3 := (List.getElem?_eq_some_iff.mp h2).1
  unfold atR atI ixN
  rw [if_pos h, if_pos (by omega)]
  show orBad (ns[i.toNat]?) = _
  rw [h2]
  rfl
theorem gi_mem {ns : List Int} {i : Int} (h : 0 ≤ i) (h2 : i < ns.length) : gi ns i ∈ ns := by
  have h3 : i.toNat < ns.length := by omega
  unfold gi
  rw [List.getD_eq_getElem?_getD, List.getElem?_eq_getElem h3]
  exact List.getElem_mem h3
theorem fmodR_ok {i j : Int} (h : j ≠ 0) : fmodR i j = .ok (i.fmod j) := R.chk_t h _
theorem fdivR_ok {i j : Int} (h : 0 < j) (h2 : j < 1073741824) : fdivR i j = .ok (i.fdiv j) := R.chk_t ⟨by omega, by omega⟩ _
theorem rng_ok1 {i : Int} (h : i.natAbs < 1000000000) : rngOk i := by unfold rngOk; omega
theorem rngR_ok {i : Int} (h : i.natAbs < 1000000000) : rngR i = .ok (upI 0 i.toNat) := R.chk_t (rng_ok1 h) _
theorem rng2R_ok {i j : Int} (h : i.natAbs < 1000000000) (h2 : j.natAbs < 1000000000) : rng2R i j = .ok (upI i (j - i).toNat) := R.chk_t ⟨rng_ok1 h, rng_ok1 h2⟩ _
theorem appR_ok {α : Type} {xs : List α} {x : α} (h : xs.length < 1000000) : appR xs x = .ok (xs ++ [x]) := R.chk_t (by unfold szl; omega) _
theorem catR_ok {α : Type} {xs ys : List α} (h : xs.length + ys.length < 1000000) : catR xs ys = .ok (xs ++ ys) := R.chk_t (by unfold szl; omega) _
theorem setR_ok {α : Type} {xs : List α} {i : Int} {x : α} (h : 0 ≤ i) (h2 : i < xs.length) : setR xs i x = .ok (xs.set i.toNat x) := by
  unfold setR ixN
  rw [if_pos h, if_pos h2]
  rfl
theorem upI_0 (lo : Int) : upI lo 0 = [] := rfl
theorem upI_s (lo : Int) (n : Nat) : upI lo (n + 1) = lo :: upI (lo + 1) n := by
  unfold upI
  rw [List.range_succ_eq_map, List.map_cons, List.map_map]
  congr 1
  · simp
  · apply List.map_congr_left
    intro i _
    show lo + ((i + 1 : Nat) : Int) = lo + 1 + i
    omega
theorem upI_length (lo : Int) (n : Nat) : (upI lo n).length = n := by
  unfold upI
  rw [List.length_map, List.length_range]
theorem upI_mem {lo x : Int} {n : Nat} : x ∈ upI lo n ↔ lo ≤ x ∧ x < lo + n := by
  unfold upI
  rw [List.mem_map]
  constructor
  · rintro ⟨i, hi, e⟩
    have := List.mem_range.mp hi
    omega
  · rintro ⟨h1, h2⟩
    exact ⟨(x - lo).toNat, List.mem_range.mpr (by omega), by omega⟩
theorem mapR_map {α β : Type} {f : α → R β} {g : α → β} : ∀ {xs : List α}, (∀ x ∈ xs, f x = .ok (g x)) → mapR f xs = .ok (xs.map g)
  | [], _ => rfl
  | x :: xs, h => by
    show (f x >>= fun y => mapR f xs >>= fun ys => .ok (y :: ys)) = _
    rw [h x List.mem_cons_self, mapR_map fun y hy => h y (List.mem_cons_of_mem _ hy)]
    rfl
theorem lcR_map {α β : Type} {f : α → R β} {g : α → β} {xs : List α} (hl : xs.length < 1000000) (h : ∀ x ∈ xs, f x = .ok (g x)) : lcR f xs = .ok (xs.map g) := by
  unfold lcR
  rw [mapR_map h]
  exact R.chk_t (by rw [List.length_map]; unfold szl; omega) _
/-- a property of each item -/
theorem mapR_all {α β : Type} {f : α → R β} {P : β → Prop} : ∀ {xs : List α}, (∀ x ∈ xs, ∃ y, f x = .ok y ∧ P y) → ∃ ys, mapR f xs = .ok ys ∧ ys.length = xs.length ∧ ∀ y ∈ ys, P y
  | [], _ => ⟨[], rfl, rfl, fun _ h => by cases h⟩
  | x :: xs, h => by
    obtain ⟨y, e, p⟩ := h x List.mem_cons_self
    obtain ⟨ys, e2, l, q⟩ := mapR_all fun z hz => h z (List.mem_cons_of_mem _ hz)
    refine ⟨y :: ys, ?_, by rw [List.length_cons, l, List.length_cons], fun z hz => ?_⟩
    · show (f x >>= fun y => mapR f xs >>= fun ys => .ok (y :: ys)) = _
      rw [e, e2]
      rfl
    · rcases List.mem_cons.mp hz with r | r
      · subst r; exact p
      · exact q z r
theorem lcR_all {α β : Type} {f : α → R β} {P : β → Prop} {xs : List α} (hl : xs.length < 1000000) (h : ∀ x ∈ xs, ∃ y, f x = .ok y ∧ P y) : ∃ ys, lcR f xs = .ok ys ∧ ys.length = xs.length ∧ ∀ y ∈ ys, P y := by
  obtain ⟨ys, e, l, q⟩ := mapR_all h
  refine ⟨ys, ?_, l, q⟩
  unfold lcR
  rw [e]
  exact R.chk_t (by rw [l]; unfold szl; omega) _
/-! loops over a range, by the state at each turn -/
theorem forR_up {σ : Type} {f : Int → σ → R σ} (s : Nat → σ) : ∀ (n : Nat) (lo : Int) (k : Nat), (∀ j, k ≤ j → j < k + n → f (lo + (j - k : Nat)) (s j) = .ok (s (j + 1))) → forR f (upI lo n) (s k) = .ok (s (k + n))
  | 0, lo, k, _ => rfl
  | n + 1, lo, k, h => by
    rw [upI_s]
    show (f lo (s k) >>= fun s' => forR f (upI (lo + 1) n) s') = _
    have h0 := h k (Nat.le_refl _) (by omega)
    rw [Nat.sub_self, show lo + ((0 : Nat) : Int) = lo by omega] at h0
    rw [h0, R.bind_ok, forR_up s n (lo + 1) (k + 1) fun j h1 h2 => by
      have := h j (by omega) (by omega)
      rw [show lo + ((j - k : Nat) : Int) = lo + 1 + ((j - (k + 1) : Nat) : Int) by omega] at this
      exact this]
    rw [show k + 1 + n = k + (n + 1) by omega]
theorem forR_range {σ : Type} {f : Int → σ → R σ} {x : σ} (s : Nat → σ) (n : Nat) (lo : Int) (h0 : x = s 0) (h : ∀ j : Nat, j < n → f (lo + j) (s j) = .ok (s (j + 1))) : forR f (upI lo n) x = .ok (s n) := by
  rw [h0]
  have := forR_up s n lo 0 fun j h1 h2 => by
    have := h j (by omega)
    rw [show j - 0 = j by omega]
    exact this
  rwa [Nat.zero_add] at this
/-- .. an invariant in place of the state -/
theorem forR_inv {α σ : Type} {f : α → σ → R σ} (P : Nat → σ → Prop) : ∀ (xs : List α) (k : Nat) (s : σ), P k s → (∀ j x s, xs[j]? = some x → P (k + j) s → ∃ s', f x s = .ok s' ∧ P (k + j + 1) s') → ∃ s', forR f xs s = .ok s' ∧ P (k + xs.length) s'
  | [], k, s, h, _ => ⟨s, rfl, h⟩
  | x :: xs, k, s, h, st => by
    obtain ⟨s1, e1, h1⟩ := st 0 x s rfl h
    obtain ⟨s2, e2, h2⟩ := forR_inv P xs (k + 1) s1 h1 fun j y s e q => by
      have := st (j + 1) y s (by simpa using e) (by rw [show k + (j + 1) = k + 1 + j by omega]; exact q)
      rw [show k + (j + 1) + 1 = k + 1 + j + 1 by omega] at this
      exact this
    refine ⟨s2, ?_, by rw [List.length_cons, show k + (xs.length + 1) = k + 1 + xs.length by omega]; exact h2⟩
    show (f x s >>= _) = _
    rw [e1]
    exact e2
theorem upI_get {lo x : Int} {n j : Nat} (h : (upI lo n)[j]? = some x) : x = lo + j ∧ j < n := by
  have hj := (List.getElem?_eq_some_iff.mp h).1
  rw [upI_length] at hj
  unfold upI at h
  rw [List.getElem?_map, List.getElem?_range hj] at h
  cases h
  exact ⟨rfl, hj⟩
theorem forR_upinv {σ : Type} {f : Int → σ → R σ} (P : Nat → σ → Prop) (n : Nat) (lo : Int) {s : σ} (h0 : P 0 s) (h : ∀ (j : Nat) (s : σ), j < n → P j s → ∃ s', f (lo + j) s = .ok s' ∧ P (j + 1) s') : ∃ s', forR f (upI lo n) s = .ok s' ∧ P n s' := by
  obtain ⟨s', e, q⟩ := forR_inv (f := f) P (upI lo n) 0 s h0 fun j x s e q => by
    obtain ⟨rfl, hj⟩ := upI_get e
    rw [Nat.zero_add] at q ⊢
    exact h j s hj q
  rw [upI_length, Nat.zero_add] at q
  exact ⟨s', e, q⟩
/-- a walk that may end early: where it ends -/
theorem forO_inv {α σ γ : Type} {f : α → σ → R (LO σ γ)} (P : Nat → σ → Prop) (E : γ → Prop) : ∀ (xs : List α) (k : Nat) (s : σ), P k s → (∀ j x s, xs[j]? = some x → P (k + j) s → (∃ s', f x s = .ok (.nx s') ∧ P (k + j + 1) s') ∨ ∃ v, f x s = .ok (.rt v) ∧ E v) →
    (∃ s', forO f xs s = .ok (.nx s') ∧ P (k + xs.length) s') ∨ ∃ v, forO f xs s = .ok (.rt v) ∧ E v
  | [], k, s, h, _ => .inl ⟨s, rfl, h⟩
  | x :: xs, k, s, h, st => by
    rcases st 0 x s rfl h with ⟨s1, e1, h1⟩ | ⟨v, e1, h1⟩
    · rcases forO_inv P E xs (k + 1) s1 h1 fun j y s e q => by
        have := st (j + 1) y s (by simpa using e) (by rw [show k + (j + 1) = k + 1 + j by omega]; exact q)
        rw [show k + (j + 1) + 1 = k + 1 + j + 1 by omega] at this
        exact this with ⟨s2, e2, h2⟩ | ⟨v, e2, h2⟩
      · refine .inl ⟨s2, ?_, by rw [List.length_cons, show k + (xs.length + 1) = k + 1 + xs.length by omega]; exact h2⟩
        show (f x s >>= _) = _
        rw [e1]
        exact e2
      · refine .inr ⟨v, ?_, h2⟩
        show (f x s >>= _) = _
        rw [e1]
        exact e2
    · refine .inr ⟨v, ?_, h1⟩
      show (f x s >>= _) = _
      rw [e1]
      rfl
theorem forO_upinv {σ γ : Type} {f : Int → σ → R (LO σ γ)} (P : Nat → σ → Prop) (E : γ → Prop) (n : Nat) (lo : Int) {s : σ} (h0 : P 0 s) (h : ∀ (j : Nat) (s : σ), j < n → P j s → (∃ s', f (lo + j) s = .ok (.nx s') ∧ P (j + 1) s') ∨ ∃ v, f (lo + j) s = .ok (.rt v) ∧ E v) :
    (∃ s', forO f (upI lo n) s = .ok (.nx s') ∧ P n s') ∨ ∃ v, forO f (upI lo n) s = .ok (.rt v) ∧ E v := by
  have := forO_inv (f := f) P E (upI lo n) 0 s h0 fun j x s e q => by
    obtain ⟨rfl, hj⟩ := upI_get e
    rw [Nat.zero_add] at q ⊢
    exact h j s hj q
  rw [upI_length, Nat.zero_add] at this
  exact this
/-- all items pass, or one does not: a check of each -/
theorem forO_all {α γ : Type} {f : α → Unit → R (LO Unit γ)} {p : α → Bool} {v : γ} : ∀ (xs : List α), (∀ x ∈ xs, f x () = .ok (if p x then .nx () else .rt v)) → forO f xs () = .ok (if xs.all p then .nx () else .rt v)
  | [], _ => rfl
  | x :: xs, h => by
    show (f x () >>= _) = _
    rw [h x List.mem_cons_self, List.all_cons]
    cases p x with
    | true => exact forO_all xs fun y hy => h y (List.mem_cons_of_mem _ hy)
    | false => rfl
theorem forR_unit {α : Type} {f : α → Unit → R Unit} : ∀ (xs : List α), (∀ x ∈ xs, f x () = .ok ()) → forR f xs () = .ok ()
  | [], _ => rfl
  | x :: xs, h => by
    show (f x () >>= _) = _
    rw [h x List.mem_cons_self]
    exact forR_unit xs fun y hy => h y (List.mem_cons_of_mem _ hy)
@[simp] theorem orBad_some {α : Type} (x : α) : orBad (some x) = .ok x := rfl
@[simp] theorem unI_int (i : Int) : unI (.int i) = some i := rfl
@[simp] theorem isTy_int_int (i : Int) : isTy (.int i) .int = true := rfl
@[simp] theorem isTy_int_bool (i : Int) : isTy (.int i) .bool = false := rfl
@[simp] theorem isTy_lst_list (xs : List D) : isTy (.lst xs) .list = true := rfl
@[simp] theorem isTy_lst_tuple (xs : List D) : isTy (.lst xs) .tuple = false := rfl
@[simp] theorem isTy_tup_tuple (xs : List D) : isTy (.tup xs) .tuple = true := rfl
@[simp] theorem isTy_tup_list (xs : List D) : isTy (.tup xs) .list = false := rfl
@[simp] theorem lenR_lst (xs : List D) : lenR (.lst xs) = .ok xs.length := rfl
@[simp] theorem lenR_tup (xs : List D) : lenR (.tup xs) = .ok xs.length := rfl
@[simp] theorem items_lst (xs : List D) : items (.lst xs) = .ok xs := rfl
@[simp] theorem items_tup (xs : List D) : items (.tup xs) = .ok xs := rfl
theorem enumI_mem {α : Type} {xs : List α} {p : Int × α} (h : p ∈ enumI xs) : ∃ j : Nat, p.1 = j ∧ xs[j]? = some p.2 := by
  unfold enumI at h
  obtain ⟨j, hj, e⟩ := List.mem_iff_getElem.mp h
  have hj' : j < xs.length := by
    have := hj
    simp at this
    omega
  refine ⟨j, ?_, ?_⟩
  · rw [← e]; simp
  · rw [← e]; simp [hj']
theorem fmod_nn (a : Int) {n : Int} (h : 0 < n) : 0 ≤ a.fmod n := Int.fmod_nonneg_of_pos a h
theorem fmod_lt (a : Int) {n : Int} (h : 0 < n) : a.fmod n < n := Int.fmod_lt_of_pos a h
theorem fmod_cast (a n : Nat) : ((a : Int)).fmod (n : Int) = ((a % n : Nat) : Int) := by
  rw [Int.fmod_eq_emod_of_nonneg _ (by omega)]
  exact (Int.natCast_emod a n).symm
end Mp

set_option Elab.async false
set_option linter.all false
set_option maxRecDepth 100000
/-! Vb: plain law of a year that comes again: runs, walks, tables. -/
namespace Ym
variable (d i : Nat → Int)
/-- what j periods from s on lack -/
def lack (s : Nat) : Nat → Int
  | 0 => 0
  | j + 1 => lack s j + d (s + j) - i (s + j)
/-- the level behind j periods from s on -/
def wk (room : Int) (s : Nat) : Nat → Int → Int
  | 0, l => l
  | j + 1, l => min room (wk room s j l + i (s + j)) - d (s + j)
/-- the greatest lack of at most m periods -/
def mx (s : Nat) : Nat → Int
  | 0 => 0
  | j + 1 => max (mx s j) (lack d i s (j + 1))
structure Per (n : Nat) : Prop where
  pos : 0 < n
  d : ∀ t, d (t + n) = d t
  i : ∀ t, i (t + n) = i t
variable {d i} {room : Int} {n : Nat}
theorem lack_add (s a : Nat) : ∀ b, lack d i s (a + b) = lack d i s a + lack d i (s + a) b
  | 0 => by simp [lack]
  | b + 1 => by
    have := lack_add s a b
    rw [← Nat.add_assoc, lack, lack, this, show s + (a + b) = s + a + b by omega]
    omega
theorem lack_per (h : Per d i n) (s : Nat) : ∀ j, lack d i (s + n) j = lack d i s j
  | 0 => rfl
  | j + 1 => by
    rw [lack, lack, lack_per h s j, show s + n + j = s + j + n by omega, h.d, h.i]
theorem lack_full1 (h : Per d i n) (s : Nat) : lack d i (s + 1) n = lack d i s n := by
  have a := lack_add (d := d) (i := i) s 1 n
  have b := lack_add (d := d) (i := i) s n 1
  rw [lack_per h] at b
  rw [show 1 + n = n + 1 by omega] at a
  omega
theorem lack_full (h : Per d i n) : ∀ s, lack d i s n = lack d i 0 n
  | 0 => rfl
  | s + 1 => (lack_full1 h s).trans (lack_full h s)
theorem wk_le (s : Nat) (l : Int) : ∀ j, wk d i room s j l ≤ l - lack d i s j
  | 0 => by simp [wk, lack]
  | j + 1 => by
    have := wk_le s l j
    rw [wk, lack]
    omega
theorem wk_mono (s : Nat) {l l' : Int} (h : l ≤ l') : ∀ j, wk d i room s j l ≤ wk d i room s j l'
  | 0 => h
  | j + 1 => by
    have := wk_mono s h j
    rw [wk, wk]
    omega
theorem wk_add (s a : Nat) (l : Int) : ∀ b, wk d i room s (a + b) l = wk d i room (s + a) b (wk d i room s a l)
  | 0 => rfl
  | b + 1 => by
    rw [← Nat.add_assoc, wk, wk, wk_add s a l b, show s + (a + b) = s + a + b by omega]
theorem wk_per (h : Per d i n) (s : Nat) (l : Int) : ∀ j, wk d i room (s + n) j l = wk d i room s j l
  | 0 => rfl
  | j + 1 => by
    rw [wk, wk, wk_per h s l j, show s + n + j = s + j + n by omega, h.d, h.i]
/-- behind a run the level is at most the room less its fall -/
theorem wk_run (s a b : Nat) (l : Int) : wk d i room s (a + (b + 1)) l ≤ room - (lack d i (s + a) (b + 1) + i (s + a)) := by
  have e1 : wk d i room s (a + 1) l ≤ room - d (s + a) := by rw [wk]; omega
  have e2 := wk_add (d := d) (i := i) (room := room) s (a + 1) l b
  have e3 := wk_le (d := d) (i := i) (room := room) (s + (a + 1)) (wk d i room s (a + 1) l) b
  have e4 := lack_add (d := d) (i := i) (s + a) 1 b
  have e5 : lack d i (s + a) 1 = d (s + a) - i (s + a) := by simp [lack]
  rw [show a + (b + 1) = a + 1 + b by omega, e2]
  rw [show 1 + b = b + 1 by omega, show s + a + 1 = s + (a + 1) by omega] at e4
  omega
/-- no water lacks in m periods -/
def NS (d i : Nat → Int) (room : Int) (s m : Nat) (l : Int) : Prop := ∀ j, 1 ≤ j → j ≤ m → 0 ≤ wk d i room s j l
/-- there is no rule table -/
def Dry (d i : Nat → Int) (n : Nat) (room : Int) : Prop := 0 < lack d i 0 n ∨ ∃ s b, s < n ∧ b < n ∧ room < lack d i s (b + 1) + i s
theorem lack_mod (h : Per d i n) (s k j : Nat) : lack d i (s + k * n) j = lack d i s j := by
  induction k with
  | zero => simp
  | succ k ih => rw [show s + (k + 1) * n = s + k * n + n by rw [Nat.succ_mul]; omega, lack_per h, ih]
theorem i_mod (h : Per d i n) (s k : Nat) : i (s + k * n) = i s := by
  induction k with
  | zero => simp
  | succ k ih => rw [show s + (k + 1) * n = s + k * n + n by rw [Nat.succ_mul]; omega, h.i, ih]
theorem dry_short (h : Per d i n) (hd : Dry d i n room) (s : Nat) (l : Int) (hn : NS d i room s n l) (hl : l ≤ wk d i room s n l) : False := by
  rcases hd with hd | ⟨s0, b, hs, hb, hf⟩
  · have a := wk_le (d := d) (i := i) (room := room) s l n
    rw [lack_full h] at a
    omega
  · -- a turn a < n with s + a ≡ s0
    obtain ⟨a, k, k', ha, e⟩ : ∃ a k k', a < n ∧ s + a + k * n = s0 + k' * n := by
      refine ⟨(s0 + s * n - s) % n, (s0 + s * n - s) / n, s, Nat.mod_lt _ h.pos, ?_⟩
      have h1 := Nat.mod_add_div (s0 + s * n - s) n
      have h2 : s ≤ s * n := Nat.le_mul_of_pos_right s h.pos
      rw [Nat.mul_comm n] at h1
      omega
    have r := wk_run (d := d) (i := i) (room := room) s a b l
    have e1 : lack d i (s + a) (b + 1) = lack d i s0 (b + 1) := by rw [← lack_mod h (s + a) k, e, lack_mod h]
    have e2 : i (s + a) = i s0 := by rw [← i_mod h (s + a) k, e, i_mod h]
    rw [e1, e2] at r
    by_cases q : a + (b + 1) ≤ n
    · have := hn (a + (b + 1)) (by omega) q
      omega
    · have e3 := wk_add (d := d) (i := i) (room := room) s n l (a + (b + 1) - n)
      rw [show n + (a + (b + 1) - n) = a + (b + 1) by omega, wk_per h] at e3
      have e4 := wk_mono (d := d) (i := i) (room := room) s hl (a + (b + 1) - n)
      have e5 := hn (a + (b + 1) - n) (by omega) (by omega)
      omega
theorem mx_nn (s : Nat) : ∀ m, 0 ≤ mx d i s m
  | 0 => Int.le_refl _
  | m + 1 => by
    have := mx_nn s m
    rw [mx]
    omega
theorem mx_ge (s : Nat) : ∀ {m j : Nat}, j ≤ m → lack d i s j ≤ mx d i s m
  | 0, j, h => by
    have : j = 0 := by omega
    subst this
    exact Int.le_refl _
  | m + 1, j, h => by
    rw [mx]
    by_cases q : j ≤ m
    · have := mx_ge s q
      omega
    · have : j = m + 1 := by omega
      subst this
      omega
theorem mx_is (s : Nat) : ∀ m, ∃ j, j ≤ m ∧ mx d i s m = lack d i s j
  | 0 => ⟨0, Nat.le_refl _, rfl⟩
  | m + 1 => by
    obtain ⟨j, h, e⟩ := mx_is s m
    rw [mx]
    by_cases q : mx d i s m ≤ lack d i s (m + 1)
    · exact ⟨m + 1, Nat.le_refl _, by omega⟩
    · exact ⟨j, by omega, by omega⟩
theorem mx_le {s m : Nat} {x : Int} (h : ∀ j, j ≤ m → lack d i s j ≤ x) : mx d i s m ≤ x := by
  obtain ⟨j, hj, e⟩ := mx_is (d := d) (i := i) s m
  rw [e]
  exact h j hj
structure Wet (d i : Nat → Int) (n : Nat) (room : Int) : Prop where
  per : Per d i n
  nn : ∀ t, 0 ≤ i t
  tot : lack d i 0 n ≤ 0
  run : ∀ s b, s < n → b < n → lack d i s (b + 1) + i s ≤ room
theorem Wet.run' (w : Wet d i n room) (s b : Nat) (hb : b < n) : lack d i s (b + 1) + i s ≤ room := by
  have := w.run (s % n) b (Nat.mod_lt _ w.per.pos) hb
  have e := Nat.mod_add_div s n
  rw [Nat.mul_comm n] at e
  rw [← lack_mod w.per (s % n) (s / n), ← i_mod w.per (s % n) (s / n), e] at this
  exact this
theorem not_dry (h : Per d i n) (nn : ∀ t, 0 ≤ i t) : ¬ Dry d i n room ↔ Wet d i n room := by
  constructor
  · intro q
    refine ⟨h, nn, ?_, fun s b hs hb => ?_⟩
    · apply Classical.byContradiction
      intro z
      exact q (.inl (by omega))
    · apply Classical.byContradiction
      intro z
      exact q (.inr ⟨s, b, hs, hb, by omega⟩)
  · rintro w (q | ⟨s, b, hs, hb, q⟩)
    · have := w.tot
      omega
    · have := w.run s b hs hb
      omega
theorem tab_le (w : Wet d i n room) (h0 : 0 ≤ room) (s : Nat) : mx d i s n ≤ room := mx_le fun j hj => by
  cases j with
  | zero => exact h0
  | succ j =>
    have := w.run' s j (by omega)
    have := w.nn s
    omega
theorem tab_step (w : Wet d i n room) (s : Nat) : mx d i (s + 1) n ≤ min room (mx d i s n + i s) - d s := by
  have l1 : lack d i s 1 = d s - i s := by simp [lack]
  have r0 := w.run' s 0 w.per.pos
  have g1 := mx_ge (d := d) (i := i) (m := n) s (show 1 ≤ n from w.per.pos)
  refine mx_le fun j hj => ?_
  have e := lack_add (d := d) (i := i) s 1 j
  rw [show 1 + j = j + 1 by omega] at e
  by_cases q : j < n
  · have := w.run' s j q
    have := mx_ge (d := d) (i := i) (m := n) s (show j + 1 ≤ n by omega)
    omega
  · have : j = n := by omega
    subst this
    have e2 := lack_full w.per (s + 1)
    have := w.tot
    rw [Nat.zero_add] at r0
    omega
theorem tab_stays (w : Wet d i n room) (s : Nat) {l : Int} (h : mx d i s n ≤ l) : ∀ j, mx d i (s + j) n ≤ wk d i room s j l
  | 0 => h
  | j + 1 => by
    have a := tab_stays w s h j
    have b := tab_step w (s + j)
    rw [wk]
    rw [show s + (j + 1) = s + j + 1 by omega]
    omega
theorem tab_ns (w : Wet d i n room) (s m : Nat) {l : Int} (h : mx d i s n ≤ l) : NS d i room s m l := fun j _ _ =>
  Int.le_trans (mx_nn _ _) (tab_stays w s h j)
theorem tab_least (s : Nat) (h : 0 < mx d i s n) : ∃ j, 1 ≤ j ∧ j ≤ n ∧ wk d i room s j (mx d i s n - 1) < 0 := by
  obtain ⟨j, hj, e⟩ := mx_is (d := d) (i := i) s n
  have := wk_le (d := d) (i := i) (room := room) s (mx d i s n - 1) j
  refine ⟨j, ?_, hj, by omega⟩
  cases j with
  | zero => rw [e] at h; exact absurd h (by simp [lack])
  | succ j => omega
/-- a rule table -/
structure Tab (d i : Nat → Int) (n : Nat) (room : Int) (f : Nat → Int) : Prop where
  per : ∀ t, f (t + n) = f t
  nn : ∀ t, 0 ≤ f t
  st : ∀ t, f (t + 1) ≤ min room (f t + i t) - d t
theorem Tab.go {f : Nat → Int} (h : Tab d i n room f) (s : Nat) : ∀ j, f (s + j) ≤ f s - lack d i s j
  | 0 => by simp [lack]
  | j + 1 => by
    have a := h.go s j
    have b := h.st (s + j)
    rw [show s + (j + 1) = s + j + 1 by omega, lack]
    omega
theorem Tab.wet {f : Nat → Int} (h : Tab d i n room f) (hp : Per d i n) (nn : ∀ t, 0 ≤ i t) : Wet d i n room := by
  refine ⟨hp, nn, ?_, fun s b _ hb => ?_⟩
  · have a := h.go 0 n
    have b := h.per 0
    omega
  · have a := h.st s
    have c := h.go (s + 1) b
    have e := lack_add (d := d) (i := i) s 1 b
    have l1 : lack d i s 1 = d s - i s := by simp [lack]
    have := h.nn (s + 1 + b)
    rw [show 1 + b = b + 1 by omega] at e
    omega
theorem Tab.ge {f : Nat → Int} (h : Tab d i n room f) (s : Nat) : mx d i s n ≤ f s := mx_le fun j _ => by
  have a := h.go s j
  have := h.nn (s + j)
  omega
/-- the first period that lacks, of m from t on: what is held ahead of period t is l -/
def short (d i : Nat → Int) (room : Int) (s : Nat) : Nat → Nat → Int → Nat ⊕ Int
  | 0, _, l => .inr l
  | m + 1, t, l => if min room (l + i (s + t)) < d (s + t) then .inl t else short d i room s m (t + 1) (min room (l + i (s + t)) - d (s + t))
theorem short_inr {s : Nat} {l0 : Int} : ∀ {m t : Nat} {l : Int}, l = wk d i room s t l0 → (∀ j, t < j → j ≤ t + m → 0 ≤ wk d i room s j l0) → short d i room s m t l = .inr (wk d i room s (t + m) l0)
  | 0, t, l, e, _ => by rw [e]; rfl
  | m + 1, t, l, e, h => by
    have h1 := h (t + 1) (by omega) (by omega)
    rw [wk, ← e] at h1
    unfold short
    rw [if_neg (by omega), short_inr (s := s) (l0 := l0) (m := m) (t := t + 1) (by rw [wk, ← e]) fun j a b => h j (by omega) (by omega), show t + 1 + m = t + (m + 1) by omega]
theorem short_inl {s : Nat} {l0 : Int} : ∀ {m t : Nat} {l : Int}, l = wk d i room s t l0 → (∃ j, t < j ∧ j ≤ t + m ∧ wk d i room s j l0 < 0) → ∃ t', short d i room s m t l = .inl t' ∧ t ≤ t' ∧ t' < t + m
  | 0, t, l, e, ⟨j, a, b, _⟩ => by omega
  | m + 1, t, l, e, ⟨j, a, b, c⟩ => by
    unfold short
    by_cases q : min room (l + i (s + t)) < d (s + t)
    · exact ⟨t, by rw [if_pos q], by omega, by omega⟩
    · rw [if_neg q]
      have hj : j ≠ t + 1 := fun z => by
        rw [z, wk, ← e] at c
        omega
      obtain ⟨t', e1, e2, e3⟩ := short_inl (s := s) (l0 := l0) (m := m) (t := t + 1) (l := min room (l + i (s + t)) - d (s + t)) (by rw [wk, ← e]) ⟨j, by omega, by omega, c⟩
      exact ⟨t', e1, by omega, by omega⟩
/-- how long it lasts: at most f years -/
def last (d i : Nat → Int) (n : Nat) (room : Int) (s : Nat) : Nat → Int → Int → Option Int
  | 0, _, _ => none
  | f + 1, c, l => match short d i room s n 0 l with
    | .inl t => some (c + t)
    | .inr l' => if l' < l then last d i n room s f (c + n) l' else none
theorem short_cases (s m : Nat) (l : Int) : (NS d i room s m l ∧ short d i room s m 0 l = .inr (wk d i room s m l)) ∨ ∃ t, short d i room s m 0 l = .inl t ∧ t < m := by
  by_cases h : NS d i room s m l
  · have := short_inr (d := d) (i := i) (room := room) (s := s) (l0 := l) (m := m) (t := 0) rfl fun j a b => h j (by omega) (by omega)
    rw [Nat.zero_add] at this
    exact .inl ⟨h, this⟩
  · obtain ⟨j, hj⟩ := Classical.not_forall.mp h
    have hj1 : 1 ≤ j ∧ j ≤ m ∧ wk d i room s j l < 0 := by
      refine ⟨?_, ?_, ?_⟩ <;> (apply Classical.byContradiction; intro z; exact hj fun a b => by omega)
    obtain ⟨t, e, _, e2⟩ := short_inl (d := d) (i := i) (room := room) (s := s) (l0 := l) (m := m) (t := 0) rfl ⟨j, by omega, by omega, hj1.2.2⟩
    exact .inr ⟨t, e, by omega⟩
theorem last_none (w : Wet d i n room) (s : Nat) : ∀ (f : Nat) (c l : Int), mx d i s n ≤ l → last d i n room s f c l = none
  | 0, _, _, _ => rfl
  | f + 1, c, l, h => by
    unfold last
    have := short_inr (d := d) (i := i) (room := room) (s := s) (l0 := l) (m := n) (t := 0) (l := l) rfl fun j a b => tab_ns w s j h j (by omega) (Nat.le_refl _)
    rw [this, Nat.zero_add]
    dsimp only
    split
    · refine last_none w s f _ _ ?_
      have a := tab_stays w s h n
      have b : mx d i (s + n) n = mx d i s n := by
        have : ∀ m, mx d i (s + n) m = mx d i s m := fun m => by
          induction m with
          | zero => rfl
          | succ m ih => rw [mx, mx, ih, lack_per w.per]
        exact this n
      omega
    · rfl
theorem last_first {s f : Nat} {c l : Int} (h : ∃ j, 1 ≤ j ∧ j ≤ n ∧ wk d i room s j l < 0) : ∃ t : Nat, last d i n room s (f + 1) c l = some (c + t) ∧ t < n := by
  obtain ⟨j, h1, h2, h3⟩ := h
  obtain ⟨t, e, _, e2⟩ := short_inl (d := d) (i := i) (room := room) (s := s) (l0 := l) (m := n) (t := 0) (l := l) rfl ⟨j, by omega, by omega, h3⟩
  refine ⟨t, ?_, by omega⟩
  unfold last
  rw [e]
theorem last_dry (h : Per d i n) (hd : Dry d i n room) (s : Nat) : ∀ (f : Nat) (c l : Int), 0 ≤ c → 0 ≤ l → l < f → ∃ v, last d i n room s f c l = some v ∧ c ≤ v
  | 0, c, l, _, h0, hf => by omega
  | f + 1, c, l, hc, h0, hf => by
    unfold last
    rcases short_cases (d := d) (i := i) (room := room) s n l with ⟨ns, e⟩ | ⟨t, e, ht⟩
    · rw [e]
      dsimp only
      by_cases q : wk d i room s n l < l
      · rw [if_pos q]
        have := ns n h.pos (Nat.le_refl _)
        obtain ⟨v, e2, hv⟩ := last_dry h hd s f (c + n) (wk d i room s n l) (by omega) this (by omega)
        exact ⟨v, e2, by omega⟩
      · exact (dry_short h hd s l ns (by omega)).elim
    · rw [e]
      exact ⟨_, rfl, by omega⟩
end Ym

set_option Elab.async false
set_option linter.all false
set_option maxRecDepth 100000
set_option maxHeartbeats 4000000
namespace Mp
open PySem (Str)
abbrev F (k : Nat) : Nat → Fn := pphi FU ptab k
def lp__law_cells_0 (script : List Int) (k_ : Int) (cells : List Int) (seed : Int) : R ((List Int) × Int) :=
  R.ok seed >>= fun cell => (if (decide (k_ < (script.length : Int))) then atR script k_ >>= fun cell => R.ok cell else R.ok cell : R Int) >>= fun cell => (if (decide (cell < 1000000000000000000)) then R.ok (Int.fmod ((((Int.fmod cell 1000003) + (31 * k_)) + 17) * 48271) 2147483647) >>= fun first => R.ok (Int.fmod (((first + 101) * 69621) + k_) 2147483629) >>= fun second => R.ok ((first * 2147483629) + second) >>= fun cell => R.ok cell else R.ok cell : R Int) >>= fun cell => fmodR cell 1000000000000000000 >>= fun z5' => appR cells z5' >>= fun cells => atR cells (-1) >>= fun z6' => R.ok (Int.fdiv z6' 1009) >>= fun seed => R.ok (cells, seed)
def sf__law_cells (script : List Int) : R (List Int) :=
  R.ok ([] : List Int) >>= fun cells => R.ok 0 >>= fun seed => forR (fun k_ z3' => lp__law_cells_0 script k_ z3'.1 z3'.2) (upI 0 63) (cells, seed) >>= fun z3' => R.ok z3'.1
theorem S__law_cells (k : Nat) (script : List Int) : FnR (F (k + 1) 22) [(eL eI) script] (sf__law_cells script) (eL eI) true :=
  FnR.def_ (np := 1) (n := 7) (b := b__law_cells) (k := k + 0) rfl rfl (show KN (F (k + 0)) FU (QF (eL eI) true) [some ((eL eI) script, false), none, none, none, none, none, none] (sf__law_cells script) [b__law_cells] from (KN.seq (KN.asgP (L' := fun (cells : List Int) => [some ((eL eI) script, false), some ((eL eI) cells, true), none, none, none, none, none]) (EO.lst (EC.lst (eb := eI) EA.nil (fun w => []) (fun _ => rfl) (fun _ => Nat.le_of_ble_eq_true rfl))) rfl (fun _ => rfl) fun cells => (KN.seq (KN.asgP (L' := fun (seed : Int) => [some ((eL eI) script, false), some ((eL eI) cells, true), some (eI seed, false), none, none, none, none]) (EO.of (EC.con (ea := eI) (v := 0) rfl)) rfl (fun _ => rfl) fun seed => (KN.seq (KN.for_ (Lf := fun (z3' : (List Int) × Int) => [some ((eL eI) script, false), some ((eL eI) z3'.1, true), some (eI z3'.2, false), none, none, none, none]) (x0 := (cells, seed)) (fun _ => rfl) (IT.l (EC.rngc (by decide))) (Le.keep (Le.keep (Le.keep (Le.drop (Le.drop (Le.drop (Le.drop Le.nil))))))) (fun _ => TB.name) rfl (fun z3' k_ => (KN.seq (KN.asgP (L' := fun (cell : Int) => [some ((eL eI) script, false), some ((eL eI) z3'.1, true), some (eI z3'.2, false), some (eI k_, false), some (eI cell, false), none, none]) (EO.of (EC.varF (ea := eI) (v := z3'.2) rfl)) rfl (fun _ => rfl) fun cell => (KN.seq (KN.join (Lf := fun (cell : Int) => [some ((eL eI) script, false), some ((eL eI) z3'.1, true), some (eI z3'.2, false), some (eI k_, false), some (eI cell, false), none, none]) rfl (KN.ite (ET.bo (EC.lt (EC.varF (ea := eI) (v := k_) rfl) (EC.lenL (EC.varF (ea := (eL eI)) (v := script) rfl)))) rfl (KN.asgE (L' := fun (cell : Int) => [some ((eL eI) script, false), some ((eL eI) z3'.1, true), some (eI z3'.2, false), some (eI k_, false), some (eI cell, false), none, none]) (EO.of (EC.bf1 (eb := eI) (g := fun x => x) (fun _ => rfl) (EC.ixL (EC.varF (ea := (eL eI)) (v := script) rfl) (EC.varF (ea := eI) (v := k_) rfl)))) rfl (fun _ => rfl) fun cell => (KN.endJ (x := cell) (Le.keep (Le.keep (Le.keep (Le.keep (Le.keep (Le.drop (Le.drop Le.nil))))))))) (KN.skip (KN.endJ (x := cell) (Le.keep (Le.keep (Le.keep (Le.keep (Le.keep (Le.drop (Le.drop Le.nil)))))))))) fun cell => (KN.seq (KN.join (Lf := fun (cell : Int) => [some ((eL eI) script, false), some ((eL eI) z3'.1, true), some (eI z3'.2, false), some (eI k_, false), some (eI cell, false), none, none]) rfl (KN.ite (ET.bo (EC.lt (EC.varF (ea := eI) (v := cell) rfl) (EC.powc (v := 1000000000000000000) ⟨by decide, by decide, by decide⟩ (by decide)))) rfl (KN.seq (KN.asgP (L' := fun (first : Int) => [some ((eL eI) script, false), some ((eL eI) z3'.1, true), some (eI z3'.2, false), some (eI k_, false), some (eI cell, false), some (eI first, false), none]) (EO.of (EC.modc (by decide) (EC.bf1 (eb := eI) (g := fun x => x) (fun _ => rfl) (EC.mulc (by decide) (EC.add (EC.add (EC.modc (by decide) (EC.bf1 (eb := eI) (g := fun x => x) (fun _ => rfl) (EC.varF (ea := eI) (v := cell) rfl))) (EC.cmul (by decide) (EC.varF (ea := eI) (v := k_) rfl))) (EC.con (ea := eI) (v := 17) rfl)))))) rfl (fun _ => rfl) fun first => (KN.seq (KN.asgP (L' := fun (second : Int) => [some ((eL eI) script, false), some ((eL eI) z3'.1, true), some (eI z3'.2, false), some (eI k_, false), some (eI cell, false), some (eI first, false), some (eI second, false)]) (EO.of (EC.modc (by decide) (EC.bf1 (eb := eI) (g := fun x => x) (fun _ => rfl) (EC.add (EC.mulc (by decide) (EC.add (EC.varF (ea := eI) (v := first) rfl) (EC.con (ea := eI) (v := 101) rfl))) (EC.varF (ea := eI) (v := k_) rfl))))) rfl (fun _ => rfl) fun second => (KN.asgP (L' := fun (cell : Int) => [some ((eL eI) script, false), some ((eL eI) z3'.1, true), some (eI z3'.2, false), some (eI k_, false), some (eI cell, false), some (eI first, false), some (eI second, false)]) (EO.of (EC.add (EC.mulc (by decide) (EC.varF (ea := eI) (v := first) rfl)) (EC.varF (ea := eI) (v := second) rfl))) rfl (fun _ => rfl) fun cell => (KN.endJ (x := cell) (Le.keep (Le.keep (Le.keep (Le.keep (Le.keep (Le.drop (Le.drop Le.nil))))))))))))) (KN.skip (KN.endJ (x := cell) (Le.keep (Le.keep (Le.keep (Le.keep (Le.keep (Le.drop (Le.drop Le.nil)))))))))) fun cell => (KN.seq (KN.app (L' := fun (cells : List Int) => [some ((eL eI) script, false), some ((eL eI) cells, true), some (eI z3'.2, false), some (eI k_, false), some (eI cell, false), none, none]) (xs := z3'.1) (ea := eI) (EC.mod (EC.bf1 (eb := eI) (g := fun x => x) (fun _ => rfl) (EC.varF (ea := eI) (v := cell) rfl)) (EC.powc (v := 1000000000000000000) ⟨by decide, by decide, by decide⟩ (by decide))) rfl rfl (fun _ => rfl) fun cells => (KN.asgP (L' := fun (seed : Int) => [some ((eL eI) script, false), some ((eL eI) cells, true), some (eI seed, false), some (eI k_, false), some (eI cell, false), none, none]) (EO.of (EC.fdivc ⟨by decide, by decide⟩ (EC.ixL (EC.varT (ea := (eL eI)) (v := cells) rfl) (EC.neg (EC.con (ea := eI) (v := 1) rfl))))) rfl (fun _ => rfl) fun seed => (KN.endL (x := (cells, seed)) (Le.keep (Le.keep (Le.keep (Le.drop (Le.drop (Le.drop (Le.drop Le.nil)))))))))))))))))) fun z3' => (KN.retv (ea := (eL eI)) (v := z3'.1) (own := true) rfl RT.f rfl))))))))

def sf__law_flows (cells : List Int) (periods : Int) (top : Int) (wide : Int) (way : Int) : R ((List Int) × (List Int) × (List Int)) :=
  rngR periods >>= fun z1' => lcR (fun z2' => atR cells (1 + z2') >>= fun z3' => fmodR z3' (top + 1) >>= fun z4' => R.ok z4') z1' >>= fun low => rngR periods >>= fun z6' => lcR (fun z7' => atR low z7' >>= fun z8' => atR cells (1 + z7') >>= fun z9' => fmodR (Int.fdiv z9' 1001) (wide + 1) >>= fun z10' => R.ok (min 1000 (z8' + z10'))) z6' >>= fun high => rngR periods >>= fun z12' => lcR (fun z13' => atR cells (1 + z13') >>= fun z14' => fmodR (Int.fdiv z14' 1002001) (top + 1) >>= fun z15' => R.ok z15') z12' >>= fun draws => atR cells 25 >>= fun z17' => fmodR z17' periods >>= fun turn => (if ((decide (way = 1)) || (decide (way = 2))) then catR (cut low (some turn) none) (cut low none (some turn)) >>= fun draws => R.ok draws else R.ok draws : R (List Int)) >>= fun draws => (if (decide (way = 3)) then rngR periods >>= fun z20' => lcR (fun z21' => atR low z21' >>= fun z22' => atR draws z21' >>= fun z23' => R.ok (min z22' z23')) z20' >>= fun draws => R.ok draws else R.ok draws : R (List Int)) >>= fun draws => R.ok (low, high, draws)
theorem S__law_flows (k : Nat) (cells : List Int) (periods : Int) (top : Int) (wide : Int) (way : Int) : FnR (F (k + 1) 24) [(eL eI) cells, eI periods, eI top, eI wide, eI way] (sf__law_flows cells periods top wide way) (eF3 (eL eI) (eL eI) (eL eI)) true :=
  FnR.def_ (np := 5) (n := 10) (b := b__law_flows) (k := k + 0) rfl rfl (show KN (F (k + 0)) FU (QF (eF3 (eL eI) (eL eI) (eL eI)) true) [some ((eL eI) cells, false), some (eI periods, false), some (eI top, false), some (eI wide, false), some (eI way, false), none, none, none, none, none] (sf__law_flows cells periods top wide way) [b__law_flows] from (KN.seq (KN.asgE (L' := fun (low : List Int) => [some ((eL eI) cells, false), some (eI periods, false), some (eI top, false), some (eI wide, false), some (eI way, false), some ((eL eI) low, true), none, none, none, none]) (EO.lc (EC.lc (ea := eI) (eb := eI) (IT.l (EC.rng1 (EC.varF (ea := eI) (v := periods) rfl))) (by exact ⟨rfl, trivial⟩) TB.name (fun z2' => (EC.mod (EC.bf1 (eb := eI) (g := fun x => x) (fun _ => rfl) (EC.ixL (EC.varF (ea := (eL eI)) (v := cells) rfl) (EC.add (EC.con (ea := eI) (v := 1) rfl) (EC.varF (ea := eI) (v := z2') rfl)))) (EC.add (EC.varF (ea := eI) (v := top) rfl) (EC.con (ea := eI) (v := 1) rfl)))) rfl)) rfl (fun _ => rfl) fun low => (KN.seq (KN.asgE (L' := fun (high : List Int) => [some ((eL eI) cells, false), some (eI periods, false), some (eI top, false), some (eI wide, false), some (eI way, false), some ((eL eI) low, true), some ((eL eI) high, true), none, none, none]) (EO.lc (EC.lc (ea := eI) (eb := eI) (IT.l (EC.rng1 (EC.varF (ea := eI) (v := periods) rfl))) (by exact ⟨rfl, trivial⟩) TB.name (fun z7' => (EC.min2 (EC.con (ea := eI) (v := 1000) rfl) (EC.add (EC.ixL (EC.varT (ea := (eL eI)) (v := low) rfl) (EC.varF (ea := eI) (v := z7') rfl)) (EC.mod (EC.bf1 (eb := eI) (g := fun x => x) (fun _ => rfl) (EC.fdivc ⟨by decide, by decide⟩ (EC.ixL (EC.varF (ea := (eL eI)) (v := cells) rfl) (EC.add (EC.con (ea := eI) (v := 1) rfl) (EC.varF (ea := eI) (v := z7') rfl))))) (EC.add (EC.varF (ea := eI) (v := wide) rfl) (EC.con (ea := eI) (v := 1) rfl)))))) rfl)) rfl (fun _ => rfl) fun high => (KN.seq (KN.asgE (L' := fun (draws : List Int) => [some ((eL eI) cells, false), some (eI periods, false), some (eI top, false), some (eI wide, false), some (eI way, false), some ((eL eI) low, true), some ((eL eI) high, true), some ((eL eI) draws, true), none, none]) (EO.lc (EC.lc (ea := eI) (eb := eI) (IT.l (EC.rng1 (EC.varF (ea := eI) (v := periods) rfl))) (by exact ⟨rfl, trivial⟩) TB.name (fun z13' => (EC.mod (EC.bf1 (eb := eI) (g := fun x => x) (fun _ => rfl) (EC.fdivc ⟨by decide, by decide⟩ (EC.ixL (EC.varF (ea := (eL eI)) (v := cells) rfl) (EC.add (EC.con (ea := eI) (v := 1) rfl) (EC.varF (ea := eI) (v := z13') rfl))))) (EC.add (EC.varF (ea := eI) (v := top) rfl) (EC.con (ea := eI) (v := 1) rfl)))) rfl)) rfl (fun _ => rfl) fun draws => (KN.seq (KN.asgE (L' := fun (turn : Int) => [some ((eL eI) cells, false), some (eI periods, false), some (eI top, false), some (eI wide, false), some (eI way, false), some ((eL eI) low, true), some ((eL eI) high, true), some ((eL eI) draws, true), some (eI turn, false), none]) (EO.of (EC.mod (EC.bf1 (eb := eI) (g := fun x => x) (fun _ => rfl) (EC.ixL (EC.varF (ea := (eL eI)) (v := cells) rfl) (EC.con (ea := eI) (v := 25) rfl))) (EC.varF (ea := eI) (v := periods) rfl))) rfl (fun _ => rfl) fun turn => (KN.seq (KN.join (Lf := fun (draws : (List Int)) => [some ((eL eI) cells, false), some (eI periods, false), some (eI top, false), some (eI wide, false), some (eI way, false), some ((eL eI) low, true), some ((eL eI) high, true), some ((eL eI) draws, true), some (eI turn, false), none]) rfl (KN.ite (ET.orP (ET.bo (EC.eq Pl.I (EC.varF (ea := eI) (v := way) rfl) (EC.con (ea := eI) (v := 1) rfl))) (ET.bo (EC.eq Pl.I (EC.varF (ea := eI) (v := way) rfl) (EC.con (ea := eI) (v := 2) rfl)))) rfl (KN.asgE (L' := fun (draws : List Int) => [some ((eL eI) cells, false), some (eI periods, false), some (eI top, false), some (eI wide, false), some (eI way, false), some ((eL eI) low, true), some ((eL eI) high, true), some ((eL eI) draws, true), some (eI turn, false), none]) (EO.bin (EC.catL (EC.slg1 (.inl fun _ => rfl) (EC.varT (ea := (eL eI)) (v := low) rfl) rfl (EC.varF (ea := eI) (v := turn) rfl)) (EC.slg2 (.inl fun _ => rfl) (EC.varT (ea := (eL eI)) (v := low) rfl) rfl (EC.varF (ea := eI) (v := turn) rfl)))) rfl (fun _ => rfl) fun draws => (KN.endJ (x := draws) (Le.keep (Le.keep (Le.keep (Le.keep (Le.keep (Le.keep (Le.keep (Le.keep (Le.keep (Le.drop Le.nil)))))))))))) (KN.skip (KN.endJ (x := draws) (Le.keep (Le.keep (Le.keep (Le.keep (Le.keep (Le.keep (Le.keep (Le.keep (Le.keep (Le.drop Le.nil))))))))))))) fun draws => (KN.seq (KN.join (Lf := fun (draws : (List Int)) => [some ((eL eI) cells, false), some (eI periods, false), some (eI top, false), some (eI wide, false), some (eI way, false), some ((eL eI) low, true), some ((eL eI) high, true), some ((eL eI) draws, true), some (eI turn, false), none]) rfl (KN.ite (ET.bo (EC.eq Pl.I (EC.varF (ea := eI) (v := way) rfl) (EC.con (ea := eI) (v := 3) rfl))) rfl (KN.asgE (L' := fun (draws : List Int) => [some ((eL eI) cells, false), some (eI periods, false), some (eI top, false), some (eI wide, false), some (eI way, false), some ((eL eI) low, true), some ((eL eI) high, true), some ((eL eI) draws, true), some (eI turn, false), none]) (EO.lc (EC.lc (ea := eI) (eb := eI) (IT.l (EC.rng1 (EC.varF (ea := eI) (v := periods) rfl))) (by exact ⟨rfl, trivial⟩) TB.name (fun z21' => (EC.min2 (EC.ixL (EC.varT (ea := (eL eI)) (v := low) rfl) (EC.varF (ea := eI) (v := z21') rfl)) (EC.ixL (EC.varT (ea := (eL eI)) (v := draws) rfl) (EC.varF (ea := eI) (v := z21') rfl)))) rfl)) rfl (fun _ => rfl) fun draws => (KN.endJ (x := draws) (Le.keep (Le.keep (Le.keep (Le.keep (Le.keep (Le.keep (Le.keep (Le.keep (Le.keep (Le.drop Le.nil)))))))))))) (KN.skip (KN.endJ (x := draws) (Le.keep (Le.keep (Le.keep (Le.keep (Le.keep (Le.keep (Le.keep (Le.keep (Le.keep (Le.drop Le.nil))))))))))))) fun draws => (KN.ret (fun _ h => nomatch h) (EO.lst (EC.lstF (eb := (eF3 (eL eI) (eL eI) (eL eI))) (EA.cons (EC.varT (ea := (eL eI)) (v := low) rfl) (EA.cons (EC.varT (ea := (eL eI)) (v := high) rfl) (EA.cons (EC.varT (ea := (eL eI)) (v := draws) rfl) EA.nil))) (fun w => (w.1, w.2.1, w.2.2.1)) (fun _ => rfl) (fun _ => Nat.le_of_ble_eq_true rfl))) RT.f rfl))))))))))))))

def sf__law_gate (cell : Int) (high : List Int) (draws : List Int) (way : Int) : R Int :=
  fdivR (((high.sum - draws.sum) + (draws.length : Int)) - 1) (draws.length : Int) >>= fun z1' => R.ok (max 0 z1') >>= fun mean => atR ([(Int.fmod cell 1001), 0, 1000, mean, mean, mean, (max 0 (mean - 1)), (mean + 1)] : List Int) way >>= fun gate => R.ok (min 1000 gate)
theorem S__law_gate (k : Nat) (cell : Int) (high : List Int) (draws : List Int) (way : Int) : FnR (F (k + 1) 25) [eI cell, (eL eI) high, (eL eI) draws, eI way] (sf__law_gate cell high draws way) eI false :=
  FnR.def_ (np := 4) (n := 6) (b := b__law_gate) (k := k + 0) rfl rfl (show KN (F (k + 0)) FU (QF eI false) [some (eI cell, false), some ((eL eI) high, false), some ((eL eI) draws, false), some (eI way, false), none, none] (sf__law_gate cell high draws way) [b__law_gate] from (KN.seq (KN.asgP (L' := fun (mean : Int) => [some (eI cell, false), some ((eL eI) high, false), some ((eL eI) draws, false), some (eI way, false), some (eI mean, false), none]) (EO.of (EC.max2 (EC.con (ea := eI) (v := 0) rfl) (EC.fdiv (EC.sub (EC.add (EC.sub (EC.sumL (EC.varF (ea := (eL eI)) (v := high) rfl)) (EC.sumL (EC.varF (ea := (eL eI)) (v := draws) rfl))) (EC.lenL (EC.varF (ea := (eL eI)) (v := draws) rfl))) (EC.con (ea := eI) (v := 1) rfl)) (EC.lenL (EC.varF (ea := (eL eI)) (v := draws) rfl))))) rfl (fun _ => rfl) fun mean => (KN.seq (KN.asgE (L' := fun (gate : Int) => [some (eI cell, false), some ((eL eI) high, false), some ((eL eI) draws, false), some (eI way, false), some (eI mean, false), some (eI gate, false)]) (EO.of (EC.ixL (EC.lst (eb := eI) (EA.cons (EC.modc (by decide) (EC.bf1 (eb := eI) (g := fun x => x) (fun _ => rfl) (EC.varF (ea := eI) (v := cell) rfl))) (EA.cons (EC.con (ea := eI) (v := 0) rfl) (EA.cons (EC.con (ea := eI) (v := 1000) rfl) (EA.cons (EC.varF (ea := eI) (v := mean) rfl) (EA.cons (EC.varF (ea := eI) (v := mean) rfl) (EA.cons (EC.varF (ea := eI) (v := mean) rfl) (EA.cons (EC.max2 (EC.con (ea := eI) (v := 0) rfl) (EC.sub (EC.varF (ea := eI) (v := mean) rfl) (EC.con (ea := eI) (v := 1) rfl))) (EA.cons (EC.add (EC.varF (ea := eI) (v := mean) rfl) (EC.con (ea := eI) (v := 1) rfl)) EA.nil)))))))) (fun w => [w.1, w.2.1, w.2.2.1, w.2.2.2.1, w.2.2.2.2.1, w.2.2.2.2.2.1, w.2.2.2.2.2.2.1, w.2.2.2.2.2.2.2.1]) (fun _ => rfl) (fun _ => Nat.le_of_ble_eq_true rfl)) (EC.varF (ea := eI) (v := way) rfl))) rfl (fun _ => rfl) fun gate => (KN.ret (fun _ h => nomatch h) (EO.of (EC.min2 (EC.con (ea := eI) (v := 1000) rfl) (EC.varF (ea := eI) (v := gate) rfl))) RT.f rfl))))))

def lp__law_most_0 (losses : List Int) (start_ : Int) (turn : Int) (total : Int) (most_ : Int) : R (Int × Int) :=
  fmodR (start_ + turn) (losses.length : Int) >>= fun z4' => atR losses z4' >>= fun z5' => R.ok (total + z5') >>= fun total => R.ok (max most_ total) >>= fun most_ => R.ok (total, most_)
def sf__law_most (losses : List Int) (start_ : Int) : R Int :=
  R.ok 0 >>= fun total => R.ok 0 >>= fun most_ => rngR (losses.length : Int) >>= fun z1' => forR (fun turn z3' => lp__law_most_0 losses start_ turn z3'.1 z3'.2) z1' (total, most_) >>= fun z3' => R.ok z3'.2
theorem S__law_most (k : Nat) (losses : List Int) (start_ : Int) : FnR (F (k + 1) 26) [(eL eI) losses, eI start_] (sf__law_most losses start_) eI false :=
  FnR.def_ (np := 2) (n := 5) (b := b__law_most) (k := k + 0) rfl rfl (show KN (F (k + 0)) FU (QF eI false) [some ((eL eI) losses, false), some (eI start_, false), none, none, none] (sf__law_most losses start_) [b__law_most] from (KN.seq (KN.asgP (L' := fun (total : Int) => [some ((eL eI) losses, false), some (eI start_, false), some (eI total, false), none, none]) (EO.of (EC.con (ea := eI) (v := 0) rfl)) rfl (fun _ => rfl) fun total => (KN.seq (KN.asgP (L' := fun (most_ : Int) => [some ((eL eI) losses, false), some (eI start_, false), some (eI total, false), some (eI most_, false), none]) (EO.of (EC.con (ea := eI) (v := 0) rfl)) rfl (fun _ => rfl) fun most_ => (KN.seq (KN.for_ (Lf := fun (z3' : Int × Int) => [some ((eL eI) losses, false), some (eI start_, false), some (eI z3'.1, false), some (eI z3'.2, false), none]) (x0 := (total, most_)) (fun _ => rfl) (IT.l (EC.rng1 (EC.lenL (EC.varF (ea := (eL eI)) (v := losses) rfl)))) (Le.keep (Le.keep (Le.keep (Le.keep (Le.drop Le.nil))))) (fun _ => TB.name) rfl (fun z3' turn => (KN.seq (KN.asgP (L' := fun (total : Int) => [some ((eL eI) losses, false), some (eI start_, false), some (eI total, false), some (eI z3'.2, false), some (eI turn, false)]) (EO.of (EC.add (EC.varF (ea := eI) (v := z3'.1) rfl) (EC.ixL (EC.varF (ea := (eL eI)) (v := losses) rfl) (EC.mod (EC.bf1 (eb := eI) (g := fun x => x) (fun _ => rfl) (EC.add (EC.varF (ea := eI) (v := start_) rfl) (EC.varF (ea := eI) (v := turn) rfl))) (EC.lenL (EC.varF (ea := (eL eI)) (v := losses) rfl)))))) rfl (fun _ => rfl) fun total => (KN.asgP (L' := fun (most_ : Int) => [some ((eL eI) losses, false), some (eI start_, false), some (eI total, false), some (eI most_, false), some (eI turn, false)]) (EO.of (EC.max2 (EC.varF (ea := eI) (v := z3'.2) rfl) (EC.varF (ea := eI) (v := total) rfl))) rfl (fun _ => rfl) fun most_ => (KN.endL (x := (total, most_)) (Le.keep (Le.keep (Le.keep (Le.keep (Le.drop Le.nil)))))))))) fun z3' => (KN.retv (ea := eI) (v := z3'.2) (own := false) rfl RT.f rfl))))))))

def sf__law_need (low : List Int) (high : List Int) (draws : List Int) (gate : Int) : R Int :=
  rngR (low.length : Int) >>= fun z1' => lcR (fun z2' => atR draws z2' >>= fun z3' => atR low z2' >>= fun z4' => R.ok (z3' - z4')) z1' >>= fun dry => rngR (low.length : Int) >>= fun z6' => lcR (fun z7' => atR high z7' >>= fun z8' => atR draws z7' >>= fun z9' => R.ok ((z8' - z9') - gate)) z6' >>= fun flood => rngR (low.length : Int) >>= fun z11' => lcR (fun z12' => sf__law_most dry z12' >>= fun z13' => sf__law_most flood z12' >>= fun z14' => R.ok (z13' + z14')) z11' >>= fun z15' => maxR z15' >>= fun z16' => R.ok z16'
theorem S__law_need (k : Nat) (low : List Int) (high : List Int) (draws : List Int) (gate : Int) : FnR (F (k + 2) 27) [(eL eI) low, (eL eI) high, (eL eI) draws, eI gate] (sf__law_need low high draws gate) eI false :=
  FnR.def_ (np := 4) (n := 7) (b := b__law_need) (k := k + 1) rfl rfl (show KN (F (k + 1)) FU (QF eI false) [some ((eL eI) low, false), some ((eL eI) high, false), some ((eL eI) draws, false), some (eI gate, false), none, none, none] (sf__law_need low high draws gate) [b__law_need] from (KN.seq (KN.asgE (L' := fun (dry : List Int) => [some ((eL eI) low, false), some ((eL eI) high, false), some ((eL eI) draws, false), some (eI gate, false), some ((eL eI) dry, true), none, none]) (EO.lc (EC.lc (ea := eI) (eb := eI) (IT.l (EC.rng1 (EC.lenL (EC.varF (ea := (eL eI)) (v := low) rfl)))) (by exact ⟨rfl, trivial⟩) TB.name (fun z2' => (EC.sub (EC.ixL (EC.varF (ea := (eL eI)) (v := draws) rfl) (EC.varF (ea := eI) (v := z2') rfl)) (EC.ixL (EC.varF (ea := (eL eI)) (v := low) rfl) (EC.varF (ea := eI) (v := z2') rfl)))) rfl)) rfl (fun _ => rfl) fun dry => (KN.seq (KN.asgE (L' := fun (flood : List Int) => [some ((eL eI) low, false), some ((eL eI) high, false), some ((eL eI) draws, false), some (eI gate, false), some ((eL eI) dry, true), some ((eL eI) flood, true), none]) (EO.lc (EC.lc (ea := eI) (eb := eI) (IT.l (EC.rng1 (EC.lenL (EC.varF (ea := (eL eI)) (v := low) rfl)))) (by exact ⟨rfl, trivial⟩) TB.name (fun z7' => (EC.sub (EC.sub (EC.ixL (EC.varF (ea := (eL eI)) (v := high) rfl) (EC.varF (ea := eI) (v := z7') rfl)) (EC.ixL (EC.varF (ea := (eL eI)) (v := draws) rfl) (EC.varF (ea := eI) (v := z7') rfl))) (EC.varF (ea := eI) (v := gate) rfl))) rfl)) rfl (fun _ => rfl) fun flood => (KN.ret (fun _ h => nomatch h) (EO.of (EC.maxL (EC.lc (ea := eI) (eb := eI) (IT.l (EC.rng1 (EC.lenL (EC.varF (ea := (eL eI)) (v := low) rfl)))) (by exact ⟨rfl, trivial⟩) TB.name (fun z12' => (EC.add (EC.call (eb := eI) (EA.cons (EC.varT (ea := (eL eI)) (v := dry) rfl) (EA.cons (EC.varF (ea := eI) (v := z12') rfl) EA.nil)) fun v => S__law_most (k + 0) v.1 v.2.1) (EC.call (eb := eI) (EA.cons (EC.varT (ea := (eL eI)) (v := flood) rfl) (EA.cons (EC.varF (ea := eI) (v := z12') rfl) EA.nil)) fun v => S__law_most (k + 0) v.1 v.2.1))) rfl))) RT.f rfl))))))

def sf_is_integer (value : D) : R Bool :=
  R.ok ((isTy value .int) && (!(isTy value .bool)))
theorem S_is_integer (k : Nat) (value : D) : FnR (F (k + 1) 0) [value] (sf_is_integer value) eB false :=
  FnR.def_ (np := 1) (n := 1) (b := b_is_integer) (k := k + 0) rfl rfl (show KN (F (k + 0)) FU (QF eB false) [some (value, false)] (sf_is_integer value) [b_is_integer] from (KN.ret (fun _ h => nomatch h) (EO.of (EC.andP (EC.isi1 (g := fun w => isTy w .int) (fun _ => rfl) (EC.varF (ea := eD) (v := value) rfl)) (EC.not (ET.bo (EC.isi1 (g := fun w => isTy w .bool) (fun _ => rfl) (EC.varF (ea := eD) (v := value) rfl)))))) RT.f rfl))

def sf_is_within (value : D) (low : Int) (high : Int) : R Bool :=
  sf_is_integer value >>= fun z2' => (if z2' then orBad (unI value) >>= fun z1' => R.ok (decide (low ≤ z1') && decide (z1' ≤ high)) else R.ok false) >>= fun z3' => R.ok z3'
theorem S_is_within (k : Nat) (value : D) (low : Int) (high : Int) : FnR (F (k + 2) 2) [value, eI low, eI high] (sf_is_within value low high) eB false :=
  FnR.def_ (np := 3) (n := 3) (b := b_is_within) (k := k + 1) rfl rfl (show KN (F (k + 1)) FU (QF eB false) [some (value, false), some (eI low, false), some (eI high, false)] (sf_is_within value low high) [b_is_within] from (KN.ret (fun _ h => nomatch h) (EO.of (EC.and (EC.call (eb := eB) (EA.cons (EC.varF (ea := eD) (v := value) rfl) EA.nil) fun v => S_is_integer (k + 0) v.1) (EC.chainP (g := fun x y => decide (x ≤ y)) (g' := fun x y => decide (x ≤ y)) (fun _ _ => rfl) (fun _ _ => rfl) (EC.varF (ea := eI) (v := low) rfl) (EC.un (ea := eD) (eb := eI) (un := unI) (EC.varF (ea := eD) (v := value) rfl) unI_ok) (EC.varF (ea := eI) (v := high) rfl)))) RT.f rfl))

def sf_check_number (name : Str) (value : D) (low : Int) (high : Int) : R D :=
  sf_is_within value low high >>= fun z1' => if (!z1') then R.exc 2 [(D.str name), D.non] else R.ok value
theorem S_check_number (k : Nat) (name : Str) (value : D) (low : Int) (high : Int) : FnR (F (k + 3) 3) [eS name, value, eI low, eI high] (sf_check_number name value low high) eD false :=
  FnR.def_ (np := 4) (n := 4) (b := b_check_number) (k := k + 2) rfl rfl (show KN (F (k + 2)) FU (QF eD false) [some (eS name, false), some (value, false), some (eI low, false), some (eI high, false)] (sf_check_number name value low high) [b_check_number] from (KN.seq (KN.ite (ET.not (ET.bo (EC.call (eb := eB) (EA.cons (EC.varF (ea := eD) (v := value) rfl) (EA.cons (EC.varF (ea := eI) (v := low) rfl) (EA.cons (EC.varF (ea := eI) (v := high) rfl) EA.nil))) fun v => S_is_within (k + 0) v.1 v.2.1 v.2.2.1))) rfl (KN.rai (EA.cons (EC.varF (ea := eS) (v := name) rfl) (EA.cons (EC.con (ea := eN) (v := ()) rfl) EA.nil)) rfl) (KN.skip (KN.retv (ea := eD) (v := value) (own := false) rfl RT.f rfl)))))

def sf_check_room (room : D) : R D :=
  sf_check_number (Str.ofString "room") room 1 1000 >>= fun z1' => R.ok z1'
theorem S_check_room (k : Nat) (room : D) : FnR (F (k + 4) 5) [room] (sf_check_room room) eD false :=
  FnR.def_ (np := 1) (n := 1) (b := b_check_room) (k := k + 3) rfl rfl (show KN (F (k + 3)) FU (QF eD false) [some (room, false)] (sf_check_room room) [b_check_room] from (KN.ret (fun _ h => nomatch h) (EO.call (eb := eD) (EA.cons (EC.con (ea := eS) (v := (Str.ofString "room")) rfl) (EA.cons (EC.varF (ea := eD) (v := room) rfl) (EA.cons (EC.con (ea := eI) (v := 1) rfl) (EA.cons (EC.con (ea := eI) (v := 1000) rfl) EA.nil)))) fun v => S_check_number (k + 0) v.1 v.2.1 v.2.2.1 v.2.2.2.1) RT.f rfl))

def sf_is_row (value : D) : R Bool :=
  R.ok (List.any [.list, .tuple] (isTy value))
theorem S_is_row (k : Nat) (value : D) : FnR (F (k + 1) 1) [value] (sf_is_row value) eB false :=
  FnR.def_ (np := 1) (n := 1) (b := b_is_row) (k := k + 0) rfl rfl (show KN (F (k + 0)) FU (QF eB false) [some (value, false)] (sf_is_row value) [b_is_row] from (KN.ret (fun _ h => nomatch h) (EO.of (EC.isi (g := fun w => List.any [.list, .tuple] (isTy w)) (fun _ => rfl) (EC.varF (ea := eD) (v := value) rfl))) RT.f rfl))

def lp_check_integers_0 (name : Str) (low : Int) (high : Int) (z6' : Int × D)  : R Unit :=
  sf_is_within z6'.2 low high >>= fun z8' => if (!z8') then R.exc 2 [(D.str name), (D.int z6'.1)] else R.ok ()
def sf_check_integers (name : Str) (values : D) (size : Int) (low : Int) (high : Int) : R (List Int) :=
  sf_is_row values >>= fun z2' => (if (!z2') then R.ok true else lenR values >>= fun z1' => R.ok (!decide (z1' = size))) >>= fun z3' => if z3' then R.exc 2 [(D.str name), D.non] else items values >>= fun z4' => forR (fun z6' z7' => lp_check_integers_0 name low high z6' ) (enumI z4') () >>= fun z7' => items values >>= fun z11' => orBad ((unT unI) ((eT eD) z11')) >>= fun z13' => R.ok z13'
theorem S_check_integers (k : Nat) (name : Str) (values : D) (size : Int) (low : Int) (high : Int) : FnR (F (k + 3) 4) [eS name, values, eI size, eI low, eI high] (sf_check_integers name values size low high) (eT eI) false :=
  FnR.def_ (np := 5) (n := 7) (b := b_check_integers) (k := k + 2) rfl rfl (show KN (F (k + 2)) FU (QF (eT eI) false) [some (eS name, false), some (values, false), some (eI size, false), some (eI low, false), some (eI high, false), none, none] (sf_check_integers name values size low high) [b_check_integers] from (KN.seq (KN.ite (ET.or (ET.not (ET.bo (EC.call (eb := eB) (EA.cons (EC.varF (ea := eD) (v := values) rfl) EA.nil) fun v => S_is_row (k + 1) v.1))) (ET.bo (EC.ne Pl.I (EC.bf1R (eb := eI) (g := lenR) lenR_ok (EC.varF (ea := eD) (v := values) rfl)) (EC.varF (ea := eI) (v := size) rfl)))) rfl (KN.rai (EA.cons (EC.varF (ea := eS) (v := name) rfl) (EA.cons (EC.con (ea := eN) (v := ()) rfl) EA.nil)) rfl) (KN.skip (KN.seq (KN.for_V (Lf := fun (z7' : Unit) => [some (eS name, false), none, some (eI size, false), some (eI low, false), some (eI high, false), none, none]) (x0 := ()) (i := 1) (L' := fun (z7' : Unit) => [some (eS name, false), some (values, false), some (eI size, false), some (eI low, false), some (eI high, false), none, none]) rfl rfl rfl (IT.l (EC.enum (IT.dy (EC.varF (ea := eD) (v := values) rfl)))) (Le.keep (Le.drop (Le.keep (Le.keep (Le.keep (Le.drop (Le.drop Le.nil))))))) (fun _ => TB.names2) rfl (fun _ => rfl) (fun z7' z6' => (KN.ite (ET.not (ET.bo (EC.call (eb := eB) (EA.cons (EC.varF (ea := eD) (v := z6'.2) rfl) (EA.cons (EC.varF (ea := eI) (v := low) rfl) (EA.cons (EC.varF (ea := eI) (v := high) rfl) EA.nil))) fun v => S_is_within (k + 0) v.1 v.2.1 v.2.2.1))) rfl (KN.rai (EA.cons (EC.varF (ea := eS) (v := name) rfl) (EA.cons (EC.varF (ea := eI) (v := z6'.1) rfl) EA.nil)) rfl) (KN.skip (KN.endL (x := ()) (Le.keep (Le.drop (Le.keep (Le.keep (Le.keep (Le.drop (Le.drop Le.nil))))))))))) fun z7' => (KN.ret (fun _ h => nomatch h) (EO.of (EC.un (ea := eD) (eb := (eT eI)) (un := (unT unI)) (EC.dyn (EC.bf1R (eb := (eT eD)) (g := items) tupleR_ok (EC.varF (ea := eD) (v := values) rfl))) (unT_ok unI_ok))) RT.f rfl)))))))

def sf_check_flows (name : Str) (flows : D) : R (List Int) :=
  sf_is_row flows >>= fun z2' => (if (!z2') then R.ok true else lenR flows >>= fun z1' => R.ok (decide (z1' = 0))) >>= fun z3' => if z3' then R.exc 2 [(D.str name), D.non] else lenR flows >>= fun z4' => if (decide (24 < z4')) then R.exc 1 [(D.int 24)] else lenR flows >>= fun z5' => sf_check_integers name flows z5' 0 1000 >>= fun z6' => R.ok z6'
theorem S_check_flows (k : Nat) (name : Str) (flows : D) : FnR (F (k + 4) 6) [eS name, flows] (sf_check_flows name flows) (eT eI) false :=
  FnR.def_ (np := 2) (n := 2) (b := b_check_flows) (k := k + 3) rfl rfl (show KN (F (k + 3)) FU (QF (eT eI) false) [some (eS name, false), some (flows, false)] (sf_check_flows name flows) [b_check_flows] from (KN.seq (KN.ite (ET.or (ET.not (ET.bo (EC.call (eb := eB) (EA.cons (EC.varF (ea := eD) (v := flows) rfl) EA.nil) fun v => S_is_row (k + 2) v.1))) (ET.bo (EC.eq Pl.I (EC.bf1R (eb := eI) (g := lenR) lenR_ok (EC.varF (ea := eD) (v := flows) rfl)) (EC.con (ea := eI) (v := 0) rfl)))) rfl (KN.rai (EA.cons (EC.varF (ea := eS) (v := name) rfl) (EA.cons (EC.con (ea := eN) (v := ()) rfl) EA.nil)) rfl) (KN.skip (KN.seq (KN.ite (ET.bo (EC.gt (EC.bf1R (eb := eI) (g := lenR) lenR_ok (EC.varF (ea := eD) (v := flows) rfl)) (EC.con (ea := eI) (v := 24) rfl))) rfl (KN.rai (EA.cons (EC.con (ea := eI) (v := 24) rfl) EA.nil) rfl) (KN.skip (KN.ret (fun _ h => nomatch h) (EO.call (eb := (eT eI)) (EA.cons (EC.varF (ea := eS) (v := name) rfl) (EA.cons (EC.varF (ea := eD) (v := flows) rfl) (EA.cons (EC.bf1R (eb := eI) (g := lenR) lenR_ok (EC.varF (ea := eD) (v := flows) rfl)) (EA.cons (EC.con (ea := eI) (v := 0) rfl) (EA.cons (EC.con (ea := eI) (v := 1000) rfl) EA.nil))))) fun v => S_check_integers (k + 0) v.1 v.2.1 v.2.2.1 v.2.2.2.1 v.2.2.2.2.1) RT.f rfl))))))))

def lp_check_high_0 (low : List Int) (z6' : Int × D)  : R Unit :=
  atR low z6'.1 >>= fun z8' => sf_is_within z6'.2 z8' 1000 >>= fun z9' => if (!z9') then R.exc 2 [(D.str (Str.ofString "high")), (D.int z6'.1)] else R.ok ()
def sf_check_high (high : D) (low : List Int) : R (List Int) :=
  sf_is_row high >>= fun z2' => (if (!z2') then R.ok true else lenR high >>= fun z1' => R.ok (!decide (z1' = (low.length : Int)))) >>= fun z3' => if z3' then R.exc 2 [(D.str (Str.ofString "high")), D.non] else items high >>= fun z4' => forR (fun z6' z7' => lp_check_high_0 low z6' ) (enumI z4') () >>= fun z7' => items high >>= fun z13' => orBad ((unT unI) ((eT eD) z13')) >>= fun z15' => R.ok z15'
theorem S_check_high (k : Nat) (high : D) (low : List Int) : FnR (F (k + 3) 9) [high, (eT eI) low] (sf_check_high high low) (eT eI) false :=
  FnR.def_ (np := 2) (n := 4) (b := b_check_high) (k := k + 2) rfl rfl (show KN (F (k + 2)) FU (QF (eT eI) false) [some (high, false), some ((eT eI) low, false), none, none] (sf_check_high high low) [b_check_high] from (KN.seq (KN.ite (ET.or (ET.not (ET.bo (EC.call (eb := eB) (EA.cons (EC.varF (ea := eD) (v := high) rfl) EA.nil) fun v => S_is_row (k + 1) v.1))) (ET.bo (EC.ne Pl.I (EC.bf1R (eb := eI) (g := lenR) lenR_ok (EC.varF (ea := eD) (v := high) rfl)) (EC.lenT (EC.varF (ea := (eT eI)) (v := low) rfl))))) rfl (KN.rai (EA.cons (EC.con (ea := eS) (v := (Str.ofString "high")) rfl) (EA.cons (EC.con (ea := eN) (v := ()) rfl) EA.nil)) rfl) (KN.skip (KN.seq (KN.for_V (Lf := fun (z7' : Unit) => [none, some ((eT eI) low, false), none, none]) (x0 := ()) (i := 0) (L' := fun (z7' : Unit) => [some (high, false), some ((eT eI) low, false), none, none]) rfl rfl rfl (IT.l (EC.enum (IT.dy (EC.varF (ea := eD) (v := high) rfl)))) (Le.drop (Le.keep (Le.drop (Le.drop Le.nil)))) (fun _ => TB.names2) rfl (fun _ => rfl) (fun z7' z6' => (KN.ite (ET.not (ET.bo (EC.call (eb := eB) (EA.cons (EC.varF (ea := eD) (v := z6'.2) rfl) (EA.cons (EC.ixT (EC.varF (ea := (eT eI)) (v := low) rfl) (EC.varF (ea := eI) (v := z6'.1) rfl)) (EA.cons (EC.con (ea := eI) (v := 1000) rfl) EA.nil))) fun v => S_is_within (k + 0) v.1 v.2.1 v.2.2.1))) rfl (KN.rai (EA.cons (EC.con (ea := eS) (v := (Str.ofString "high")) rfl) (EA.cons (EC.varF (ea := eI) (v := z6'.1) rfl) EA.nil)) rfl) (KN.skip (KN.endL (x := ()) (Le.drop (Le.keep (Le.drop (Le.drop Le.nil)))))))) fun z7' => (KN.ret (fun _ h => nomatch h) (EO.of (EC.un (ea := eD) (eb := (eT eI)) (un := (unT unI)) (EC.dyn (EC.bf1R (eb := (eT eD)) (g := items) tupleR_ok (EC.varF (ea := eD) (v := high) rfl))) (unT_ok unI_ok))) RT.f rfl)))))))

def sf_check_draws (draws : D) (periods : Int) : R (List Int) :=
  sf_check_integers (Str.ofString "draws") draws periods 0 1000 >>= fun z1' => R.ok z1'
theorem S_check_draws (k : Nat) (draws : D) (periods : Int) : FnR (F (k + 4) 7) [draws, eI periods] (sf_check_draws draws periods) (eT eI) false :=
  FnR.def_ (np := 2) (n := 2) (b := b_check_draws) (k := k + 3) rfl rfl (show KN (F (k + 3)) FU (QF (eT eI) false) [some (draws, false), some (eI periods, false)] (sf_check_draws draws periods) [b_check_draws] from (KN.ret (fun _ h => nomatch h) (EO.call (eb := (eT eI)) (EA.cons (EC.con (ea := eS) (v := (Str.ofString "draws")) rfl) (EA.cons (EC.varF (ea := eD) (v := draws) rfl) (EA.cons (EC.varF (ea := eI) (v := periods) rfl) (EA.cons (EC.con (ea := eI) (v := 0) rfl) (EA.cons (EC.con (ea := eI) (v := 1000) rfl) EA.nil))))) fun v => S_check_integers (k + 0) v.1 v.2.1 v.2.2.1 v.2.2.2.1 v.2.2.2.2.1) RT.f rfl))

def sf_check_band (room : Int) (low : D) (high : D) (draws : D) (gate : Int) : R ((List Int) × (List Int) × (List Int)) :=
  sf_check_room (D.int room) >>= fun _ => sf_check_flows (Str.ofString "low") low >>= fun lows => sf_check_high high lows >>= fun highs => sf_check_draws draws (lows.length : Int) >>= fun takes => sf_check_number (Str.ofString "gate") (D.int gate) 0 1000 >>= fun _ => R.ok (lows, highs, takes)
theorem S_check_band (k : Nat) (room : Int) (low : D) (high : D) (draws : D) (gate : Int) : FnR (F (k + 5) 10) [eI room, low, high, draws, eI gate] (sf_check_band room low high draws gate) (eP3 (eT eI) (eT eI) (eT eI)) false :=
  FnR.def_ (np := 5) (n := 8) (b := b_check_band) (k := k + 4) rfl rfl (show KN (F (k + 4)) FU (QF (eP3 (eT eI) (eT eI) (eT eI)) false) [some (eI room, false), some (low, false), some (high, false), some (draws, false), some (eI gate, false), none, none, none] (sf_check_band room low high draws gate) [b_check_band] from (KN.seq (KN.exp (EC.call (eb := eD) (EA.cons (EC.dyn (EC.varF (ea := eI) (v := room) rfl)) EA.nil) fun v => S_check_room (k + 0) v.1) rfl (KN.seq (KN.asgE (L' := fun (lows : List Int) => [some (eI room, false), some (low, false), some (high, false), some (draws, false), some (eI gate, false), some ((eT eI) lows, false), none, none]) (EO.call (eb := (eT eI)) (EA.cons (EC.con (ea := eS) (v := (Str.ofString "low")) rfl) (EA.cons (EC.varF (ea := eD) (v := low) rfl) EA.nil)) fun v => S_check_flows (k + 0) v.1 v.2.1) rfl (fun _ => rfl) fun lows => (KN.seq (KN.asgE (L' := fun (highs : List Int) => [some (eI room, false), some (low, false), some (high, false), some (draws, false), some (eI gate, false), some ((eT eI) lows, false), some ((eT eI) highs, false), none]) (EO.call (eb := (eT eI)) (EA.cons (EC.varF (ea := eD) (v := high) rfl) (EA.cons (EC.varF (ea := (eT eI)) (v := lows) rfl) EA.nil)) fun v => S_check_high (k + 1) v.1 v.2.1) rfl (fun _ => rfl) fun highs => (KN.seq (KN.asgE (L' := fun (takes : List Int) => [some (eI room, false), some (low, false), some (high, false), some (draws, false), some (eI gate, false), some ((eT eI) lows, false), some ((eT eI) highs, false), some ((eT eI) takes, false)]) (EO.call (eb := (eT eI)) (EA.cons (EC.varF (ea := eD) (v := draws) rfl) (EA.cons (EC.lenT (EC.varF (ea := (eT eI)) (v := lows) rfl)) EA.nil)) fun v => S_check_draws (k + 0) v.1 v.2.1) rfl (fun _ => rfl) fun takes => (KN.seq (KN.exp (EC.call (eb := eD) (EA.cons (EC.con (ea := eS) (v := (Str.ofString "gate")) rfl) (EA.cons (EC.dyn (EC.varF (ea := eI) (v := gate) rfl)) (EA.cons (EC.con (ea := eI) (v := 0) rfl) (EA.cons (EC.con (ea := eI) (v := 1000) rfl) EA.nil)))) fun v => S_check_number (k + 1) v.1 v.2.1 v.2.2.1 v.2.2.2.1) rfl (KN.ret (fun _ h => nomatch h) (EO.of (EC.tup (eb := (eP3 (eT eI) (eT eI) (eT eI))) (EA.cons (EC.varF (ea := (eT eI)) (v := lows) rfl) (EA.cons (EC.varF (ea := (eT eI)) (v := highs) rfl) (EA.cons (EC.varF (ea := (eT eI)) (v := takes) rfl) EA.nil))) (fun w => (w.1, w.2.1, w.2.2.1)) (fun _ => rfl) (fun _ => Nat.le_of_ble_eq_true rfl))) RT.f rfl))))))))))))

def sf_dry_losses (lows : List Int) (takes : List Int) : R (List Int) :=
  lcR (fun z1' => R.ok (z1'.1 - z1'.2)) (zipI takes lows) >>= fun z2' => R.ok z2'
theorem S_dry_losses (k : Nat) (lows : List Int) (takes : List Int) : FnR (F (k + 1) 11) [(eT eI) lows, (eT eI) takes] (sf_dry_losses lows takes) (eL eI) true :=
  FnR.def_ (np := 2) (n := 4) (b := b_dry_losses) (k := k + 0) rfl rfl (show KN (F (k + 0)) FU (QF (eL eI) true) [some ((eT eI) lows, false), some ((eT eI) takes, false), none, none] (sf_dry_losses lows takes) [b_dry_losses] from (KN.ret (fun _ h => nomatch h) (EO.lc (EC.lc (ea := (eP2 eI eI)) (eb := eI) (IT.l (EC.zipT (EC.varF (ea := (eT eI)) (v := takes) rfl) (EC.varF (ea := (eT eI)) (v := lows) rfl))) (by exact ⟨rfl, rfl, trivial⟩) TB.names2 (fun z1' => (EC.sub (EC.varF (ea := eI) (v := z1'.1) rfl) (EC.varF (ea := eI) (v := z1'.2) rfl))) rfl)) RT.f rfl))

def sf_flood_losses (highs : List Int) (takes : List Int) (gate : Int) : R (List Int) :=
  lcR (fun z1' => R.ok ((z1'.1 + gate) - z1'.2)) (zipI takes highs) >>= fun z2' => R.ok z2'
theorem S_flood_losses (k : Nat) (highs : List Int) (takes : List Int) (gate : Int) : FnR (F (k + 1) 12) [(eT eI) highs, (eT eI) takes, eI gate] (sf_flood_losses highs takes gate) (eL eI) true :=
  FnR.def_ (np := 3) (n := 5) (b := b_flood_losses) (k := k + 0) rfl rfl (show KN (F (k + 0)) FU (QF (eL eI) true) [some ((eT eI) highs, false), some ((eT eI) takes, false), some (eI gate, false), none, none] (sf_flood_losses highs takes gate) [b_flood_losses] from (KN.ret (fun _ h => nomatch h) (EO.lc (EC.lc (ea := (eP2 eI eI)) (eb := eI) (IT.l (EC.zipT (EC.varF (ea := (eT eI)) (v := takes) rfl) (EC.varF (ea := (eT eI)) (v := highs) rfl))) (by exact ⟨rfl, rfl, trivial⟩) TB.names2 (fun z1' => (EC.sub (EC.add (EC.varF (ea := eI) (v := z1'.1) rfl) (EC.varF (ea := eI) (v := gate) rfl)) (EC.varF (ea := eI) (v := z1'.2) rfl))) rfl)) RT.f rfl))

def lp_sums_from_0 (losses : List Int) (start_ : Int) (turn : Int) (sums : List Int) : R (List Int) :=
  atR sums (-1) >>= fun z3' => fmodR (start_ + turn) (losses.length : Int) >>= fun z4' => atR losses z4' >>= fun z5' => appR sums (z3' + z5') >>= fun sums => R.ok sums
def sf_sums_from (losses : List Int) (start_ : Int) (length : Int) : R (List Int) :=
  R.ok ([0] : List Int) >>= fun sums => rngR length >>= fun z1' => forR (fun turn sums => lp_sums_from_0 losses start_ turn sums) z1' sums >>= fun sums => R.ok sums
theorem S_sums_from (k : Nat) (losses : List Int) (start_ : Int) (length : Int) : FnR (F (k + 1) 13) [(eL eI) losses, eI start_, eI length] (sf_sums_from losses start_ length) (eL eI) true :=
  FnR.def_ (np := 3) (n := 5) (b := b_sums_from) (k := k + 0) rfl rfl (show KN (F (k + 0)) FU (QF (eL eI) true) [some ((eL eI) losses, false), some (eI start_, false), some (eI length, false), none, none] (sf_sums_from losses start_ length) [b_sums_from] from (KN.seq (KN.asgP (L' := fun (sums : List Int) => [some ((eL eI) losses, false), some (eI start_, false), some (eI length, false), some ((eL eI) sums, true), none]) (EO.lst (EC.lst (eb := eI) (EA.cons (EC.con (ea := eI) (v := 0) rfl) EA.nil) (fun w => [w.1]) (fun _ => rfl) (fun _ => Nat.le_of_ble_eq_true rfl))) rfl (fun _ => rfl) fun sums => (KN.seq (KN.for_ (Lf := fun (sums : (List Int)) => [some ((eL eI) losses, false), some (eI start_, false), some (eI length, false), some ((eL eI) sums, true), none]) (x0 := sums) (fun _ => rfl) (IT.l (EC.rng1 (EC.varF (ea := eI) (v := length) rfl))) (Le.keep (Le.keep (Le.keep (Le.keep (Le.drop Le.nil))))) (fun _ => TB.name) rfl (fun sums turn => (KN.app (L' := fun (sums : List Int) => [some ((eL eI) losses, false), some (eI start_, false), some (eI length, false), some ((eL eI) sums, true), some (eI turn, false)]) (xs := sums) (ea := eI) (EC.add (EC.ixL (EC.varT (ea := (eL eI)) (v := sums) rfl) (EC.neg (EC.con (ea := eI) (v := 1) rfl))) (EC.ixL (EC.varF (ea := (eL eI)) (v := losses) rfl) (EC.mod (EC.add (EC.varF (ea := eI) (v := start_) rfl) (EC.varF (ea := eI) (v := turn) rfl)) (EC.lenL (EC.varF (ea := (eL eI)) (v := losses) rfl))))) rfl rfl (fun _ => rfl) fun sums => (KN.endL (x := sums) (Le.keep (Le.keep (Le.keep (Le.keep (Le.drop Le.nil)))))))) fun sums => (KN.retv (ea := (eL eI)) (v := sums) (own := true) rfl RT.f rfl))))))

def lp_pairs_of_0 (room : Int) (dry : List Int) (flood : List Int) (periods : Int) (start_ : Int) (pairs : List (Int × Int)) : R (List (Int × Int)) :=
  sf_sums_from dry start_ periods >>= fun z3' => maxR z3' >>= fun least => sf_sums_from flood start_ periods >>= fun z5' => minR z5' >>= fun z6' => R.ok (room + z6') >>= fun greatest => appR pairs (least, greatest) >>= fun pairs => R.ok pairs
def sf_pairs_of (room : Int) (dry : List Int) (flood : List Int) : R (List (Int × Int)) :=
  R.ok (dry.length : Int) >>= fun periods => R.ok ([] : List (Int × Int)) >>= fun pairs => rngR periods >>= fun z1' => forR (fun start_ pairs => lp_pairs_of_0 room dry flood periods start_ pairs) z1' pairs >>= fun pairs => R.ok pairs
theorem S_pairs_of (k : Nat) (room : Int) (dry : List Int) (flood : List Int) : FnR (F (k + 2) 14) [eI room, (eL eI) dry, (eL eI) flood] (sf_pairs_of room dry flood) (eL (eP2 eI eI)) true :=
  FnR.def_ (np := 3) (n := 8) (b := b_pairs_of) (k := k + 1) rfl rfl (show KN (F (k + 1)) FU (QF (eL (eP2 eI eI)) true) [some (eI room, false), some ((eL eI) dry, false), some ((eL eI) flood, false), none, none, none, none, none] (sf_pairs_of room dry flood) [b_pairs_of] from (KN.seq (KN.asgP (L' := fun (periods : Int) => [some (eI room, false), some ((eL eI) dry, false), some ((eL eI) flood, false), some (eI periods, false), none, none, none, none]) (EO.of (EC.lenL (EC.varF (ea := (eL eI)) (v := dry) rfl))) rfl (fun _ => rfl) fun periods => (KN.seq (KN.asgP (L' := fun (pairs : List (Int × Int)) => [some (eI room, false), some ((eL eI) dry, false), some ((eL eI) flood, false), some (eI periods, false), some ((eL (eP2 eI eI)) pairs, true), none, none, none]) (EO.lst (EC.lst (eb := (eP2 eI eI)) EA.nil (fun w => []) (fun _ => rfl) (fun _ => Nat.le_of_ble_eq_true rfl))) rfl (fun _ => rfl) fun pairs => (KN.seq (KN.for_ (Lf := fun (pairs : (List (Int × Int))) => [some (eI room, false), some ((eL eI) dry, false), some ((eL eI) flood, false), some (eI periods, false), some ((eL (eP2 eI eI)) pairs, true), none, none, none]) (x0 := pairs) (fun _ => rfl) (IT.l (EC.rng1 (EC.varF (ea := eI) (v := periods) rfl))) (Le.keep (Le.keep (Le.keep (Le.keep (Le.keep (Le.drop (Le.drop (Le.drop Le.nil)))))))) (fun _ => TB.name) rfl (fun pairs start_ => (KN.seq (KN.asgE (L' := fun (least : Int) => [some (eI room, false), some ((eL eI) dry, false), some ((eL eI) flood, false), some (eI periods, false), some ((eL (eP2 eI eI)) pairs, true), some (eI start_, false), some (eI least, false), none]) (EO.of (EC.maxL (EC.call (eb := (eL eI)) (EA.cons (EC.varF (ea := (eL eI)) (v := dry) rfl) (EA.cons (EC.varF (ea := eI) (v := start_) rfl) (EA.cons (EC.varF (ea := eI) (v := periods) rfl) EA.nil))) fun v => S_sums_from (k + 0) v.1 v.2.1 v.2.2.1))) rfl (fun _ => rfl) fun least => (KN.seq (KN.asgP (L' := fun (greatest : Int) => [some (eI room, false), some ((eL eI) dry, false), some ((eL eI) flood, false), some (eI periods, false), some ((eL (eP2 eI eI)) pairs, true), some (eI start_, false), some (eI least, false), some (eI greatest, false)]) (EO.of (EC.add (EC.varF (ea := eI) (v := room) rfl) (EC.minL (EC.call (eb := (eL eI)) (EA.cons (EC.varF (ea := (eL eI)) (v := flood) rfl) (EA.cons (EC.varF (ea := eI) (v := start_) rfl) (EA.cons (EC.varF (ea := eI) (v := periods) rfl) EA.nil))) fun v => S_sums_from (k + 0) v.1 v.2.1 v.2.2.1)))) rfl (fun _ => rfl) fun greatest => (KN.app (L' := fun (pairs : List (Int × Int)) => [some (eI room, false), some ((eL eI) dry, false), some ((eL eI) flood, false), some (eI periods, false), some ((eL (eP2 eI eI)) pairs, true), some (eI start_, false), some (eI least, false), some (eI greatest, false)]) (xs := pairs) (ea := (eP2 eI eI)) (EC.tup (eb := (eP2 eI eI)) (EA.cons (EC.varF (ea := eI) (v := least) rfl) (EA.cons (EC.varF (ea := eI) (v := greatest) rfl) EA.nil)) (fun w => (w.1, w.2.1)) (fun _ => rfl) (fun _ => Nat.le_of_ble_eq_true rfl)) rfl rfl (fun _ => rfl) fun pairs => (KN.endL (x := pairs) (Le.keep (Le.keep (Le.keep (Le.keep (Le.keep (Le.drop (Le.drop (Le.drop Le.nil))))))))))))))) fun pairs => (KN.retv (ea := (eL (eP2 eI eI))) (v := pairs) (own := true) rfl RT.f rfl))))))))

def lp_band_of_0  (z5' : Int × Int)  : R (LO Unit (Option (List (Int × Int)))) :=
  if (decide (z5'.2 < z5'.1)) then R.ok (LO.rt none) else R.ok (LO.nx ())
def sf_band_of (room : Int) (lows : List Int) (highs : List Int) (takes : List Int) (gate : Int) : R (Option (List (Int × Int))) :=
  sf_dry_losses lows takes >>= fun dry => sf_flood_losses highs takes gate >>= fun flood => if ((decide (0 < dry.sum)) || (decide (flood.sum < 0))) then R.ok none else sf_pairs_of room dry flood >>= fun pairs => forO (fun z5' z6' => lp_band_of_0  z5' ) pairs () >>= fun z7' => LO.k z7' (fun z6' => R.ok (some pairs)) R.ok
theorem S_band_of (k : Nat) (room : Int) (lows : List Int) (highs : List Int) (takes : List Int) (gate : Int) : FnR (F (k + 3) 15) [eI room, (eT eI) lows, (eT eI) highs, (eT eI) takes, eI gate] (sf_band_of room lows highs takes gate) (eO (eL (eP2 eI eI))) true :=
  FnR.def_ (np := 5) (n := 10) (b := b_band_of) (k := k + 2) rfl rfl (show KN (F (k + 2)) FU (QF (eO (eL (eP2 eI eI))) true) [some (eI room, false), some ((eT eI) lows, false), some ((eT eI) highs, false), some ((eT eI) takes, false), some (eI gate, false), none, none, none, none, none] (sf_band_of room lows highs takes gate) [b_band_of] from (KN.seq (KN.asgE (L' := fun (dry : List Int) => [some (eI room, false), some ((eT eI) lows, false), some ((eT eI) highs, false), some ((eT eI) takes, false), some (eI gate, false), some ((eL eI) dry, true), none, none, none, none]) (EO.call (eb := (eL eI)) (EA.cons (EC.varF (ea := (eT eI)) (v := lows) rfl) (EA.cons (EC.varF (ea := (eT eI)) (v := takes) rfl) EA.nil)) fun v => S_dry_losses (k + 1) v.1 v.2.1) rfl (fun _ => rfl) fun dry => (KN.seq (KN.asgE (L' := fun (flood : List Int) => [some (eI room, false), some ((eT eI) lows, false), some ((eT eI) highs, false), some ((eT eI) takes, false), some (eI gate, false), some ((eL eI) dry, true), some ((eL eI) flood, true), none, none, none]) (EO.call (eb := (eL eI)) (EA.cons (EC.varF (ea := (eT eI)) (v := highs) rfl) (EA.cons (EC.varF (ea := (eT eI)) (v := takes) rfl) (EA.cons (EC.varF (ea := eI) (v := gate) rfl) EA.nil))) fun v => S_flood_losses (k + 1) v.1 v.2.1 v.2.2.1) rfl (fun _ => rfl) fun flood => (KN.seq (KN.ite (ET.orP (ET.bo (EC.gt (EC.sumL (EC.varT (ea := (eL eI)) (v := dry) rfl)) (EC.con (ea := eI) (v := 0) rfl))) (ET.bo (EC.lt (EC.sumL (EC.varT (ea := (eL eI)) (v := flood) rfl)) (EC.con (ea := eI) (v := 0) rfl)))) rfl (KN.ret (fun _ h => nomatch h) (EO.as (eb := (eO (eL (eP2 eI eI)))) (v := fun _ => none) (EO.con rfl (EC.con (ea := eN) (v := ()) rfl)) fun _ => rfl) RT.f rfl) (KN.skip (KN.seq (KN.asgE (L' := fun (pairs : List (Int × Int)) => [some (eI room, false), some ((eT eI) lows, false), some ((eT eI) highs, false), some ((eT eI) takes, false), some (eI gate, false), some ((eL eI) dry, false), some ((eL eI) flood, false), some ((eL (eP2 eI eI)) pairs, true), none, none]) (EO.call (eb := (eL (eP2 eI eI))) (EA.cons (EC.varF (ea := eI) (v := room) rfl) (EA.cons (EC.varT (ea := (eL eI)) (v := dry) rfl) (EA.cons (EC.varT (ea := (eL eI)) (v := flood) rfl) EA.nil))) fun v => S_pairs_of (k + 0) v.1 v.2.1 v.2.2.1) rfl (fun _ => rfl) fun pairs => (KN.seq (KN.forOV (ec := (eO (eL (eP2 eI eI)))) (own := true) (Lf := fun (z6' : Unit) => [some (eI room, false), some ((eT eI) lows, false), some ((eT eI) highs, false), some ((eT eI) takes, false), some (eI gate, false), some ((eL eI) dry, false), some ((eL eI) flood, false), none, none, none]) (x0 := ()) (i := 7) (L' := fun (z6' : Unit) => [some (eI room, false), some ((eT eI) lows, false), some ((eT eI) highs, false), some ((eT eI) takes, false), some (eI gate, false), some ((eL eI) dry, false), some ((eL eI) flood, false), some ((eL (eP2 eI eI)) pairs, true), none, none]) rfl rfl rfl (IT.l (EC.varT (ea := (eL (eP2 eI eI))) (v := pairs) rfl)) (Le.keep (Le.keep (Le.keep (Le.keep (Le.keep (Le.keep (Le.keep (Le.drop (Le.drop (Le.drop Le.nil)))))))))) (fun _ => TB.names2) RT.f rfl (fun _ => rfl) (fun z6' z5' => (KN.ite (ET.bo (EC.gt (EC.varF (ea := eI) (v := z5'.1) rfl) (EC.varF (ea := eI) (v := z5'.2) rfl))) rfl (KN.ret (fun _ h => nomatch h) (EO.as (eb := (eO (eL (eP2 eI eI)))) (v := fun _ => none) (EO.con rfl (EC.con (ea := eN) (v := ()) rfl)) fun _ => rfl) RT.lo rfl) (KN.skip (KN.endLO (x := ()) (Le.keep (Le.keep (Le.keep (Le.keep (Le.keep (Le.keep (Le.keep (Le.drop (Le.drop (Le.drop Le.nil)))))))))))))) fun z6' => (KN.retv (ea := (eO (eL (eP2 eI eI)))) (v := (some pairs)) (own := true) rfl RT.f rfl)))))))))))))

def sf_band (room : Int) (low : D) (high : D) (draws : D) (gate : Int) : R (Option (List (Int × Int))) :=
  sf_check_band room low high draws gate >>= fun z2' => sf_band_of room z2'.1 z2'.2.1 z2'.2.2 gate >>= fun z3' => R.ok z3'
theorem S_band (k : Nat) (room : Int) (low : D) (high : D) (draws : D) (gate : Int) : FnR (F (k + 6) 16) [eI room, low, high, draws, eI gate] (sf_band room low high draws gate) (eO (eL (eP2 eI eI))) true :=
  FnR.def_ (np := 5) (n := 8) (b := b_band) (k := k + 5) rfl rfl (show KN (F (k + 5)) FU (QF (eO (eL (eP2 eI eI))) true) [some (eI room, false), some (low, false), some (high, false), some (draws, false), some (eI gate, false), none, none, none] (sf_band room low high draws gate) [b_band] from (KN.seq (KN.unp (L' := fun (z2' : (List Int) × (List Int) × (List Int)) => [some (eI room, false), some (low, false), some (high, false), some (draws, false), some (eI gate, false), some ((eT eI) z2'.1, false), some ((eT eI) z2'.2.1, false), some ((eT eI) z2'.2.2, false)]) (EC.call (eb := (eP3 (eT eI) (eT eI) (eT eI))) (EA.cons (EC.varF (ea := eI) (v := room) rfl) (EA.cons (EC.varF (ea := eD) (v := low) rfl) (EA.cons (EC.varF (ea := eD) (v := high) rfl) (EA.cons (EC.varF (ea := eD) (v := draws) rfl) (EA.cons (EC.varF (ea := eI) (v := gate) rfl) EA.nil))))) fun v => S_check_band (k + 0) v.1 v.2.1 v.2.2.1 v.2.2.2.1 v.2.2.2.2.1) TB.names3 rfl (fun _ => rfl) fun z2' => (KN.ret (fun _ h => nomatch h) (EO.call (eb := (eO (eL (eP2 eI eI)))) (EA.cons (EC.varF (ea := eI) (v := room) rfl) (EA.cons (EC.varF (ea := (eT eI)) (v := z2'.1) rfl) (EA.cons (EC.varF (ea := (eT eI)) (v := z2'.2.1) rfl) (EA.cons (EC.varF (ea := (eT eI)) (v := z2'.2.2) rfl) (EA.cons (EC.varF (ea := eI) (v := gate) rfl) EA.nil))))) fun v => S_band_of (k + 2) v.1 v.2.1 v.2.2.1 v.2.2.2.1 v.2.2.2.2.1) RT.f rfl))))

def lp_squeeze_0 (room : Int) (dry : List Int) (flood : List Int) (z7' : Int × (Int × Int))  : R (LO Unit D) :=
  R.ok z7'.2 >>= fun z9' => if (decide (z9'.2 < z9'.1)) then sf_sums_from dry z7'.1 (dry.length : Int) >>= fun z10' => indexR z10' z9'.1 >>= fun dry_length => sf_sums_from flood z7'.1 (dry.length : Int) >>= fun z12' => indexR z12' (z9'.2 - room) >>= fun flood_length => R.ok (LO.rt ((eP4 eS eI eI eI) ((Str.ofString "meet"), z7'.1, dry_length, flood_length))) else R.ok (LO.nx ())
def sf_squeeze (room : Int) (low : D) (high : D) (draws : D) (gate : Int) : R D :=
  sf_check_band room low high draws gate >>= fun z2' => sf_dry_losses z2'.1 z2'.2.2 >>= fun dry => sf_flood_losses z2'.2.1 z2'.2.2 gate >>= fun flood => if (decide (0 < dry.sum)) then R.ok ((eP1 eS) (Str.ofString "dry")) else if (decide (flood.sum < 0)) then R.ok ((eP1 eS) (Str.ofString "flood")) else sf_pairs_of room dry flood >>= fun z5' => forO (fun z7' z8' => lp_squeeze_0 room dry flood z7' ) (enumI z5') () >>= fun z19' => LO.k z19' (fun z8' => R.ok D.non) R.ok
theorem S_squeeze (k : Nat) (room : Int) (low : D) (high : D) (draws : D) (gate : Int) : FnR (F (k + 6) 19) [eI room, low, high, draws, eI gate] (sf_squeeze room low high draws gate) eD false :=
  FnR.def_ (np := 5) (n := 16) (b := b_squeeze) (k := k + 5) rfl rfl (show KN (F (k + 5)) FU (QF eD false) [some (eI room, false), some (low, false), some (high, false), some (draws, false), some (eI gate, false), none, none, none, none, none, none, none, none, none, none, none] (sf_squeeze room low high draws gate) [b_squeeze] from (KN.seq (KN.unp (L' := fun (z2' : (List Int) × (List Int) × (List Int)) => [some (eI room, false), some (low, false), some (high, false), some (draws, false), some (eI gate, false), some ((eT eI) z2'.1, false), some ((eT eI) z2'.2.1, false), some ((eT eI) z2'.2.2, false), none, none, none, none, none, none, none, none]) (EC.call (eb := (eP3 (eT eI) (eT eI) (eT eI))) (EA.cons (EC.varF (ea := eI) (v := room) rfl) (EA.cons (EC.varF (ea := eD) (v := low) rfl) (EA.cons (EC.varF (ea := eD) (v := high) rfl) (EA.cons (EC.varF (ea := eD) (v := draws) rfl) (EA.cons (EC.varF (ea := eI) (v := gate) rfl) EA.nil))))) fun v => S_check_band (k + 0) v.1 v.2.1 v.2.2.1 v.2.2.2.1 v.2.2.2.2.1) TB.names3 rfl (fun _ => rfl) fun z2' => (KN.seq (KN.asgE (L' := fun (dry : List Int) => [some (eI room, false), some (low, false), some (high, false), some (draws, false), some (eI gate, false), some ((eT eI) z2'.1, false), some ((eT eI) z2'.2.1, false), some ((eT eI) z2'.2.2, false), some ((eL eI) dry, true), none, none, none, none, none, none, none]) (EO.call (eb := (eL eI)) (EA.cons (EC.varF (ea := (eT eI)) (v := z2'.1) rfl) (EA.cons (EC.varF (ea := (eT eI)) (v := z2'.2.2) rfl) EA.nil)) fun v => S_dry_losses (k + 4) v.1 v.2.1) rfl (fun _ => rfl) fun dry => (KN.seq (KN.asgE (L' := fun (flood : List Int) => [some (eI room, false), some (low, false), some (high, false), some (draws, false), some (eI gate, false), some ((eT eI) z2'.1, false), some ((eT eI) z2'.2.1, false), some ((eT eI) z2'.2.2, false), some ((eL eI) dry, true), some ((eL eI) flood, true), none, none, none, none, none, none]) (EO.call (eb := (eL eI)) (EA.cons (EC.varF (ea := (eT eI)) (v := z2'.2.1) rfl) (EA.cons (EC.varF (ea := (eT eI)) (v := z2'.2.2) rfl) (EA.cons (EC.varF (ea := eI) (v := gate) rfl) EA.nil))) fun v => S_flood_losses (k + 4) v.1 v.2.1 v.2.2.1) rfl (fun _ => rfl) fun flood => (KN.seq (KN.ite (ET.bo (EC.gt (EC.sumL (EC.varT (ea := (eL eI)) (v := dry) rfl)) (EC.con (ea := eI) (v := 0) rfl))) rfl (KN.ret (fun _ h => nomatch h) (EO.of (EC.dyn (EC.tup (eb := (eP1 eS)) (EA.cons (EC.con (ea := eS) (v := (Str.ofString "dry")) rfl) EA.nil) (fun w => w.1) (fun _ => rfl) (fun _ => Nat.le_of_ble_eq_true rfl)))) RT.f rfl) (KN.skip (KN.seq (KN.ite (ET.bo (EC.lt (EC.sumL (EC.varT (ea := (eL eI)) (v := flood) rfl)) (EC.con (ea := eI) (v := 0) rfl))) rfl (KN.ret (fun _ h => nomatch h) (EO.of (EC.dyn (EC.tup (eb := (eP1 eS)) (EA.cons (EC.con (ea := eS) (v := (Str.ofString "flood")) rfl) EA.nil) (fun w => w.1) (fun _ => rfl) (fun _ => Nat.le_of_ble_eq_true rfl)))) RT.f rfl) (KN.skip (KN.seq (KN.forO (ec := eD) (own := false) (Lf := fun (z8' : Unit) => [some (eI room, false), some (low, false), some (high, false), some (draws, false), some (eI gate, false), some ((eT eI) z2'.1, false), some ((eT eI) z2'.2.1, false), some ((eT eI) z2'.2.2, false), some ((eL eI) dry, false), some ((eL eI) flood, false), none, none, none, none, none, none]) (x0 := ()) (fun _ => rfl) (IT.l (EC.enum (IT.l (EC.call (eb := (eL (eP2 eI eI))) (EA.cons (EC.varF (ea := eI) (v := room) rfl) (EA.cons (EC.varT (ea := (eL eI)) (v := dry) rfl) (EA.cons (EC.varT (ea := (eL eI)) (v := flood) rfl) EA.nil))) fun v => S_pairs_of (k + 3) v.1 v.2.1 v.2.2.1)))) (Le.keep (Le.keep (Le.keep (Le.keep (Le.keep (Le.keep (Le.keep (Le.keep (Le.keep (Le.keep (Le.drop (Le.drop (Le.drop (Le.drop (Le.drop (Le.drop Le.nil)))))))))))))))) (fun _ => TB.names2) RT.f rfl (fun z8' z7' => (KN.seq (KN.unpP (L' := fun (z14' : Int × Int) => [some (eI room, false), some (low, false), some (high, false), some (draws, false), some (eI gate, false), some ((eT eI) z2'.1, false), some ((eT eI) z2'.2.1, false), some ((eT eI) z2'.2.2, false), some ((eL eI) dry, false), some ((eL eI) flood, false), some (eI z7'.1, false), some ((eP2 eI eI) z7'.2, false), some (eI z14'.1, false), some (eI z14'.2, false), none, none]) (EC.varF (ea := (eP2 eI eI)) (v := z7'.2) rfl) TB.names2 rfl (fun _ => rfl) fun z14' => (KN.ite (ET.bo (EC.gt (EC.varF (ea := eI) (v := z14'.1) rfl) (EC.varF (ea := eI) (v := z14'.2) rfl))) rfl (KN.seq (KN.asgE (L' := fun (dry_length : Int) => [some (eI room, false), some (low, false), some (high, false), some (draws, false), some (eI gate, false), some ((eT eI) z2'.1, false), some ((eT eI) z2'.2.1, false), some ((eT eI) z2'.2.2, false), some ((eL eI) dry, false), some ((eL eI) flood, false), some (eI z7'.1, false), some ((eP2 eI eI) z7'.2, false), some (eI z14'.1, false), some (eI z14'.2, false), some (eI dry_length, false), none]) (EO.of (EC.index (EC.call (eb := (eL eI)) (EA.cons (EC.varF (ea := (eL eI)) (v := dry) rfl) (EA.cons (EC.varF (ea := eI) (v := z7'.1) rfl) (EA.cons (EC.lenL (EC.varF (ea := (eL eI)) (v := dry) rfl)) EA.nil))) fun v => S_sums_from (k + 4) v.1 v.2.1 v.2.2.1) (EC.varF (ea := eI) (v := z14'.1) rfl))) rfl (fun _ => rfl) fun dry_length => (KN.seq (KN.asgE (L' := fun (flood_length : Int) => [some (eI room, false), some (low, false), some (high, false), some (draws, false), some (eI gate, false), some ((eT eI) z2'.1, false), some ((eT eI) z2'.2.1, false), some ((eT eI) z2'.2.2, false), some ((eL eI) dry, false), some ((eL eI) flood, false), some (eI z7'.1, false), some ((eP2 eI eI) z7'.2, false), some (eI z14'.1, false), some (eI z14'.2, false), some (eI dry_length, false), some (eI flood_length, false)]) (EO.of (EC.index (EC.call (eb := (eL eI)) (EA.cons (EC.varF (ea := (eL eI)) (v := flood) rfl) (EA.cons (EC.varF (ea := eI) (v := z7'.1) rfl) (EA.cons (EC.lenL (EC.varF (ea := (eL eI)) (v := dry) rfl)) EA.nil))) fun v => S_sums_from (k + 4) v.1 v.2.1 v.2.2.1) (EC.sub (EC.varF (ea := eI) (v := z14'.2) rfl) (EC.varF (ea := eI) (v := room) rfl)))) rfl (fun _ => rfl) fun flood_length => (KN.ret (fun _ h => nomatch h) (EO.of (EC.dyn (EC.tup (eb := (eP4 eS eI eI eI)) (EA.cons (EC.con (ea := eS) (v := (Str.ofString "meet")) rfl) (EA.cons (EC.varF (ea := eI) (v := z7'.1) rfl) (EA.cons (EC.varF (ea := eI) (v := dry_length) rfl) (EA.cons (EC.varF (ea := eI) (v := flood_length) rfl) EA.nil)))) (fun w => (w.1, w.2.1, w.2.2.1, w.2.2.2.1)) (fun _ => rfl) (fun _ => Nat.le_of_ble_eq_true rfl)))) RT.lo rfl))))) (KN.skip (KN.endLO (x := ()) (Le.keep (Le.keep (Le.keep (Le.keep (Le.keep (Le.keep (Le.keep (Le.keep (Le.keep (Le.keep (Le.drop (Le.drop (Le.drop (Le.drop (Le.drop (Le.drop Le.nil)))))))))))))))))))))) fun z8' => (KN.ret (fun _ h => nomatch h) (EO.of (EC.dyn (EC.con (ea := eN) (v := ()) rfl))) RT.f rfl))))))))))))))))

def sf__law_number (one : D) : R Bool :=
  R.ok ((isTy one .int) && (!(isTy one .bool)))
theorem S__law_number (k : Nat) (one : D) : FnR (F (k + 1) 23) [one] (sf__law_number one) eB false :=
  FnR.def_ (np := 1) (n := 1) (b := b__law_number) (k := k + 0) rfl rfl (show KN (F (k + 0)) FU (QF eB false) [some (one, false)] (sf__law_number one) [b__law_number] from (KN.ret (fun _ h => nomatch h) (EO.of (EC.andP (EC.isi1 (g := fun w => isTy w .int) (fun _ => rfl) (EC.varF (ea := eD) (v := one) rfl)) (EC.not (ET.bo (EC.isi1 (g := fun w => isTy w .bool) (fun _ => rfl) (EC.varF (ea := eD) (v := one) rfl)))))) RT.f rfl))

def lp__law_is_band_0 (room : Int) (pair : D)  : R (LO Unit Bool) :=
  (if (!(List.any [.list, .tuple] (isTy pair))) then R.ok true else lenR pair >>= fun z6' => R.ok (!decide (z6' = 2))) >>= fun z7' => if z7' then R.ok (LO.rt false) else ixR pair 0 >>= fun z10' => sf__law_number z10' >>= fun z11' => (if (!z11') then R.ok true else ixR pair 1 >>= fun z8' => sf__law_number z8' >>= fun z9' => R.ok (!z9')) >>= fun z12' => if z12' then R.ok (LO.rt false) else ixR pair 0 >>= fun z20' => orBad (unI z20') >>= fun z21' => (if (decide (z21' < 0)) then R.ok true else ixR pair 0 >>= fun z15' => orBad (unI z15') >>= fun z17' => ixR pair 1 >>= fun z16' => orBad (unI z16') >>= fun z18' => (if (decide (z18' < z17')) then R.ok true else ixR pair 1 >>= fun z13' => orBad (unI z13') >>= fun z14' => R.ok (decide (room < z14'))) >>= fun z19' => R.ok z19') >>= fun z22' => if z22' then R.ok (LO.rt false) else R.ok (LO.nx ())
def lp__law_is_band_3 (draws : List Int) (gate : Int) (k_ : Int) (then_ : D) (level : D) (flow : Int)  : R (LO Unit Bool) :=
  orBad (unI level) >>= fun z54' => atR draws k_ >>= fun z55' => R.ok ((z54' + flow) - z55') >>= fun rest => ixR then_ 0 >>= fun z58' => orBad (unI z58') >>= fun z59' => (if (decide (rest < z59')) then R.ok true else ixR then_ 1 >>= fun z56' => orBad (unI z56') >>= fun z57' => R.ok (decide (z57' < (rest - gate)))) >>= fun z60' => if z60' then R.ok (LO.rt false) else R.ok (LO.nx ())
def lp__law_is_band_2 (low : List Int) (high : List Int) (draws : List Int) (gate : Int) (k_ : Int) (then_ : D) (level : D)  : R (LO Unit Bool) :=
  atR low k_ >>= fun z50' => atR high k_ >>= fun z51' => forO (fun flow z53' => lp__law_is_band_3 draws gate k_ then_ level flow ) ([z50', z51'] : List Int) () >>= fun z68' => LO.k z68' (fun z53' => R.ok (LO.nx ())) (fun v => R.ok (LO.rt v))
def lp__law_is_band_1 (low : List Int) (high : List Int) (draws : List Int) (gate : Int) (table : D) (k_ : Int)  : R (LO Unit Bool) :=
  fmodR (k_ + 1) (low.length : Int) >>= fun z44' => ixR table z44' >>= fun then_ => ixR table k_ >>= fun z46' => items z46' >>= fun z47' => forO (fun level z49' => lp__law_is_band_2 low high draws gate k_ then_ level ) z47' () >>= fun z88' => LO.k z88' (fun z49' => R.ok (LO.nx ())) (fun v => R.ok (LO.rt v))
def sf__law_is_band (room : Int) (low : List Int) (high : List Int) (draws : List Int) (gate : Int) (table : D) : R Bool :=
  (if (!(List.any [.list, .tuple] (isTy table))) then R.ok true else lenR table >>= fun z1' => R.ok (!decide (z1' = (low.length : Int)))) >>= fun z2' => if z2' then R.ok false else items table >>= fun z3' => forO (fun pair z5' => lp__law_is_band_0 room pair ) z3' () >>= fun z40' => LO.k z40' (fun z5' => rngR (low.length : Int) >>= fun z41' => forO (fun k_ z43' => lp__law_is_band_1 low high draws gate table k_ ) z41' () >>= fun z134' => LO.k z134' (fun z43' => R.ok true) R.ok) R.ok
theorem S__law_is_band (k : Nat) (room : Int) (low : List Int) (high : List Int) (draws : List Int) (gate : Int) (table : D) : FnR (F (k + 2) 28) [eI room, (eL eI) low, (eL eI) high, (eL eI) draws, eI gate, table] (sf__law_is_band room low high draws gate table) eB false :=
  FnR.def_ (np := 6) (n := 12) (b := b__law_is_band) (k := k + 1) rfl rfl (show KN (F (k + 1)) FU (QF eB false) [some (eI room, false), some ((eL eI) low, false), some ((eL eI) high, false), some ((eL eI) draws, false), some (eI gate, false), some (table, false), none, none, none, none, none, none] (sf__law_is_band room low high draws gate table) [b__law_is_band] from (KN.seq (KN.ite (ET.or (ET.not (ET.bo (EC.isi (g := fun w => List.any [.list, .tuple] (isTy w)) (fun _ => rfl) (EC.varF (ea := eD) (v := table) rfl)))) (ET.bo (EC.ne Pl.I (EC.bf1R (eb := eI) (g := lenR) lenR_ok (EC.varF (ea := eD) (v := table) rfl)) (EC.lenL (EC.varF (ea := (eL eI)) (v := low) rfl))))) rfl (KN.ret (fun _ h => nomatch h) (EO.of (EC.con (ea := eB) (v := false) rfl)) RT.f rfl) (KN.skip (KN.seq (KN.forOV (ec := eB) (own := false) (Lf := fun (z5' : Unit) => [some (eI room, false), some ((eL eI) low, false), some ((eL eI) high, false), some ((eL eI) draws, false), some (eI gate, false), none, none, none, none, none, none, none]) (x0 := ()) (i := 5) (L' := fun (z5' : Unit) => [some (eI room, false), some ((eL eI) low, false), some ((eL eI) high, false), some ((eL eI) draws, false), some (eI gate, false), some (table, false), none, none, none, none, none, none]) rfl rfl rfl (IT.dy (EC.varF (ea := eD) (v := table) rfl)) (Le.keep (Le.keep (Le.keep (Le.keep (Le.keep (Le.drop (Le.drop (Le.drop (Le.drop (Le.drop (Le.drop (Le.drop Le.nil)))))))))))) (fun _ => TB.name) RT.f rfl (fun _ => rfl) (fun z5' pair => (KN.seq (KN.ite (ET.or (ET.not (ET.bo (EC.isi (g := fun w => List.any [.list, .tuple] (isTy w)) (fun _ => rfl) (EC.varF (ea := eD) (v := pair) rfl)))) (ET.bo (EC.ne Pl.I (EC.bf1R (eb := eI) (g := lenR) lenR_ok (EC.varF (ea := eD) (v := pair) rfl)) (EC.con (ea := eI) (v := 2) rfl)))) rfl (KN.ret (fun _ h => nomatch h) (EO.of (EC.con (ea := eB) (v := false) rfl)) RT.lo rfl) (KN.skip (KN.seq (KN.ite (ET.or (ET.not (ET.bo (EC.call (eb := eB) (EA.cons (EC.ixD (EC.varF (ea := eD) (v := pair) rfl) (EC.con (ea := eI) (v := 0) rfl)) EA.nil) fun v => S__law_number (k + 0) v.1))) (ET.not (ET.bo (EC.call (eb := eB) (EA.cons (EC.ixD (EC.varF (ea := eD) (v := pair) rfl) (EC.con (ea := eI) (v := 1) rfl)) EA.nil) fun v => S__law_number (k + 0) v.1)))) rfl (KN.ret (fun _ h => nomatch h) (EO.of (EC.con (ea := eB) (v := false) rfl)) RT.lo rfl) (KN.skip (KN.ite (ET.or (ET.bo (EC.lt (EC.un (ea := eD) (eb := eI) (un := unI) (EC.ixD (EC.varF (ea := eD) (v := pair) rfl) (EC.con (ea := eI) (v := 0) rfl)) unI_ok) (EC.con (ea := eI) (v := 0) rfl))) (ET.or (ET.bo (EC.gt (EC.un (ea := eD) (eb := eI) (un := unI) (EC.ixD (EC.varF (ea := eD) (v := pair) rfl) (EC.con (ea := eI) (v := 0) rfl)) unI_ok) (EC.un (ea := eD) (eb := eI) (un := unI) (EC.ixD (EC.varF (ea := eD) (v := pair) rfl) (EC.con (ea := eI) (v := 1) rfl)) unI_ok))) (ET.bo (EC.gt (EC.un (ea := eD) (eb := eI) (un := unI) (EC.ixD (EC.varF (ea := eD) (v := pair) rfl) (EC.con (ea := eI) (v := 1) rfl)) unI_ok) (EC.varF (ea := eI) (v := room) rfl))))) rfl (KN.ret (fun _ h => nomatch h) (EO.of (EC.con (ea := eB) (v := false) rfl)) RT.lo rfl) (KN.skip (KN.endLO (x := ()) (Le.keep (Le.keep (Le.keep (Le.keep (Le.keep (Le.drop (Le.drop (Le.drop (Le.drop (Le.drop (Le.drop (Le.drop Le.nil)))))))))))))))))))))) fun z5' => (KN.seq (KN.forO (ec := eB) (own := false) (Lf := fun (z43' : Unit) => [some (eI room, false), some ((eL eI) low, false), some ((eL eI) high, false), some ((eL eI) draws, false), some (eI gate, false), some (table, false), none, none, none, none, none, none]) (x0 := ()) (fun _ => rfl) (IT.l (EC.rng1 (EC.lenL (EC.varF (ea := (eL eI)) (v := low) rfl)))) (Le.keep (Le.keep (Le.keep (Le.keep (Le.keep (Le.keep (Le.drop (Le.drop (Le.drop (Le.drop (Le.drop (Le.drop Le.nil)))))))))))) (fun _ => TB.name) RT.f rfl (fun z43' k_ => (KN.seq (KN.asgE (L' := fun (then_ : D) => [some (eI room, false), some ((eL eI) low, false), some ((eL eI) high, false), some ((eL eI) draws, false), some (eI gate, false), some (table, false), none, some (eI k_, false), some (then_, false), none, none, none]) (EO.of (EC.ixD (EC.varF (ea := eD) (v := table) rfl) (EC.mod (EC.bf1 (eb := eI) (g := fun x => x) (fun _ => rfl) (EC.add (EC.varF (ea := eI) (v := k_) rfl) (EC.con (ea := eI) (v := 1) rfl))) (EC.lenL (EC.varF (ea := (eL eI)) (v := low) rfl))))) rfl (fun _ => rfl) fun then_ => (KN.forO (ec := eB) (own := false) (Lf := fun (z94' : Unit) => [some (eI room, false), some ((eL eI) low, false), some ((eL eI) high, false), some ((eL eI) draws, false), some (eI gate, false), some (table, false), none, some (eI k_, false), some (then_, false), none, none, none]) (x0 := ()) (fun _ => rfl) (IT.dy (EC.ixD (EC.varF (ea := eD) (v := table) rfl) (EC.varF (ea := eI) (v := k_) rfl))) (Le.keep (Le.keep (Le.keep (Le.keep (Le.keep (Le.keep (Le.drop (Le.keep (Le.keep (Le.drop (Le.drop (Le.drop Le.nil)))))))))))) (fun _ => TB.name) RT.lo rfl (fun z94' level => (KN.forO (ec := eB) (own := false) (Lf := fun (z117' : Unit) => [some (eI room, false), some ((eL eI) low, false), some ((eL eI) high, false), some ((eL eI) draws, false), some (eI gate, false), some (table, false), none, some (eI k_, false), some (then_, false), some (level, false), none, none]) (x0 := ()) (fun _ => rfl) (IT.l (EC.lst (eb := eI) (EA.cons (EC.ixL (EC.varF (ea := (eL eI)) (v := low) rfl) (EC.varF (ea := eI) (v := k_) rfl)) (EA.cons (EC.ixL (EC.varF (ea := (eL eI)) (v := high) rfl) (EC.varF (ea := eI) (v := k_) rfl)) EA.nil)) (fun w => [w.1, w.2.1]) (fun _ => rfl) (fun _ => Nat.le_of_ble_eq_true rfl))) (Le.keep (Le.keep (Le.keep (Le.keep (Le.keep (Le.keep (Le.drop (Le.keep (Le.keep (Le.keep (Le.drop (Le.drop Le.nil)))))))))))) (fun _ => TB.name) RT.lo rfl (fun z117' flow => (KN.seq (KN.asgP (L' := fun (rest : Int) => [some (eI room, false), some ((eL eI) low, false), some ((eL eI) high, false), some ((eL eI) draws, false), some (eI gate, false), some (table, false), none, some (eI k_, false), some (then_, false), some (level, false), some (eI flow, false), some (eI rest, false)]) (EO.of (EC.sub (EC.add (EC.un (ea := eD) (eb := eI) (un := unI) (EC.varF (ea := eD) (v := level) rfl) unI_ok) (EC.varF (ea := eI) (v := flow) rfl)) (EC.ixL (EC.varF (ea := (eL eI)) (v := draws) rfl) (EC.varF (ea := eI) (v := k_) rfl)))) rfl (fun _ => rfl) fun rest => (KN.ite (ET.or (ET.bo (EC.lt (EC.varF (ea := eI) (v := rest) rfl) (EC.un (ea := eD) (eb := eI) (un := unI) (EC.ixD (EC.varF (ea := eD) (v := then_) rfl) (EC.con (ea := eI) (v := 0) rfl)) unI_ok))) (ET.bo (EC.gt (EC.sub (EC.varF (ea := eI) (v := rest) rfl) (EC.varF (ea := eI) (v := gate) rfl)) (EC.un (ea := eD) (eb := eI) (un := unI) (EC.ixD (EC.varF (ea := eD) (v := then_) rfl) (EC.con (ea := eI) (v := 1) rfl)) unI_ok)))) rfl (KN.ret (fun _ h => nomatch h) (EO.of (EC.con (ea := eB) (v := false) rfl)) RT.lo rfl) (KN.skip (KN.endLO (x := ()) (Le.keep (Le.keep (Le.keep (Le.keep (Le.keep (Le.keep (Le.drop (Le.keep (Le.keep (Le.keep (Le.drop (Le.drop Le.nil)))))))))))))))))) fun z117' => (KN.endLO (x := ()) (Le.keep (Le.keep (Le.keep (Le.keep (Le.keep (Le.keep (Le.drop (Le.keep (Le.keep (Le.drop (Le.drop (Le.drop Le.nil))))))))))))))) fun z94' => (KN.endLO (x := ()) (Le.keep (Le.keep (Le.keep (Le.keep (Le.keep (Le.keep (Le.drop (Le.drop (Le.drop (Le.drop (Le.drop (Le.drop Le.nil))))))))))))))))) fun z43' => (KN.ret (fun _ h => nomatch h) (EO.of (EC.con (ea := eB) (v := true) rfl)) RT.f rfl)))))))))

def lp__law_dries_0 (low : List Int) (draws : List Int) (start_ : Int) (turn : Int) (level : Int) : R (LO Int Bool) :=
  fmodR (start_ + turn) (low.length : Int) >>= fun at_ => atR low at_ >>= fun z4' => atR draws at_ >>= fun z5' => R.ok ((level + z4') - z5') >>= fun level => if (decide (level < 0)) then R.ok (LO.rt true) else R.ok (LO.nx level)
def sf__law_dries (low : List Int) (draws : List Int) (start_ : Int) (level : Int) : R Bool :=
  rngR (low.length : Int) >>= fun z1' => forO (fun turn level => lp__law_dries_0 low draws start_ turn level) z1' level >>= fun z9' => LO.k z9' (fun level => R.ok false) R.ok
theorem S__law_dries (k : Nat) (low : List Int) (draws : List Int) (start_ : Int) (level : Int) : FnR (F (k + 1) 30) [(eL eI) low, (eL eI) draws, eI start_, eI level] (sf__law_dries low draws start_ level) eB false :=
  FnR.def_ (np := 4) (n := 6) (b := b__law_dries) (k := k + 0) rfl rfl (show KN (F (k + 0)) FU (QF eB false) [some ((eL eI) low, false), some ((eL eI) draws, false), some (eI start_, false), some (eI level, false), none, none] (sf__law_dries low draws start_ level) [b__law_dries] from (KN.seq (KN.forO (ec := eB) (own := false) (Lf := fun (level : Int) => [some ((eL eI) low, false), some ((eL eI) draws, false), some (eI start_, false), some (eI level, false), none, none]) (x0 := level) (fun _ => rfl) (IT.l (EC.rng1 (EC.lenL (EC.varF (ea := (eL eI)) (v := low) rfl)))) (Le.keep (Le.keep (Le.keep (Le.keep (Le.drop (Le.drop Le.nil)))))) (fun _ => TB.name) RT.f rfl (fun level turn => (KN.seq (KN.asgE (L' := fun (at_ : Int) => [some ((eL eI) low, false), some ((eL eI) draws, false), some (eI start_, false), some (eI level, false), some (eI turn, false), some (eI at_, false)]) (EO.of (EC.mod (EC.bf1 (eb := eI) (g := fun x => x) (fun _ => rfl) (EC.add (EC.varF (ea := eI) (v := start_) rfl) (EC.varF (ea := eI) (v := turn) rfl))) (EC.lenL (EC.varF (ea := (eL eI)) (v := low) rfl)))) rfl (fun _ => rfl) fun at_ => (KN.seq (KN.asgP (L' := fun (level : Int) => [some ((eL eI) low, false), some ((eL eI) draws, false), some (eI start_, false), some (eI level, false), some (eI turn, false), some (eI at_, false)]) (EO.of (EC.sub (EC.add (EC.varF (ea := eI) (v := level) rfl) (EC.ixL (EC.varF (ea := (eL eI)) (v := low) rfl) (EC.varF (ea := eI) (v := at_) rfl))) (EC.ixL (EC.varF (ea := (eL eI)) (v := draws) rfl) (EC.varF (ea := eI) (v := at_) rfl)))) rfl (fun _ => rfl) fun level => (KN.ite (ET.bo (EC.lt (EC.varF (ea := eI) (v := level) rfl) (EC.con (ea := eI) (v := 0) rfl))) rfl (KN.ret (fun _ h => nomatch h) (EO.of (EC.con (ea := eB) (v := true) rfl)) RT.lo rfl) (KN.skip (KN.endLO (x := level) (Le.keep (Le.keep (Le.keep (Le.keep (Le.drop (Le.drop Le.nil)))))))))))))) fun level => (KN.ret (fun _ h => nomatch h) (EO.of (EC.con (ea := eB) (v := false) rfl)) RT.f rfl))))

def lp__law_floods_0 (room : Int) (high : List Int) (draws : List Int) (gate : Int) (start_ : Int) (turn : Int) (level : Int) : R (LO Int Bool) :=
  fmodR (start_ + turn) (high.length : Int) >>= fun at_ => atR high at_ >>= fun z4' => atR draws at_ >>= fun z5' => R.ok (((level + z4') - z5') - gate) >>= fun level => if (decide (room < level)) then R.ok (LO.rt true) else R.ok (LO.nx level)
def sf__law_floods (room : Int) (high : List Int) (draws : List Int) (gate : Int) (start_ : Int) (level : Int) : R Bool :=
  rngR (high.length : Int) >>= fun z1' => forO (fun turn level => lp__law_floods_0 room high draws gate start_ turn level) z1' level >>= fun z9' => LO.k z9' (fun level => R.ok false) R.ok
theorem S__law_floods (k : Nat) (room : Int) (high : List Int) (draws : List Int) (gate : Int) (start_ : Int) (level : Int) : FnR (F (k + 1) 31) [eI room, (eL eI) high, (eL eI) draws, eI gate, eI start_, eI level] (sf__law_floods room high draws gate start_ level) eB false :=
  FnR.def_ (np := 6) (n := 8) (b := b__law_floods) (k := k + 0) rfl rfl (show KN (F (k + 0)) FU (QF eB false) [some (eI room, false), some ((eL eI) high, false), some ((eL eI) draws, false), some (eI gate, false), some (eI start_, false), some (eI level, false), none, none] (sf__law_floods room high draws gate start_ level) [b__law_floods] from (KN.seq (KN.forO (ec := eB) (own := false) (Lf := fun (level : Int) => [some (eI room, false), some ((eL eI) high, false), some ((eL eI) draws, false), some (eI gate, false), some (eI start_, false), some (eI level, false), none, none]) (x0 := level) (fun _ => rfl) (IT.l (EC.rng1 (EC.lenL (EC.varF (ea := (eL eI)) (v := high) rfl)))) (Le.keep (Le.keep (Le.keep (Le.keep (Le.keep (Le.keep (Le.drop (Le.drop Le.nil)))))))) (fun _ => TB.name) RT.f rfl (fun level turn => (KN.seq (KN.asgE (L' := fun (at_ : Int) => [some (eI room, false), some ((eL eI) high, false), some ((eL eI) draws, false), some (eI gate, false), some (eI start_, false), some (eI level, false), some (eI turn, false), some (eI at_, false)]) (EO.of (EC.mod (EC.bf1 (eb := eI) (g := fun x => x) (fun _ => rfl) (EC.add (EC.varF (ea := eI) (v := start_) rfl) (EC.varF (ea := eI) (v := turn) rfl))) (EC.lenL (EC.varF (ea := (eL eI)) (v := high) rfl)))) rfl (fun _ => rfl) fun at_ => (KN.seq (KN.asgP (L' := fun (level : Int) => [some (eI room, false), some ((eL eI) high, false), some ((eL eI) draws, false), some (eI gate, false), some (eI start_, false), some (eI level, false), some (eI turn, false), some (eI at_, false)]) (EO.of (EC.sub (EC.sub (EC.add (EC.varF (ea := eI) (v := level) rfl) (EC.ixL (EC.varF (ea := (eL eI)) (v := high) rfl) (EC.varF (ea := eI) (v := at_) rfl))) (EC.ixL (EC.varF (ea := (eL eI)) (v := draws) rfl) (EC.varF (ea := eI) (v := at_) rfl))) (EC.varF (ea := eI) (v := gate) rfl))) rfl (fun _ => rfl) fun level => (KN.ite (ET.bo (EC.gt (EC.varF (ea := eI) (v := level) rfl) (EC.varF (ea := eI) (v := room) rfl))) rfl (KN.ret (fun _ h => nomatch h) (EO.of (EC.con (ea := eB) (v := true) rfl)) RT.lo rfl) (KN.skip (KN.endLO (x := level) (Le.keep (Le.keep (Le.keep (Le.keep (Le.keep (Le.keep (Le.drop (Le.drop Le.nil)))))))))))))))) fun level => (KN.ret (fun _ h => nomatch h) (EO.of (EC.con (ea := eB) (v := false) rfl)) RT.f rfl))))

def lp__law_widest_0 (room : Int) (low : List Int) (high : List Int) (draws : List Int) (gate : Int) (table : Option (List (Int × Int))) (k_ : Int)  : R (LO Unit Bool) :=
  orBad table >>= fun z6' => atR z6' k_ >>= fun z7' => if (!true) then R.ok (LO.rt false) else orBad table >>= fun z11' => atR z11' k_ >>= fun z12' => (if (decide (0 < z12'.1)) then orBad table >>= fun z8' => atR z8' k_ >>= fun z9' => sf__law_dries low draws k_ (z9'.1 - 1) >>= fun z10' => R.ok (!z10') else R.ok false) >>= fun z13' => if z13' then R.ok (LO.rt false) else orBad table >>= fun z17' => atR z17' k_ >>= fun z18' => (if (decide (z18'.2 < room)) then orBad table >>= fun z14' => atR z14' k_ >>= fun z15' => sf__law_floods room high draws gate k_ (z15'.2 + 1) >>= fun z16' => R.ok (!z16') else R.ok false) >>= fun z19' => if z19' then R.ok (LO.rt false) else R.ok (LO.nx ())
def sf__law_widest (room : Int) (low : List Int) (high : List Int) (draws : List Int) (gate : Int) (table : Option (List (Int × Int))) : R Bool :=
  (if (!(isTy ((eO (eL (eP2 eI eI))) table) .list)) then R.ok true else sf__law_is_band room low high draws gate ((eO (eL (eP2 eI eI))) table) >>= fun z1' => R.ok (!z1')) >>= fun z2' => if z2' then R.ok false else rngR (low.length : Int) >>= fun z3' => forO (fun k_ z5' => lp__law_widest_0 room low high draws gate table k_ ) z3' () >>= fun z34' => LO.k z34' (fun z5' => R.ok true) R.ok
theorem S__law_widest (k : Nat) (room : Int) (low : List Int) (high : List Int) (draws : List Int) (gate : Int) (table : Option (List (Int × Int))) : FnR (F (k + 3) 32) [eI room, (eL eI) low, (eL eI) high, (eL eI) draws, eI gate, (eO (eL (eP2 eI eI))) table] (sf__law_widest room low high draws gate table) eB false :=
  FnR.def_ (np := 6) (n := 7) (b := b__law_widest) (k := k + 2) rfl rfl (show KN (F (k + 2)) FU (QF eB false) [some (eI room, false), some ((eL eI) low, false), some ((eL eI) high, false), some ((eL eI) draws, false), some (eI gate, false), some ((eO (eL (eP2 eI eI))) table, false), none] (sf__law_widest room low high draws gate table) [b__law_widest] from (KN.seq (KN.ite (ET.or (ET.not (ET.bo (EC.isi1 (g := fun w => isTy ((eO (eL (eP2 eI eI))) w) .list) (fun _ => rfl) (EC.varF (ea := (eO (eL (eP2 eI eI)))) (v := table) rfl)))) (ET.not (ET.bo (EC.call (eb := eB) (EA.cons (EC.varF (ea := eI) (v := room) rfl) (EA.cons (EC.varF (ea := (eL eI)) (v := low) rfl) (EA.cons (EC.varF (ea := (eL eI)) (v := high) rfl) (EA.cons (EC.varF (ea := (eL eI)) (v := draws) rfl) (EA.cons (EC.varF (ea := eI) (v := gate) rfl) (EA.cons (EC.dyn (EC.varF (ea := (eO (eL (eP2 eI eI)))) (v := table) rfl)) EA.nil)))))) fun v => S__law_is_band (k + 0) v.1 v.2.1 v.2.2.1 v.2.2.2.1 v.2.2.2.2.1 v.2.2.2.2.2.1)))) rfl (KN.ret (fun _ h => nomatch h) (EO.of (EC.con (ea := eB) (v := false) rfl)) RT.f rfl) (KN.skip (KN.seq (KN.forO (ec := eB) (own := false) (Lf := fun (z5' : Unit) => [some (eI room, false), some ((eL eI) low, false), some ((eL eI) high, false), some ((eL eI) draws, false), some (eI gate, false), some ((eO (eL (eP2 eI eI))) table, false), none]) (x0 := ()) (fun _ => rfl) (IT.l (EC.rng1 (EC.lenL (EC.varF (ea := (eL eI)) (v := low) rfl)))) (Le.keep (Le.keep (Le.keep (Le.keep (Le.keep (Le.keep (Le.drop Le.nil))))))) (fun _ => TB.name) RT.f rfl (fun z5' k_ => (KN.seq (KN.ite (ET.not (ET.bo (EC.isi1 (g := fun w => true) (fun _ => rfl) (EC.ixL (EC.get (EC.varF (ea := (eO (eL (eP2 eI eI)))) (v := table) rfl)) (EC.varF (ea := eI) (v := k_) rfl))))) rfl (KN.ret (fun _ h => nomatch h) (EO.of (EC.con (ea := eB) (v := false) rfl)) RT.lo rfl) (KN.skip (KN.seq (KN.ite (ET.and (ET.bo (EC.gt (EC.prj (eb := eI) (g := fun w => w.1) (fun _ => rfl) (EC.ixL (EC.get (EC.varF (ea := (eO (eL (eP2 eI eI)))) (v := table) rfl)) (EC.varF (ea := eI) (v := k_) rfl))) (EC.con (ea := eI) (v := 0) rfl))) (ET.not (ET.bo (EC.call (eb := eB) (EA.cons (EC.varF (ea := (eL eI)) (v := low) rfl) (EA.cons (EC.varF (ea := (eL eI)) (v := draws) rfl) (EA.cons (EC.varF (ea := eI) (v := k_) rfl) (EA.cons (EC.sub (EC.prj (eb := eI) (g := fun w => w.1) (fun _ => rfl) (EC.ixL (EC.get (EC.varF (ea := (eO (eL (eP2 eI eI)))) (v := table) rfl)) (EC.varF (ea := eI) (v := k_) rfl))) (EC.con (ea := eI) (v := 1) rfl)) EA.nil)))) fun v => S__law_dries (k + 1) v.1 v.2.1 v.2.2.1 v.2.2.2.1)))) rfl (KN.ret (fun _ h => nomatch h) (EO.of (EC.con (ea := eB) (v := false) rfl)) RT.lo rfl) (KN.skip (KN.ite (ET.and (ET.bo (EC.lt (EC.prj (eb := eI) (g := fun w => w.2) (fun _ => rfl) (EC.ixL (EC.get (EC.varF (ea := (eO (eL (eP2 eI eI)))) (v := table) rfl)) (EC.varF (ea := eI) (v := k_) rfl))) (EC.varF (ea := eI) (v := room) rfl))) (ET.not (ET.bo (EC.call (eb := eB) (EA.cons (EC.varF (ea := eI) (v := room) rfl) (EA.cons (EC.varF (ea := (eL eI)) (v := high) rfl) (EA.cons (EC.varF (ea := (eL eI)) (v := draws) rfl) (EA.cons (EC.varF (ea := eI) (v := gate) rfl) (EA.cons (EC.varF (ea := eI) (v := k_) rfl) (EA.cons (EC.add (EC.prj (eb := eI) (g := fun w => w.2) (fun _ => rfl) (EC.ixL (EC.get (EC.varF (ea := (eO (eL (eP2 eI eI)))) (v := table) rfl)) (EC.varF (ea := eI) (v := k_) rfl))) (EC.con (ea := eI) (v := 1) rfl)) EA.nil)))))) fun v => S__law_floods (k + 1) v.1 v.2.1 v.2.2.1 v.2.2.2.1 v.2.2.2.2.1 v.2.2.2.2.2.1)))) rfl (KN.ret (fun _ h => nomatch h) (EO.of (EC.con (ea := eB) (v := false) rfl)) RT.lo rfl) (KN.skip (KN.endLO (x := ()) (Le.keep (Le.keep (Le.keep (Le.keep (Le.keep (Le.keep (Le.drop Le.nil))))))))))))))))) fun z5' => (KN.ret (fun _ h => nomatch h) (EO.of (EC.con (ea := eB) (v := true) rfl)) RT.f rfl)))))))

def sf__law_flow (cell : Int) (least : Int) (greatest : Int) : R Int :=
  fmodR (Int.fdiv cell 3) ((greatest - least) + 1) >>= fun z1' => atR ([least, greatest, (least + z1')] : List Int) (Int.fmod cell 3) >>= fun z2' => R.ok z2'
theorem S__law_flow (k : Nat) (cell : Int) (least : Int) (greatest : Int) : FnR (F (k + 1) 37) [eI cell, eI least, eI greatest] (sf__law_flow cell least greatest) eI false :=
  FnR.def_ (np := 3) (n := 3) (b := b__law_flow) (k := k + 0) rfl rfl (show KN (F (k + 0)) FU (QF eI false) [some (eI cell, false), some (eI least, false), some (eI greatest, false)] (sf__law_flow cell least greatest) [b__law_flow] from (KN.ret (fun _ h => nomatch h) (EO.of (EC.ixL (EC.lst (eb := eI) (EA.cons (EC.varF (ea := eI) (v := least) rfl) (EA.cons (EC.varF (ea := eI) (v := greatest) rfl) (EA.cons (EC.add (EC.varF (ea := eI) (v := least) rfl) (EC.mod (EC.bf1 (eb := eI) (g := fun x => x) (fun _ => rfl) (EC.fdivc ⟨by decide, by decide⟩ (EC.varF (ea := eI) (v := cell) rfl))) (EC.add (EC.sub (EC.varF (ea := eI) (v := greatest) rfl) (EC.varF (ea := eI) (v := least) rfl)) (EC.con (ea := eI) (v := 1) rfl)))) EA.nil))) (fun w => [w.1, w.2.1, w.2.2.1]) (fun _ => rfl) (fun _ => Nat.le_of_ble_eq_true rfl)) (EC.modc (by decide) (EC.bf1 (eb := eI) (g := fun x => x) (fun _ => rfl) (EC.varF (ea := eI) (v := cell) rfl))))) RT.f rfl))

def lp__law_release_0 (pair : Int × Int) (rest : Int) (release : Int)  : R (LO Unit Int) :=
  if ((decide (pair.1 ≤ (rest - release))) && (decide ((rest - release) ≤ pair.2))) then R.ok (LO.rt release) else R.ok (LO.nx ())
def sf__law_release (gate : Int) (pair : Int × Int) (rest : Int) : R Int :=
  rngR (gate + 1) >>= fun z1' => forO (fun release z3' => lp__law_release_0 pair rest release ) z1' () >>= fun z4' => LO.k z4' (fun z3' => R.ok (-1)) R.ok
theorem S__law_release (k : Nat) (gate : Int) (pair : Int × Int) (rest : Int) : FnR (F (k + 1) 36) [eI gate, (eP2 eI eI) pair, eI rest] (sf__law_release gate pair rest) eI false :=
  FnR.def_ (np := 3) (n := 4) (b := b__law_release) (k := k + 0) rfl rfl (show KN (F (k + 0)) FU (QF eI false) [some (eI gate, false), some ((eP2 eI eI) pair, false), some (eI rest, false), none] (sf__law_release gate pair rest) [b__law_release] from (KN.seq (KN.forO (ec := eI) (own := false) (Lf := fun (z3' : Unit) => [some (eI gate, false), some ((eP2 eI eI) pair, false), some (eI rest, false), none]) (x0 := ()) (fun _ => rfl) (IT.l (EC.rng1 (EC.add (EC.varF (ea := eI) (v := gate) rfl) (EC.con (ea := eI) (v := 1) rfl)))) (Le.keep (Le.keep (Le.keep (Le.drop Le.nil)))) (fun _ => TB.name) RT.f rfl (fun z3' release => (KN.ite (ET.andP (ET.bo (EC.le (EC.prj (eb := eI) (g := fun w => w.1) (fun _ => rfl) (EC.varF (ea := (eP2 eI eI)) (v := pair) rfl)) (EC.sub (EC.varF (ea := eI) (v := rest) rfl) (EC.varF (ea := eI) (v := release) rfl)))) (ET.bo (EC.le (EC.sub (EC.varF (ea := eI) (v := rest) rfl) (EC.varF (ea := eI) (v := release) rfl)) (EC.prj (eb := eI) (g := fun w => w.2) (fun _ => rfl) (EC.varF (ea := (eP2 eI eI)) (v := pair) rfl))))) rfl (KN.retv (ea := eI) (v := release) (own := false) rfl RT.lo rfl) (KN.skip (KN.endLO (x := ()) (Le.keep (Le.keep (Le.keep (Le.drop Le.nil)))))))) fun z3' => (KN.ret (fun _ h => nomatch h) (EO.of (EC.neg (EC.con (ea := eI) (v := 1) rfl))) RT.f rfl))))

def sf_check_moment (room : Int) (periods : Int) (period : D) (level : D) : R Unit :=
  sf_check_number (Str.ofString "period") period 0 (periods - 1) >>= fun _ => sf_check_number (Str.ofString "level") level 0 room >>= fun _ => R.ok ()
theorem S_check_moment (k : Nat) (room : Int) (periods : Int) (period : D) (level : D) : FnR (F (k + 4) 8) [eI room, eI periods, period, level] (sf_check_moment room periods period level) eN false :=
  FnR.def_ (np := 4) (n := 4) (b := b_check_moment) (k := k + 3) rfl rfl (show KN (F (k + 3)) FU (QF eN false) [some (eI room, false), some (eI periods, false), some (period, false), some (level, false)] (sf_check_moment room periods period level) [b_check_moment] from (KN.seq (KN.exp (EC.call (eb := eD) (EA.cons (EC.con (ea := eS) (v := (Str.ofString "period")) rfl) (EA.cons (EC.varF (ea := eD) (v := period) rfl) (EA.cons (EC.con (ea := eI) (v := 0) rfl) (EA.cons (EC.sub (EC.varF (ea := eI) (v := periods) rfl) (EC.con (ea := eI) (v := 1) rfl)) EA.nil)))) fun v => S_check_number (k + 0) v.1 v.2.1 v.2.2.1 v.2.2.2.1) rfl (KN.exp (EC.call (eb := eD) (EA.cons (EC.con (ea := eS) (v := (Str.ofString "level")) rfl) (EA.cons (EC.varF (ea := eD) (v := level) rfl) (EA.cons (EC.con (ea := eI) (v := 0) rfl) (EA.cons (EC.varF (ea := eI) (v := room) rfl) EA.nil)))) fun v => S_check_number (k + 0) v.1 v.2.1 v.2.2.1 v.2.2.2.1) rfl (KN.endF rfl)))))

def sf_least_release (room : Int) (low : D) (high : D) (draws : D) (gate : Int) (period : Int) (level : Int) (inflow : Int) : R (Option Int) :=
  sf_check_band room low high draws gate >>= fun z2' => sf_check_moment room (z2'.1.length : Int) (D.int period) (D.int level) >>= fun _ => atR z2'.1 period >>= fun z4' => atR z2'.2.1 period >>= fun z5' => sf_check_number (Str.ofString "inflow") (D.int inflow) z4' z5' >>= fun _ => sf_band_of room z2'.1 z2'.2.1 z2'.2.2 gate >>= fun pairs => optK pairs (R.ok none) (fun pairs => fmodR (period + 1) (z2'.1.length : Int) >>= fun z8' => atR pairs z8' >>= fun z10' => atR z2'.2.2 period >>= fun z11' => R.ok ((level + inflow) - z11') >>= fun rest => R.ok (max 0 (rest - z10'.2)) >>= fun release => if ((decide (gate < release)) || (decide ((rest - release) < z10'.1))) then R.ok none else R.ok (some release))
theorem S_least_release (k : Nat) (room : Int) (low : D) (high : D) (draws : D) (gate : Int) (period : Int) (level : Int) (inflow : Int) : FnR (F (k + 6) 21) [eI room, low, high, draws, eI gate, eI period, eI level, eI inflow] (sf_least_release room low high draws gate period level inflow) (eO eI) false :=
  FnR.def_ (np := 8) (n := 16) (b := b_least_release) (k := k + 5) rfl rfl (show KN (F (k + 5)) FU (QF (eO eI) false) [some (eI room, false), some (low, false), some (high, false), some (draws, false), some (eI gate, false), some (eI period, false), some (eI level, false), some (eI inflow, false), none, none, none, none, none, none, none, none] (sf_least_release room low high draws gate period level inflow) [b_least_release] from (KN.seq (KN.unp (L' := fun (z2' : (List Int) × (List Int) × (List Int)) => [some (eI room, false), some (low, false), some (high, false), some (draws, false), some (eI gate, false), some (eI period, false), some (eI level, false), some (eI inflow, false), some ((eT eI) z2'.1, false), some ((eT eI) z2'.2.1, false), some ((eT eI) z2'.2.2, false), none, none, none, none, none]) (EC.call (eb := (eP3 (eT eI) (eT eI) (eT eI))) (EA.cons (EC.varF (ea := eI) (v := room) rfl) (EA.cons (EC.varF (ea := eD) (v := low) rfl) (EA.cons (EC.varF (ea := eD) (v := high) rfl) (EA.cons (EC.varF (ea := eD) (v := draws) rfl) (EA.cons (EC.varF (ea := eI) (v := gate) rfl) EA.nil))))) fun v => S_check_band (k + 0) v.1 v.2.1 v.2.2.1 v.2.2.2.1 v.2.2.2.2.1) TB.names3 rfl (fun _ => rfl) fun z2' => (KN.seq (KN.exp (EC.call (eb := eN) (EA.cons (EC.varF (ea := eI) (v := room) rfl) (EA.cons (EC.lenT (EC.varF (ea := (eT eI)) (v := z2'.1) rfl)) (EA.cons (EC.dyn (EC.varF (ea := eI) (v := period) rfl)) (EA.cons (EC.dyn (EC.varF (ea := eI) (v := level) rfl)) EA.nil)))) fun v => S_check_moment (k + 1) v.1 v.2.1 v.2.2.1 v.2.2.2.1) rfl (KN.seq (KN.exp (EC.call (eb := eD) (EA.cons (EC.con (ea := eS) (v := (Str.ofString "inflow")) rfl) (EA.cons (EC.dyn (EC.varF (ea := eI) (v := inflow) rfl)) (EA.cons (EC.ixT (EC.varF (ea := (eT eI)) (v := z2'.1) rfl) (EC.varF (ea := eI) (v := period) rfl)) (EA.cons (EC.ixT (EC.varF (ea := (eT eI)) (v := z2'.2.1) rfl) (EC.varF (ea := eI) (v := period) rfl)) EA.nil)))) fun v => S_check_number (k + 2) v.1 v.2.1 v.2.2.1 v.2.2.2.1) rfl (KN.seq (KN.asgE (L' := fun (pairs : Option (List (Int × Int))) => [some (eI room, false), some (low, false), some (high, false), some (draws, false), some (eI gate, false), some (eI period, false), some (eI level, false), some (eI inflow, false), some ((eT eI) z2'.1, false), some ((eT eI) z2'.2.1, false), some ((eT eI) z2'.2.2, false), some ((eO (eL (eP2 eI eI))) pairs, true), none, none, none, none]) (EO.call (eb := (eO (eL (eP2 eI eI)))) (EA.cons (EC.varF (ea := eI) (v := room) rfl) (EA.cons (EC.varF (ea := (eT eI)) (v := z2'.1) rfl) (EA.cons (EC.varF (ea := (eT eI)) (v := z2'.2.1) rfl) (EA.cons (EC.varF (ea := (eT eI)) (v := z2'.2.2) rfl) (EA.cons (EC.varF (ea := eI) (v := gate) rfl) EA.nil))))) fun v => S_band_of (k + 2) v.1 v.2.1 v.2.2.1 v.2.2.2.1 v.2.2.2.2.1) rfl (fun _ => rfl) fun pairs => (KN.seq (KN.isN (LN := [some (eI room, false), some (low, false), some (high, false), some (draws, false), some (eI gate, false), some (eI period, false), some (eI level, false), some (eI inflow, false), some ((eT eI) z2'.1, false), some ((eT eI) z2'.2.1, false), some ((eT eI) z2'.2.2, false), some (eN (), true), none, none, none, none]) (LS := fun (pairs : List (Int × Int)) => [some (eI room, false), some (low, false), some (high, false), some (draws, false), some (eI gate, false), some (eI period, false), some (eI level, false), some (eI inflow, false), some ((eT eI) z2'.1, false), some ((eT eI) z2'.2.1, false), some ((eT eI) z2'.2.2, false), some ((eL (eP2 eI eI)) pairs, true), none, none, none, none]) (ec := (eL (eP2 eI eI))) (o := pairs) rfl (fun _ => rfl) rfl rfl (fun _ => rfl) (KN.ret (fun _ h => nomatch h) (EO.of (EC.as (eb := (eO eI)) (v := fun _ => none) (EC.con (ea := eN) (v := ()) rfl) fun _ => rfl)) RT.f rfl) fun pairs => (KN.skip (KN.seq (KN.unp (L' := fun (z10' : Int × Int) => [some (eI room, false), some (low, false), some (high, false), some (draws, false), some (eI gate, false), some (eI period, false), some (eI level, false), some (eI inflow, false), some ((eT eI) z2'.1, false), some ((eT eI) z2'.2.1, false), some ((eT eI) z2'.2.2, false), some ((eL (eP2 eI eI)) pairs, true), some (eI z10'.1, false), some (eI z10'.2, false), none, none]) (EC.ixL (EC.varT (ea := (eL (eP2 eI eI))) (v := pairs) rfl) (EC.mod (EC.add (EC.varF (ea := eI) (v := period) rfl) (EC.con (ea := eI) (v := 1) rfl)) (EC.lenT (EC.varF (ea := (eT eI)) (v := z2'.1) rfl)))) TB.names2 rfl (fun _ => rfl) fun z10' => (KN.seq (KN.asgP (L' := fun (rest : Int) => [some (eI room, false), some (low, false), some (high, false), some (draws, false), some (eI gate, false), some (eI period, false), some (eI level, false), some (eI inflow, false), some ((eT eI) z2'.1, false), some ((eT eI) z2'.2.1, false), some ((eT eI) z2'.2.2, false), some ((eL (eP2 eI eI)) pairs, true), some (eI z10'.1, false), some (eI z10'.2, false), some (eI rest, false), none]) (EO.of (EC.sub (EC.add (EC.varF (ea := eI) (v := level) rfl) (EC.varF (ea := eI) (v := inflow) rfl)) (EC.ixT (EC.varF (ea := (eT eI)) (v := z2'.2.2) rfl) (EC.varF (ea := eI) (v := period) rfl)))) rfl (fun _ => rfl) fun rest => (KN.seq (KN.asgP (L' := fun (release : Int) => [some (eI room, false), some (low, false), some (high, false), some (draws, false), some (eI gate, false), some (eI period, false), some (eI level, false), some (eI inflow, false), some ((eT eI) z2'.1, false), some ((eT eI) z2'.2.1, false), some ((eT eI) z2'.2.2, false), some ((eL (eP2 eI eI)) pairs, true), some (eI z10'.1, false), some (eI z10'.2, false), some (eI rest, false), some (eI release, false)]) (EO.of (EC.max2 (EC.con (ea := eI) (v := 0) rfl) (EC.sub (EC.varF (ea := eI) (v := rest) rfl) (EC.varF (ea := eI) (v := z10'.2) rfl)))) rfl (fun _ => rfl) fun release => (KN.seq (KN.ite (ET.orP (ET.bo (EC.gt (EC.varF (ea := eI) (v := release) rfl) (EC.varF (ea := eI) (v := gate) rfl))) (ET.bo (EC.lt (EC.sub (EC.varF (ea := eI) (v := rest) rfl) (EC.varF (ea := eI) (v := release) rfl)) (EC.varF (ea := eI) (v := z10'.1) rfl)))) rfl (KN.ret (fun _ h => nomatch h) (EO.of (EC.as (eb := (eO eI)) (v := fun _ => none) (EC.con (ea := eN) (v := ()) rfl) fun _ => rfl)) RT.f rfl) (KN.skip (KN.retv (ea := (eO eI)) (v := (some release)) (own := false) rfl RT.f rfl))))))))))))))))))))))

def lp__law_kept_0 (room : Int) (low : List Int) (high : List Int) (draws : List Int) (gate : Int) (table : Option (List (Int × Int))) (cells : List Int) (step_ : Int) (at_ : Int) (level : Int) : R (LO (Int × Int) Bool) :=
  atR cells (30 + step_) >>= fun z12' => atR low at_ >>= fun z13' => atR high at_ >>= fun z14' => sf__law_flow z12' z13' z14' >>= fun flow => atR draws at_ >>= fun z16' => R.ok ((level + flow) - z16') >>= fun rest => orBad table >>= fun z17' => fmodR (at_ + 1) (low.length : Int) >>= fun z18' => atR z17' z18' >>= fun then_ => sf__law_release gate then_ rest >>= fun due => sf_least_release room ((eL eI) low) ((eL eI) high) ((eL eI) draws) gate at_ level flow >>= fun told => (if ((decide (due = (-1))) && (!Option.isNone told)) then R.ok true else (if (decide (0 ≤ due)) then sf__law_number ((eO eI) told) >>= fun z23' => (if (!z23') then R.ok true else eqR ((eO eI) told) (D.int due) >>= fun z22' => R.ok (!z22')) >>= fun z24' => R.ok z24' else R.ok false) >>= fun z25' => R.ok z25') >>= fun z26' => if z26' then R.ok (LO.rt false) else if ((decide (0 < step_)) && (decide (due = (-1)))) then R.ok (LO.rt false) else R.ok (rest - due) >>= fun level => fmodR (at_ + 1) (low.length : Int) >>= fun at_ => if (decide (due = (-1))) then orBad table >>= fun z28' => atR z28' at_ >>= fun z29' => atR cells 29 >>= fun z30' => atR ([z29'.1, z29'.2] : List Int) (Int.fmod z30' 2) >>= fun level => R.ok (LO.nx (at_, level)) else R.ok (LO.nx (at_, level))
def sf__law_kept (room : Int) (low : List Int) (high : List Int) (draws : List Int) (gate : Int) (table : Option (List (Int × Int))) (cells : List Int) : R Bool :=
  atR cells 28 >>= fun z1' => fmodR z1' (low.length : Int) >>= fun at_ => orBad table >>= fun z3' => atR z3' at_ >>= fun pair => atR cells 29 >>= fun z5' => fmodR z5' (room + 1) >>= fun z6' => R.ok ([z6', pair.1, pair.2, (max 0 (pair.1 - 1)), (min room (pair.2 + 1))] : List Int) >>= fun levels => atR cells 28 >>= fun z7' => atR levels (Int.fmod (Int.fdiv z7' 24) 5) >>= fun level => forO (fun step_ z11' => lp__law_kept_0 room low high draws gate table cells step_ z11'.1 z11'.2) (upI 0 17) (at_, level) >>= fun z52' => LO.k z52' (fun z11' => R.ok true) R.ok
theorem S__law_kept (k : Nat) (room : Int) (low : List Int) (high : List Int) (draws : List Int) (gate : Int) (table : Option (List (Int × Int))) (cells : List Int) : FnR (F (k + 7) 38) [eI room, (eL eI) low, (eL eI) high, (eL eI) draws, eI gate, (eO (eL (eP2 eI eI))) table, (eL eI) cells] (sf__law_kept room low high draws gate table cells) eB false :=
  FnR.def_ (np := 7) (n := 17) (b := b__law_kept) (k := k + 6) rfl rfl (show KN (F (k + 6)) FU (QF eB false) [some (eI room, false), some ((eL eI) low, false), some ((eL eI) high, false), some ((eL eI) draws, false), some (eI gate, false), some ((eO (eL (eP2 eI eI))) table, false), some ((eL eI) cells, false), none, none, none, none, none, none, none, none, none, none] (sf__law_kept room low high draws gate table cells) [b__law_kept] from (KN.seq (KN.asgE (L' := fun (at_ : Int) => [some (eI room, false), some ((eL eI) low, false), some ((eL eI) high, false), some ((eL eI) draws, false), some (eI gate, false), some ((eO (eL (eP2 eI eI))) table, false), some ((eL eI) cells, false), some (eI at_, false), none, none, none, none, none, none, none, none, none]) (EO.of (EC.mod (EC.bf1 (eb := eI) (g := fun x => x) (fun _ => rfl) (EC.ixL (EC.varF (ea := (eL eI)) (v := cells) rfl) (EC.con (ea := eI) (v := 28) rfl))) (EC.lenL (EC.varF (ea := (eL eI)) (v := low) rfl)))) rfl (fun _ => rfl) fun at_ => (KN.seq (KN.asgE (L' := fun (pair : Int × Int) => [some (eI room, false), some ((eL eI) low, false), some ((eL eI) high, false), some ((eL eI) draws, false), some (eI gate, false), some ((eO (eL (eP2 eI eI))) table, false), some ((eL eI) cells, false), some (eI at_, false), some ((eP2 eI eI) pair, false), none, none, none, none, none, none, none, none]) (EO.of (EC.ixL (EC.get (EC.varF (ea := (eO (eL (eP2 eI eI)))) (v := table) rfl)) (EC.varF (ea := eI) (v := at_) rfl))) rfl (fun _ => rfl) fun pair => (KN.seq (KN.asgP (L' := fun (levels : List Int) => [some (eI room, false), some ((eL eI) low, false), some ((eL eI) high, false), some ((eL eI) draws, false), some (eI gate, false), some ((eO (eL (eP2 eI eI))) table, false), some ((eL eI) cells, false), some (eI at_, false), some ((eP2 eI eI) pair, false), some ((eL eI) levels, true), none, none, none, none, none, none, none]) (EO.lst (EC.lst (eb := eI) (EA.cons (EC.mod (EC.bf1 (eb := eI) (g := fun x => x) (fun _ => rfl) (EC.ixL (EC.varF (ea := (eL eI)) (v := cells) rfl) (EC.con (ea := eI) (v := 29) rfl))) (EC.add (EC.varF (ea := eI) (v := room) rfl) (EC.con (ea := eI) (v := 1) rfl))) (EA.cons (EC.prj (eb := eI) (g := fun w => w.1) (fun _ => rfl) (EC.varF (ea := (eP2 eI eI)) (v := pair) rfl)) (EA.cons (EC.prj (eb := eI) (g := fun w => w.2) (fun _ => rfl) (EC.varF (ea := (eP2 eI eI)) (v := pair) rfl)) (EA.cons (EC.max2 (EC.con (ea := eI) (v := 0) rfl) (EC.sub (EC.prj (eb := eI) (g := fun w => w.1) (fun _ => rfl) (EC.varF (ea := (eP2 eI eI)) (v := pair) rfl)) (EC.con (ea := eI) (v := 1) rfl))) (EA.cons (EC.min2 (EC.varF (ea := eI) (v := room) rfl) (EC.add (EC.prj (eb := eI) (g := fun w => w.2) (fun _ => rfl) (EC.varF (ea := (eP2 eI eI)) (v := pair) rfl)) (EC.con (ea := eI) (v := 1) rfl))) EA.nil))))) (fun w => [w.1, w.2.1, w.2.2.1, w.2.2.2.1, w.2.2.2.2.1]) (fun _ => rfl) (fun _ => Nat.le_of_ble_eq_true rfl))) rfl (fun _ => rfl) fun levels => (KN.seq (KN.asgE (L' := fun (level : Int) => [some (eI room, false), some ((eL eI) low, false), some ((eL eI) high, false), some ((eL eI) draws, false), some (eI gate, false), some ((eO (eL (eP2 eI eI))) table, false), some ((eL eI) cells, false), some (eI at_, false), some ((eP2 eI eI) pair, false), some ((eL eI) levels, true), some (eI level, false), none, none, none, none, none, none]) (EO.of (EC.ixL (EC.varT (ea := (eL eI)) (v := levels) rfl) (EC.modc (by decide) (EC.bf1 (eb := eI) (g := fun x => x) (fun _ => rfl) (EC.fdivc ⟨by decide, by decide⟩ (EC.ixL (EC.varF (ea := (eL eI)) (v := cells) rfl) (EC.con (ea := eI) (v := 28) rfl))))))) rfl (fun _ => rfl) fun level => (KN.seq (KN.forO (ec := eB) (own := false) (Lf := fun (z11' : Int × Int) => [some (eI room, false), some ((eL eI) low, false), some ((eL eI) high, false), some ((eL eI) draws, false), some (eI gate, false), some ((eO (eL (eP2 eI eI))) table, false), some ((eL eI) cells, false), some (eI z11'.1, false), some ((eP2 eI eI) pair, false), some ((eL eI) levels, true), some (eI z11'.2, false), none, none, none, none, none, none]) (x0 := (at_, level)) (fun _ => rfl) (IT.l (EC.rngc (by decide))) (Le.keep (Le.keep (Le.keep (Le.keep (Le.keep (Le.keep (Le.keep (Le.keep (Le.keep (Le.keep (Le.keep (Le.drop (Le.drop (Le.drop (Le.drop (Le.drop (Le.drop Le.nil))))))))))))))))) (fun _ => TB.name) RT.f rfl (fun z11' step_ => (KN.seq (KN.asgE (L' := fun (flow : Int) => [some (eI room, false), some ((eL eI) low, false), some ((eL eI) high, false), some ((eL eI) draws, false), some (eI gate, false), some ((eO (eL (eP2 eI eI))) table, false), some ((eL eI) cells, false), some (eI z11'.1, false), some ((eP2 eI eI) pair, false), some ((eL eI) levels, true), some (eI z11'.2, false), some (eI step_, false), some (eI flow, false), none, none, none, none]) (EO.call (eb := eI) (EA.cons (EC.ixL (EC.varF (ea := (eL eI)) (v := cells) rfl) (EC.add (EC.con (ea := eI) (v := 30) rfl) (EC.varF (ea := eI) (v := step_) rfl))) (EA.cons (EC.ixL (EC.varF (ea := (eL eI)) (v := low) rfl) (EC.varF (ea := eI) (v := z11'.1) rfl)) (EA.cons (EC.ixL (EC.varF (ea := (eL eI)) (v := high) rfl) (EC.varF (ea := eI) (v := z11'.1) rfl)) EA.nil))) fun v => S__law_flow (k + 5) v.1 v.2.1 v.2.2.1) rfl (fun _ => rfl) fun flow => (KN.seq (KN.asgP (L' := fun (rest : Int) => [some (eI room, false), some ((eL eI) low, false), some ((eL eI) high, false), some ((eL eI) draws, false), some (eI gate, false), some ((eO (eL (eP2 eI eI))) table, false), some ((eL eI) cells, false), some (eI z11'.1, false), some ((eP2 eI eI) pair, false), some ((eL eI) levels, true), some (eI z11'.2, false), some (eI step_, false), some (eI flow, false), some (eI rest, false), none, none, none]) (EO.of (EC.sub (EC.add (EC.varF (ea := eI) (v := z11'.2) rfl) (EC.varF (ea := eI) (v := flow) rfl)) (EC.ixL (EC.varF (ea := (eL eI)) (v := draws) rfl) (EC.varF (ea := eI) (v := z11'.1) rfl)))) rfl (fun _ => rfl) fun rest => (KN.seq (KN.asgE (L' := fun (then_ : Int × Int) => [some (eI room, false), some ((eL eI) low, false), some ((eL eI) high, false), some ((eL eI) draws, false), some (eI gate, false), some ((eO (eL (eP2 eI eI))) table, false), some ((eL eI) cells, false), some (eI z11'.1, false), some ((eP2 eI eI) pair, false), some ((eL eI) levels, true), some (eI z11'.2, false), some (eI step_, false), some (eI flow, false), some (eI rest, false), some ((eP2 eI eI) then_, false), none, none]) (EO.of (EC.ixL (EC.get (EC.varF (ea := (eO (eL (eP2 eI eI)))) (v := table) rfl)) (EC.mod (EC.bf1 (eb := eI) (g := fun x => x) (fun _ => rfl) (EC.add (EC.varF (ea := eI) (v := z11'.1) rfl) (EC.con (ea := eI) (v := 1) rfl))) (EC.lenL (EC.varF (ea := (eL eI)) (v := low) rfl))))) rfl (fun _ => rfl) fun then_ => (KN.seq (KN.asgE (L' := fun (due : Int) => [some (eI room, false), some ((eL eI) low, false), some ((eL eI) high, false), some ((eL eI) draws, false), some (eI gate, false), some ((eO (eL (eP2 eI eI))) table, false), some ((eL eI) cells, false), some (eI z11'.1, false), some ((eP2 eI eI) pair, false), some ((eL eI) levels, true), some (eI z11'.2, false), some (eI step_, false), some (eI flow, false), some (eI rest, false), some ((eP2 eI eI) then_, false), some (eI due, false), none]) (EO.call (eb := eI) (EA.cons (EC.varF (ea := eI) (v := gate) rfl) (EA.cons (EC.varF (ea := (eP2 eI eI)) (v := then_) rfl) (EA.cons (EC.varF (ea := eI) (v := rest) rfl) EA.nil))) fun v => S__law_release (k + 5) v.1 v.2.1 v.2.2.1) rfl (fun _ => rfl) fun due => (KN.seq (KN.asgE (L' := fun (told : Option Int) => [some (eI room, false), some ((eL eI) low, false), some ((eL eI) high, false), some ((eL eI) draws, false), some (eI gate, false), some ((eO (eL (eP2 eI eI))) table, false), some ((eL eI) cells, false), some (eI z11'.1, false), some ((eP2 eI eI) pair, false), some ((eL eI) levels, true), some (eI z11'.2, false), some (eI step_, false), some (eI flow, false), some (eI rest, false), some ((eP2 eI eI) then_, false), some (eI due, false), some ((eO eI) told, false)]) (EO.call (eb := (eO eI)) (EA.cons (EC.varF (ea := eI) (v := room) rfl) (EA.cons (EC.dyn (EC.bf1 (eb := (eL eI)) (g := fun x => x) (fun _ => rfl) (EC.varF (ea := (eL eI)) (v := low) rfl))) (EA.cons (EC.dyn (EC.bf1 (eb := (eL eI)) (g := fun x => x) (fun _ => rfl) (EC.varF (ea := (eL eI)) (v := high) rfl))) (EA.cons (EC.dyn (EC.bf1 (eb := (eL eI)) (g := fun x => x) (fun _ => rfl) (EC.varF (ea := (eL eI)) (v := draws) rfl))) (EA.cons (EC.varF (ea := eI) (v := gate) rfl) (EA.cons (EC.varF (ea := eI) (v := z11'.1) rfl) (EA.cons (EC.varF (ea := eI) (v := z11'.2) rfl) (EA.cons (EC.varF (ea := eI) (v := flow) rfl) EA.nil)))))))) fun v => S_least_release (k + 0) v.1 v.2.1 v.2.2.1 v.2.2.2.1 v.2.2.2.2.1 v.2.2.2.2.2.1 v.2.2.2.2.2.2.1 v.2.2.2.2.2.2.2.1) rfl (fun _ => rfl) fun told => (KN.seq (KN.ite (ET.or (ET.andP (ET.bo (EC.eq Pl.I (EC.varF (ea := eI) (v := due) rfl) (EC.neg (EC.con (ea := eI) (v := 1) rfl)))) (ET.bo (EC.isnn1 (g := Option.isNone) (fun v => by cases v <;> rfl) (EC.varF (ea := (eO eI)) (v := told) rfl)))) (ET.and (ET.bo (EC.ge (EC.varF (ea := eI) (v := due) rfl) (EC.con (ea := eI) (v := 0) rfl))) (ET.or (ET.not (ET.bo (EC.call (eb := eB) (EA.cons (EC.dyn (EC.varF (ea := (eO eI)) (v := told) rfl)) EA.nil) fun v => S__law_number (k + 5) v.1))) (ET.bo (EC.ned (EC.varF (ea := (eO eI)) (v := told) rfl) (EC.varF (ea := eI) (v := due) rfl)))))) rfl (KN.ret (fun _ h => nomatch h) (EO.of (EC.con (ea := eB) (v := false) rfl)) RT.lo rfl) (KN.skip (KN.seq (KN.ite (ET.andP (ET.bo (EC.gt (EC.varF (ea := eI) (v := step_) rfl) (EC.con (ea := eI) (v := 0) rfl))) (ET.bo (EC.eq Pl.I (EC.varF (ea := eI) (v := due) rfl) (EC.neg (EC.con (ea := eI) (v := 1) rfl))))) rfl (KN.ret (fun _ h => nomatch h) (EO.of (EC.con (ea := eB) (v := false) rfl)) RT.lo rfl) (KN.skip (KN.seq (KN.asgP (L' := fun (level : Int) => [some (eI room, false), some ((eL eI) low, false), some ((eL eI) high, false), some ((eL eI) draws, false), some (eI gate, false), some ((eO (eL (eP2 eI eI))) table, false), some ((eL eI) cells, false), some (eI z11'.1, false), some ((eP2 eI eI) pair, false), some ((eL eI) levels, true), some (eI level, false), some (eI step_, false), some (eI flow, false), some (eI rest, false), some ((eP2 eI eI) then_, false), some (eI due, false), some ((eO eI) told, false)]) (EO.of (EC.sub (EC.varF (ea := eI) (v := rest) rfl) (EC.varF (ea := eI) (v := due) rfl))) rfl (fun _ => rfl) fun level => (KN.seq (KN.asgE (L' := fun (at_ : Int) => [some (eI room, false), some ((eL eI) low, false), some ((eL eI) high, false), some ((eL eI) draws, false), some (eI gate, false), some ((eO (eL (eP2 eI eI))) table, false), some ((eL eI) cells, false), some (eI at_, false), some ((eP2 eI eI) pair, false), some ((eL eI) levels, true), some (eI level, false), some (eI step_, false), some (eI flow, false), some (eI rest, false), some ((eP2 eI eI) then_, false), some (eI due, false), some ((eO eI) told, false)]) (EO.of (EC.mod (EC.bf1 (eb := eI) (g := fun x => x) (fun _ => rfl) (EC.add (EC.varF (ea := eI) (v := z11'.1) rfl) (EC.con (ea := eI) (v := 1) rfl))) (EC.lenL (EC.varF (ea := (eL eI)) (v := low) rfl)))) rfl (fun _ => rfl) fun at_ => (KN.ite (ET.bo (EC.eq Pl.I (EC.varF (ea := eI) (v := due) rfl) (EC.neg (EC.con (ea := eI) (v := 1) rfl)))) rfl (KN.asgE (L' := fun (level : Int) => [some (eI room, false), some ((eL eI) low, false), some ((eL eI) high, false), some ((eL eI) draws, false), some (eI gate, false), some ((eO (eL (eP2 eI eI))) table, false), some ((eL eI) cells, false), some (eI at_, false), some ((eP2 eI eI) pair, false), some ((eL eI) levels, true), some (eI level, false), some (eI step_, false), some (eI flow, false), some (eI rest, false), some ((eP2 eI eI) then_, false), some (eI due, false), some ((eO eI) told, false)]) (EO.of (EC.ixT (EC.as (eb := (eT eI)) (v := fun w => [w.1, w.2]) (EC.ixL (EC.get (EC.varF (ea := (eO (eL (eP2 eI eI)))) (v := table) rfl)) (EC.varF (ea := eI) (v := at_) rfl)) fun _ => rfl) (EC.modc (by decide) (EC.bf1 (eb := eI) (g := fun x => x) (fun _ => rfl) (EC.ixL (EC.varF (ea := (eL eI)) (v := cells) rfl) (EC.con (ea := eI) (v := 29) rfl)))))) rfl (fun _ => rfl) fun level => (KN.endLO (x := (at_, level)) (Le.keep (Le.keep (Le.keep (Le.keep (Le.keep (Le.keep (Le.keep (Le.keep (Le.keep (Le.keep (Le.keep (Le.drop (Le.drop (Le.drop (Le.drop (Le.drop (Le.drop Le.nil))))))))))))))))))) (KN.skip (KN.endLO (x := (at_, level)) (Le.keep (Le.keep (Le.keep (Le.keep (Le.keep (Le.keep (Le.keep (Le.keep (Le.keep (Le.keep (Le.keep (Le.drop (Le.drop (Le.drop (Le.drop (Le.drop (Le.drop Le.nil))))))))))))))))))))))))))))))))))))))))) fun z11' => (KN.ret (fun _ h => nomatch h) (EO.of (EC.con (ea := eB) (v := true) rfl)) RT.f rfl))))))))))))

def lp__law_is_squeeze_0 (periods : Int) (one : D)  : R (LO Unit Bool) :=
  sf__law_number one >>= fun z24' => (if (!z24') then R.ok true else orBad (unI one) >>= fun z22' => (if (decide (z22' < 0)) then R.ok true else orBad (unI one) >>= fun z21' => R.ok (decide (periods < z21'))) >>= fun z23' => R.ok z23') >>= fun z25' => if z25' then R.ok (LO.rt false) else R.ok (LO.nx ())
def lp__law_is_squeeze_1 (low : List Int) (draws : List Int) (paper : D) (periods : Int) (turn : Int) (lost : Int) : R Int :=
  ixR paper 1 >>= fun z38' => orBad (unI z38') >>= fun z39' => fmodR (z39' + turn) periods >>= fun at_ => atR draws at_ >>= fun z41' => atR low at_ >>= fun z42' => R.ok ((lost + z41') - z42') >>= fun lost => R.ok lost
def lp__law_is_squeeze_2 (high : List Int) (draws : List Int) (gate : Int) (paper : D) (periods : Int) (turn : Int) (spilled : Int) : R Int :=
  ixR paper 1 >>= fun z53' => orBad (unI z53') >>= fun z54' => fmodR (z54' + turn) periods >>= fun at_ => atR draws at_ >>= fun z56' => atR high at_ >>= fun z57' => R.ok (((spilled + z56') + gate) - z57') >>= fun spilled => R.ok spilled
def sf__law_is_squeeze (room : Int) (low : List Int) (high : List Int) (draws : List Int) (gate : Int) (paper : D) : R Bool :=
  R.ok (low.length : Int) >>= fun periods => (if (!(List.any [.list, .tuple] (isTy paper))) then R.ok true else lenR paper >>= fun z2' => (if (decide (z2' = 0)) then R.ok true else ixR paper 0 >>= fun z1' => R.ok (!(isTy z1' .str))) >>= fun z3' => R.ok z3') >>= fun z4' => if z4' then R.ok false else ixR paper 0 >>= fun z5' => eqR z5' (D.str (Str.ofString "dry")) >>= fun z6' => if z6' then lenR paper >>= fun z7' => R.ok ((decide (z7' = 1)) && (decide (low.sum < draws.sum))) else ixR paper 0 >>= fun z8' => eqR z8' (D.str (Str.ofString "flood")) >>= fun z9' => if z9' then lenR paper >>= fun z11' => (if (decide (z11' = 1)) then mulR gate periods >>= fun z10' => R.ok (decide ((draws.sum + z10') < high.sum)) else R.ok false) >>= fun z12' => R.ok z12' else ixR paper 0 >>= fun z14' => eqR z14' (D.str (Str.ofString "meet")) >>= fun z15' => (if (!z15') then R.ok true else lenR paper >>= fun z13' => R.ok (!decide (z13' = 4))) >>= fun z16' => if z16' then R.ok false else slD paper (some 1) none >>= fun z17' => items z17' >>= fun z18' => forO (fun one z20' => lp__law_is_squeeze_0 periods one ) z18' () >>= fun z31' => LO.k z31' (fun z20' => ixR paper 1 >>= fun z32' => eqR z32' (D.int periods) >>= fun z33' => if z33' then R.ok false else R.ok 0 >>= fun lost => ixR paper 2 >>= fun z34' => orBad (unI z34') >>= fun z35' => rngR z35' >>= fun z36' => forR (fun turn lost => lp__law_is_squeeze_1 low draws paper periods turn lost) z36' lost >>= fun lost => R.ok 0 >>= fun spilled => ixR paper 3 >>= fun z49' => orBad (unI z49') >>= fun z50' => rngR z50' >>= fun z51' => forR (fun turn spilled => lp__law_is_squeeze_2 high draws gate paper periods turn spilled) z51' spilled >>= fun spilled => R.ok (decide ((room + spilled) < lost))) R.ok
theorem S__law_is_squeeze (k : Nat) (room : Int) (low : List Int) (high : List Int) (draws : List Int) (gate : Int) (paper : D) : FnR (F (k + 2) 29) [eI room, (eL eI) low, (eL eI) high, (eL eI) draws, eI gate, paper] (sf__law_is_squeeze room low high draws gate paper) eB false :=
  FnR.def_ (np := 6) (n := 12) (b := b__law_is_squeeze) (k := k + 1) rfl rfl (show KN (F (k + 1)) FU (QF eB false) [some (eI room, false), some ((eL eI) low, false), some ((eL eI) high, false), some ((eL eI) draws, false), some (eI gate, false), some (paper, false), none, none, none, none, none, none] (sf__law_is_squeeze room low high draws gate paper) [b__law_is_squeeze] from (KN.seq (KN.asgP (L' := fun (periods : Int) => [some (eI room, false), some ((eL eI) low, false), some ((eL eI) high, false), some ((eL eI) draws, false), some (eI gate, false), some (paper, false), some (eI periods, false), none, none, none, none, none]) (EO.of (EC.lenL (EC.varF (ea := (eL eI)) (v := low) rfl))) rfl (fun _ => rfl) fun periods => (KN.seq (KN.ite (ET.or (ET.not (ET.bo (EC.isi (g := fun w => List.any [.list, .tuple] (isTy w)) (fun _ => rfl) (EC.varF (ea := eD) (v := paper) rfl)))) (ET.or (ET.bo (EC.eq Pl.I (EC.bf1R (eb := eI) (g := lenR) lenR_ok (EC.varF (ea := eD) (v := paper) rfl)) (EC.con (ea := eI) (v := 0) rfl))) (ET.not (ET.bo (EC.isi1 (g := fun w => isTy w .str) (fun _ => rfl) (EC.ixD (EC.varF (ea := eD) (v := paper) rfl) (EC.con (ea := eI) (v := 0) rfl))))))) rfl (KN.ret (fun _ h => nomatch h) (EO.of (EC.con (ea := eB) (v := false) rfl)) RT.f rfl) (KN.skip (KN.seq (KN.ite (ET.bo (EC.eqd (EC.ixD (EC.varF (ea := eD) (v := paper) rfl) (EC.con (ea := eI) (v := 0) rfl)) (EC.con (ea := eS) (v := (Str.ofString "dry")) rfl))) rfl (KN.ret (fun _ h => nomatch h) (EO.of (EC.andP (EC.eq Pl.I (EC.bf1R (eb := eI) (g := lenR) lenR_ok (EC.varF (ea := eD) (v := paper) rfl)) (EC.con (ea := eI) (v := 1) rfl)) (EC.gt (EC.sumL (EC.varF (ea := (eL eI)) (v := draws) rfl)) (EC.sumL (EC.varF (ea := (eL eI)) (v := low) rfl))))) RT.f rfl) (KN.skip (KN.seq (KN.ite (ET.bo (EC.eqd (EC.ixD (EC.varF (ea := eD) (v := paper) rfl) (EC.con (ea := eI) (v := 0) rfl)) (EC.con (ea := eS) (v := (Str.ofString "flood")) rfl))) rfl (KN.ret (fun _ h => nomatch h) (EO.of (EC.and (EC.eq Pl.I (EC.bf1R (eb := eI) (g := lenR) lenR_ok (EC.varF (ea := eD) (v := paper) rfl)) (EC.con (ea := eI) (v := 1) rfl)) (EC.gt (EC.sumL (EC.varF (ea := (eL eI)) (v := high) rfl)) (EC.add (EC.sumL (EC.varF (ea := (eL eI)) (v := draws) rfl)) (EC.mul (EC.varF (ea := eI) (v := gate) rfl) (EC.varF (ea := eI) (v := periods) rfl)))))) RT.f rfl) (KN.skip (KN.seq (KN.ite (ET.or (ET.bo (EC.ned (EC.ixD (EC.varF (ea := eD) (v := paper) rfl) (EC.con (ea := eI) (v := 0) rfl)) (EC.con (ea := eS) (v := (Str.ofString "meet")) rfl))) (ET.bo (EC.ne Pl.I (EC.bf1R (eb := eI) (g := lenR) lenR_ok (EC.varF (ea := eD) (v := paper) rfl)) (EC.con (ea := eI) (v := 4) rfl)))) rfl (KN.ret (fun _ h => nomatch h) (EO.of (EC.con (ea := eB) (v := false) rfl)) RT.f rfl) (KN.skip (KN.seq (KN.forO (ec := eB) (own := false) (Lf := fun (z20' : Unit) => [some (eI room, false), some ((eL eI) low, false), some ((eL eI) high, false), some ((eL eI) draws, false), some (eI gate, false), some (paper, false), some (eI periods, false), none, none, none, none, none]) (x0 := ()) (fun _ => rfl) (IT.dy (EC.slD1 (EC.varF (ea := eD) (v := paper) rfl) rfl (EC.con (ea := eI) (v := 1) rfl))) (Le.keep (Le.keep (Le.keep (Le.keep (Le.keep (Le.keep (Le.keep (Le.drop (Le.drop (Le.drop (Le.drop (Le.drop Le.nil)))))))))))) (fun _ => TB.name) RT.f rfl (fun z20' one => (KN.ite (ET.or (ET.not (ET.bo (EC.call (eb := eB) (EA.cons (EC.varF (ea := eD) (v := one) rfl) EA.nil) fun v => S__law_number (k + 0) v.1))) (ET.or (ET.bo (EC.lt (EC.un (ea := eD) (eb := eI) (un := unI) (EC.varF (ea := eD) (v := one) rfl) unI_ok) (EC.con (ea := eI) (v := 0) rfl))) (ET.bo (EC.gt (EC.un (ea := eD) (eb := eI) (un := unI) (EC.varF (ea := eD) (v := one) rfl) unI_ok) (EC.varF (ea := eI) (v := periods) rfl))))) rfl (KN.ret (fun _ h => nomatch h) (EO.of (EC.con (ea := eB) (v := false) rfl)) RT.lo rfl) (KN.skip (KN.endLO (x := ()) (Le.keep (Le.keep (Le.keep (Le.keep (Le.keep (Le.keep (Le.keep (Le.drop (Le.drop (Le.drop (Le.drop (Le.drop Le.nil)))))))))))))))) fun z20' => (KN.seq (KN.ite (ET.bo (EC.eqd (EC.ixD (EC.varF (ea := eD) (v := paper) rfl) (EC.con (ea := eI) (v := 1) rfl)) (EC.varF (ea := eI) (v := periods) rfl))) rfl (KN.ret (fun _ h => nomatch h) (EO.of (EC.con (ea := eB) (v := false) rfl)) RT.f rfl) (KN.skip (KN.seq (KN.asgP (L' := fun (lost : Int) => [some (eI room, false), some ((eL eI) low, false), some ((eL eI) high, false), some ((eL eI) draws, false), some (eI gate, false), some (paper, false), some (eI periods, false), none, some (eI lost, false), none, none, none]) (EO.of (EC.con (ea := eI) (v := 0) rfl)) rfl (fun _ => rfl) fun lost => (KN.seq (KN.for_ (Lf := fun (lost : Int) => [some (eI room, false), some ((eL eI) low, false), some ((eL eI) high, false), some ((eL eI) draws, false), some (eI gate, false), some (paper, false), some (eI periods, false), none, some (eI lost, false), none, none, none]) (x0 := lost) (fun _ => rfl) (IT.l (EC.rng1 (EC.un (ea := eD) (eb := eI) (un := unI) (EC.ixD (EC.varF (ea := eD) (v := paper) rfl) (EC.con (ea := eI) (v := 2) rfl)) unI_ok))) (Le.keep (Le.keep (Le.keep (Le.keep (Le.keep (Le.keep (Le.keep (Le.drop (Le.keep (Le.drop (Le.drop (Le.drop Le.nil)))))))))))) (fun _ => TB.name) rfl (fun lost turn => (KN.seq (KN.asgE (L' := fun (at_ : Int) => [some (eI room, false), some ((eL eI) low, false), some ((eL eI) high, false), some ((eL eI) draws, false), some (eI gate, false), some (paper, false), some (eI periods, false), none, some (eI lost, false), some (eI turn, false), some (eI at_, false), none]) (EO.of (EC.mod (EC.bf1 (eb := eI) (g := fun x => x) (fun _ => rfl) (EC.add (EC.un (ea := eD) (eb := eI) (un := unI) (EC.ixD (EC.varF (ea := eD) (v := paper) rfl) (EC.con (ea := eI) (v := 1) rfl)) unI_ok) (EC.varF (ea := eI) (v := turn) rfl))) (EC.varF (ea := eI) (v := periods) rfl))) rfl (fun _ => rfl) fun at_ => (KN.asgP (L' := fun (lost : Int) => [some (eI room, false), some ((eL eI) low, false), some ((eL eI) high, false), some ((eL eI) draws, false), some (eI gate, false), some (paper, false), some (eI periods, false), none, some (eI lost, false), some (eI turn, false), some (eI at_, false), none]) (EO.of (EC.sub (EC.add (EC.varF (ea := eI) (v := lost) rfl) (EC.ixL (EC.varF (ea := (eL eI)) (v := draws) rfl) (EC.varF (ea := eI) (v := at_) rfl))) (EC.ixL (EC.varF (ea := (eL eI)) (v := low) rfl) (EC.varF (ea := eI) (v := at_) rfl)))) rfl (fun _ => rfl) fun lost => (KN.endL (x := lost) (Le.keep (Le.keep (Le.keep (Le.keep (Le.keep (Le.keep (Le.keep (Le.drop (Le.keep (Le.drop (Le.drop (Le.drop Le.nil))))))))))))))))) fun lost => (KN.seq (KN.asgP (L' := fun (spilled : Int) => [some (eI room, false), some ((eL eI) low, false), some ((eL eI) high, false), some ((eL eI) draws, false), some (eI gate, false), some (paper, false), some (eI periods, false), none, some (eI lost, false), none, none, some (eI spilled, false)]) (EO.of (EC.con (ea := eI) (v := 0) rfl)) rfl (fun _ => rfl) fun spilled => (KN.seq (KN.for_ (Lf := fun (spilled : Int) => [some (eI room, false), some ((eL eI) low, false), some ((eL eI) high, false), some ((eL eI) draws, false), some (eI gate, false), some (paper, false), some (eI periods, false), none, some (eI lost, false), none, none, some (eI spilled, false)]) (x0 := spilled) (fun _ => rfl) (IT.l (EC.rng1 (EC.un (ea := eD) (eb := eI) (un := unI) (EC.ixD (EC.varF (ea := eD) (v := paper) rfl) (EC.con (ea := eI) (v := 3) rfl)) unI_ok))) (Le.keep (Le.keep (Le.keep (Le.keep (Le.keep (Le.keep (Le.keep (Le.drop (Le.keep (Le.drop (Le.drop (Le.keep Le.nil)))))))))))) (fun _ => TB.name) rfl (fun spilled turn => (KN.seq (KN.asgE (L' := fun (at_ : Int) => [some (eI room, false), some ((eL eI) low, false), some ((eL eI) high, false), some ((eL eI) draws, false), some (eI gate, false), some (paper, false), some (eI periods, false), none, some (eI lost, false), some (eI turn, false), some (eI at_, false), some (eI spilled, false)]) (EO.of (EC.mod (EC.bf1 (eb := eI) (g := fun x => x) (fun _ => rfl) (EC.add (EC.un (ea := eD) (eb := eI) (un := unI) (EC.ixD (EC.varF (ea := eD) (v := paper) rfl) (EC.con (ea := eI) (v := 1) rfl)) unI_ok) (EC.varF (ea := eI) (v := turn) rfl))) (EC.varF (ea := eI) (v := periods) rfl))) rfl (fun _ => rfl) fun at_ => (KN.asgP (L' := fun (spilled : Int) => [some (eI room, false), some ((eL eI) low, false), some ((eL eI) high, false), some ((eL eI) draws, false), some (eI gate, false), some (paper, false), some (eI periods, false), none, some (eI lost, false), some (eI turn, false), some (eI at_, false), some (eI spilled, false)]) (EO.of (EC.sub (EC.add (EC.add (EC.varF (ea := eI) (v := spilled) rfl) (EC.ixL (EC.varF (ea := (eL eI)) (v := draws) rfl) (EC.varF (ea := eI) (v := at_) rfl))) (EC.varF (ea := eI) (v := gate) rfl)) (EC.ixL (EC.varF (ea := (eL eI)) (v := high) rfl) (EC.varF (ea := eI) (v := at_) rfl)))) rfl (fun _ => rfl) fun spilled => (KN.endL (x := spilled) (Le.keep (Le.keep (Le.keep (Le.keep (Le.keep (Le.keep (Le.keep (Le.drop (Le.keep (Le.drop (Le.drop (Le.keep Le.nil))))))))))))))))) fun spilled => (KN.ret (fun _ h => nomatch h) (EO.of (EC.gt (EC.varF (ea := eI) (v := lost) rfl) (EC.add (EC.varF (ea := eI) (v := room) rfl) (EC.varF (ea := eI) (v := spilled) rfl)))) RT.f rfl)))))))))))))))))))))))))))))

def lp__law_bands_0 (base : List (Int × Int)) (at_ : Int) (other : D) (tables : List D) : R (List D) :=
  catR ((cut base none (some at_)).map (eP2 eI eI)) ([other] : List D) >>= fun z15' => catR z15' ((cut base (some (at_ + 1)) none).map (eP2 eI eI)) >>= fun z16' => appR tables ((eL eD) z16') >>= fun tables => R.ok tables
def sf__law_bands (room : Int) (base : List (Int × Int)) (at_ : Int) : R (List D) :=
  atR base at_ >>= fun pair => lcR (fun z2' => R.ok ([z2'.1, z2'.2] : List Int)) base >>= fun z3' => atR base 0 >>= fun z4' => catR base ([z4'] : List (Int × Int)) >>= fun z5' => catR (cut base (some 1) none) (cut base none (some 1)) >>= fun z6' => R.ok ([((eL (eP2 eI eI)) base), ((eT (eP2 eI eI)) base), ((eL (eL eI)) z3'), ((eL (eP2 eI eI)) z5'), ((eL (eP2 eI eI)) (cut base none (some (-1)))), ((eL (eP2 eI eI)) z6'), ((eL eI) ([] : List Int)), (eP0 ())] : List D) >>= fun tables => lcR (fun z7' => R.ok (0, room)) base >>= fun z8' => lcR (fun z9' => R.ok (z9'.1, z9'.1)) base >>= fun z10' => catR tables ([D.non, (D.int 7), (D.str (Str.ofString "00")), ((eL (eP2 eI eI)) z8'), ((eL (eP2 eI eI)) z10')] : List D) >>= fun tables => R.ok ([((pair.1 - 1), pair.2), ((pair.1 + 1), pair.2), (pair.1, (pair.2 - 1)), (pair.1, (pair.2 + 1))] : List (Int × Int)) >>= fun others => catR (others.map (eP2 eI eI)) ([((eP2 eI eI) (pair.2, pair.1)), ((eP3 eI eI eI) (pair.1, pair.2, pair.2)), ((eP1 eI) pair.1), D.non, (D.str (Str.ofString "01")), (D.int 5), ((eP2 eB eI) (true, pair.2))] : List D) >>= fun others => catR others ([((eP2 eI eN) (pair.1, ())), ((eL eI) ([pair.1, pair.1] : List Int)), ((eP2 eI eI) (pair.2, pair.2)), ((eP2 eI eI) (0, room)), ((eP2 eI eI) (0, (room + 1))), ((eP2 eI eI) ((-1), room))] : List D) >>= fun others => forR (fun other tables => lp__law_bands_0 base at_ other tables) others tables >>= fun tables => R.ok tables
theorem S__law_bands (k : Nat) (room : Int) (base : List (Int × Int)) (at_ : Int) : FnR (F (k + 1) 33) [eI room, (eL (eP2 eI eI)) base, eI at_] (sf__law_bands room base at_) (eL eD) true :=
  FnR.def_ (np := 3) (n := 8) (b := b__law_bands) (k := k + 0) rfl rfl (show KN (F (k + 0)) FU (QF (eL eD) true) [some (eI room, false), some ((eL (eP2 eI eI)) base, false), some (eI at_, false), none, none, none, none, none] (sf__law_bands room base at_) [b__law_bands] from (KN.seq (KN.asgE (L' := fun (pair : Int × Int) => [some (eI room, false), some ((eL (eP2 eI eI)) base, false), some (eI at_, false), some ((eP2 eI eI) pair, false), none, none, none, none]) (EO.of (EC.ixL (EC.varF (ea := (eL (eP2 eI eI))) (v := base) rfl) (EC.varF (ea := eI) (v := at_) rfl))) rfl (fun _ => rfl) fun pair => (KN.seq (KN.asgP (L' := fun (tables : List D) => [some (eI room, false), some ((eL (eP2 eI eI)) base, false), some (eI at_, false), some ((eP2 eI eI) pair, false), some ((eL eD) tables, true), none, none, none]) (EO.lst (EC.lst (eb := eD) (EA.cons (EC.dyn (EC.varF (ea := (eL (eP2 eI eI))) (v := base) rfl)) (EA.cons (EC.dyn (EC.bf1 (eb := (eT (eP2 eI eI))) (g := fun x => x) (fun _ => rfl) (EC.varF (ea := (eL (eP2 eI eI))) (v := base) rfl))) (EA.cons (EC.dyn (EC.lc (ea := (eP2 eI eI)) (eb := (eL eI)) (IT.l (EC.varF (ea := (eL (eP2 eI eI))) (v := base) rfl)) (by exact ⟨rfl, trivial⟩) TB.name (fun z2' => (EC.bf1 (eb := (eL eI)) (g := fun x => x) (fun _ => rfl) (EC.as (eb := (eT eI)) (v := fun w => [w.1, w.2]) (EC.varF (ea := (eP2 eI eI)) (v := z2') rfl) fun _ => rfl))) rfl)) (EA.cons (EC.dyn (EC.catL (EC.varF (ea := (eL (eP2 eI eI))) (v := base) rfl) (EC.lst (eb := (eP2 eI eI)) (EA.cons (EC.ixL (EC.varF (ea := (eL (eP2 eI eI))) (v := base) rfl) (EC.con (ea := eI) (v := 0) rfl)) EA.nil) (fun w => [w.1]) (fun _ => rfl) (fun _ => Nat.le_of_ble_eq_true rfl)))) (EA.cons (EC.dyn (EC.slg2 (.inl fun _ => rfl) (EC.varF (ea := (eL (eP2 eI eI))) (v := base) rfl) rfl (EC.neg (EC.con (ea := eI) (v := 1) rfl)))) (EA.cons (EC.dyn (EC.catL (EC.slg1 (.inl fun _ => rfl) (EC.varF (ea := (eL (eP2 eI eI))) (v := base) rfl) rfl (EC.con (ea := eI) (v := 1) rfl)) (EC.slg2 (.inl fun _ => rfl) (EC.varF (ea := (eL (eP2 eI eI))) (v := base) rfl) rfl (EC.con (ea := eI) (v := 1) rfl)))) (EA.cons (EC.dyn (EC.lst (eb := eI) EA.nil (fun w => []) (fun _ => rfl) (fun _ => Nat.le_of_ble_eq_true rfl))) (EA.cons (EC.dyn (EC.tup (eb := eP0) EA.nil (fun w => ()) (fun _ => rfl) (fun _ => Nat.le_of_ble_eq_true rfl))) EA.nil)))))))) (fun w => [w.1, w.2.1, w.2.2.1, w.2.2.2.1, w.2.2.2.2.1, w.2.2.2.2.2.1, w.2.2.2.2.2.2.1, w.2.2.2.2.2.2.2.1]) (fun _ => rfl) (fun _ => Nat.le_of_ble_eq_true rfl))) rfl (fun _ => rfl) fun tables => (KN.seq (KN.asgE (L' := fun (tables : List D) => [some (eI room, false), some ((eL (eP2 eI eI)) base, false), some (eI at_, false), some ((eP2 eI eI) pair, false), some ((eL eD) tables, true), none, none, none]) (EO.bin (EC.catL (EC.varT (ea := (eL eD)) (v := tables) rfl) (EC.lst (eb := eD) (EA.cons (EC.dyn (EC.con (ea := eN) (v := ()) rfl)) (EA.cons (EC.dyn (EC.con (ea := eI) (v := 7) rfl)) (EA.cons (EC.dyn (EC.con (ea := eS) (v := (Str.ofString "00")) rfl)) (EA.cons (EC.dyn (EC.lc (ea := (eP2 eI eI)) (eb := (eP2 eI eI)) (IT.l (EC.varF (ea := (eL (eP2 eI eI))) (v := base) rfl)) (by exact ⟨rfl, trivial⟩) TB.name (fun z7' => (EC.tup (eb := (eP2 eI eI)) (EA.cons (EC.con (ea := eI) (v := 0) rfl) (EA.cons (EC.varF (ea := eI) (v := room) rfl) EA.nil)) (fun w => (w.1, w.2.1)) (fun _ => rfl) (fun _ => Nat.le_of_ble_eq_true rfl))) rfl)) (EA.cons (EC.dyn (EC.lc (ea := (eP2 eI eI)) (eb := (eP2 eI eI)) (IT.l (EC.varF (ea := (eL (eP2 eI eI))) (v := base) rfl)) (by exact ⟨rfl, trivial⟩) TB.name (fun z9' => (EC.tup (eb := (eP2 eI eI)) (EA.cons (EC.prj (eb := eI) (g := fun w => w.1) (fun _ => rfl) (EC.varF (ea := (eP2 eI eI)) (v := z9') rfl)) (EA.cons (EC.prj (eb := eI) (g := fun w => w.1) (fun _ => rfl) (EC.varF (ea := (eP2 eI eI)) (v := z9') rfl)) EA.nil)) (fun w => (w.1, w.2.1)) (fun _ => rfl) (fun _ => Nat.le_of_ble_eq_true rfl))) rfl)) EA.nil))))) (fun w => [w.1, w.2.1, w.2.2.1, w.2.2.2.1, w.2.2.2.2.1]) (fun _ => rfl) (fun _ => Nat.le_of_ble_eq_true rfl)))) rfl (fun _ => rfl) fun tables => (KN.seq (KN.asgP (L' := fun (others : List (Int × Int)) => [some (eI room, false), some ((eL (eP2 eI eI)) base, false), some (eI at_, false), some ((eP2 eI eI) pair, false), some ((eL eD) tables, true), some ((eL (eP2 eI eI)) others, true), none, none]) (EO.lst (EC.lst (eb := (eP2 eI eI)) (EA.cons (EC.tup (eb := (eP2 eI eI)) (EA.cons (EC.sub (EC.prj (eb := eI) (g := fun w => w.1) (fun _ => rfl) (EC.varF (ea := (eP2 eI eI)) (v := pair) rfl)) (EC.con (ea := eI) (v := 1) rfl)) (EA.cons (EC.prj (eb := eI) (g := fun w => w.2) (fun _ => rfl) (EC.varF (ea := (eP2 eI eI)) (v := pair) rfl)) EA.nil)) (fun w => (w.1, w.2.1)) (fun _ => rfl) (fun _ => Nat.le_of_ble_eq_true rfl)) (EA.cons (EC.tup (eb := (eP2 eI eI)) (EA.cons (EC.add (EC.prj (eb := eI) (g := fun w => w.1) (fun _ => rfl) (EC.varF (ea := (eP2 eI eI)) (v := pair) rfl)) (EC.con (ea := eI) (v := 1) rfl)) (EA.cons (EC.prj (eb := eI) (g := fun w => w.2) (fun _ => rfl) (EC.varF (ea := (eP2 eI eI)) (v := pair) rfl)) EA.nil)) (fun w => (w.1, w.2.1)) (fun _ => rfl) (fun _ => Nat.le_of_ble_eq_true rfl)) (EA.cons (EC.tup (eb := (eP2 eI eI)) (EA.cons (EC.prj (eb := eI) (g := fun w => w.1) (fun _ => rfl) (EC.varF (ea := (eP2 eI eI)) (v := pair) rfl)) (EA.cons (EC.sub (EC.prj (eb := eI) (g := fun w => w.2) (fun _ => rfl) (EC.varF (ea := (eP2 eI eI)) (v := pair) rfl)) (EC.con (ea := eI) (v := 1) rfl)) EA.nil)) (fun w => (w.1, w.2.1)) (fun _ => rfl) (fun _ => Nat.le_of_ble_eq_true rfl)) (EA.cons (EC.tup (eb := (eP2 eI eI)) (EA.cons (EC.prj (eb := eI) (g := fun w => w.1) (fun _ => rfl) (EC.varF (ea := (eP2 eI eI)) (v := pair) rfl)) (EA.cons (EC.add (EC.prj (eb := eI) (g := fun w => w.2) (fun _ => rfl) (EC.varF (ea := (eP2 eI eI)) (v := pair) rfl)) (EC.con (ea := eI) (v := 1) rfl)) EA.nil)) (fun w => (w.1, w.2.1)) (fun _ => rfl) (fun _ => Nat.le_of_ble_eq_true rfl)) EA.nil)))) (fun w => [w.1, w.2.1, w.2.2.1, w.2.2.2.1]) (fun _ => rfl) (fun _ => Nat.le_of_ble_eq_true rfl))) rfl (fun _ => rfl) fun others => (KN.seq (KN.asgE (L' := fun (others : List D) => [some (eI room, false), some ((eL (eP2 eI eI)) base, false), some (eI at_, false), some ((eP2 eI eI) pair, false), some ((eL eD) tables, true), some ((eL eD) others, true), none, none]) (EO.bin (EC.catL (EC.as (eb := (eL eD)) (v := fun w => w.map (eP2 eI eI)) (EC.varT (ea := (eL (eP2 eI eI))) (v := others) rfl) fun w => by simp [eL, eT]) (EC.lst (eb := eD) (EA.cons (EC.dyn (EC.tup (eb := (eP2 eI eI)) (EA.cons (EC.prj (eb := eI) (g := fun w => w.2) (fun _ => rfl) (EC.varF (ea := (eP2 eI eI)) (v := pair) rfl)) (EA.cons (EC.prj (eb := eI) (g := fun w => w.1) (fun _ => rfl) (EC.varF (ea := (eP2 eI eI)) (v := pair) rfl)) EA.nil)) (fun w => (w.1, w.2.1)) (fun _ => rfl) (fun _ => Nat.le_of_ble_eq_true rfl))) (EA.cons (EC.dyn (EC.tup (eb := (eP3 eI eI eI)) (EA.cons (EC.prj (eb := eI) (g := fun w => w.1) (fun _ => rfl) (EC.varF (ea := (eP2 eI eI)) (v := pair) rfl)) (EA.cons (EC.prj (eb := eI) (g := fun w => w.2) (fun _ => rfl) (EC.varF (ea := (eP2 eI eI)) (v := pair) rfl)) (EA.cons (EC.prj (eb := eI) (g := fun w => w.2) (fun _ => rfl) (EC.varF (ea := (eP2 eI eI)) (v := pair) rfl)) EA.nil))) (fun w => (w.1, w.2.1, w.2.2.1)) (fun _ => rfl) (fun _ => Nat.le_of_ble_eq_true rfl))) (EA.cons (EC.dyn (EC.tup (eb := (eP1 eI)) (EA.cons (EC.prj (eb := eI) (g := fun w => w.1) (fun _ => rfl) (EC.varF (ea := (eP2 eI eI)) (v := pair) rfl)) EA.nil) (fun w => w.1) (fun _ => rfl) (fun _ => Nat.le_of_ble_eq_true rfl))) (EA.cons (EC.dyn (EC.con (ea := eN) (v := ()) rfl)) (EA.cons (EC.dyn (EC.con (ea := eS) (v := (Str.ofString "01")) rfl)) (EA.cons (EC.dyn (EC.con (ea := eI) (v := 5) rfl)) (EA.cons (EC.dyn (EC.tup (eb := (eP2 eB eI)) (EA.cons (EC.con (ea := eB) (v := true) rfl) (EA.cons (EC.prj (eb := eI) (g := fun w => w.2) (fun _ => rfl) (EC.varF (ea := (eP2 eI eI)) (v := pair) rfl)) EA.nil)) (fun w => (w.1, w.2.1)) (fun _ => rfl) (fun _ => Nat.le_of_ble_eq_true rfl))) EA.nil))))))) (fun w => [w.1, w.2.1, w.2.2.1, w.2.2.2.1, w.2.2.2.2.1, w.2.2.2.2.2.1, w.2.2.2.2.2.2.1]) (fun _ => rfl) (fun _ => Nat.le_of_ble_eq_true rfl)))) rfl (fun _ => rfl) fun others => (KN.seq (KN.asgE (L' := fun (others : List D) => [some (eI room, false), some ((eL (eP2 eI eI)) base, false), some (eI at_, false), some ((eP2 eI eI) pair, false), some ((eL eD) tables, true), some ((eL eD) others, true), none, none]) (EO.bin (EC.catL (EC.varT (ea := (eL eD)) (v := others) rfl) (EC.lst (eb := eD) (EA.cons (EC.dyn (EC.tup (eb := (eP2 eI eN)) (EA.cons (EC.prj (eb := eI) (g := fun w => w.1) (fun _ => rfl) (EC.varF (ea := (eP2 eI eI)) (v := pair) rfl)) (EA.cons (EC.con (ea := eN) (v := ()) rfl) EA.nil)) (fun w => (w.1, w.2.1)) (fun _ => rfl) (fun _ => Nat.le_of_ble_eq_true rfl))) (EA.cons (EC.dyn (EC.lst (eb := eI) (EA.cons (EC.prj (eb := eI) (g := fun w => w.1) (fun _ => rfl) (EC.varF (ea := (eP2 eI eI)) (v := pair) rfl)) (EA.cons (EC.prj (eb := eI) (g := fun w => w.1) (fun _ => rfl) (EC.varF (ea := (eP2 eI eI)) (v := pair) rfl)) EA.nil)) (fun w => [w.1, w.2.1]) (fun _ => rfl) (fun _ => Nat.le_of_ble_eq_true rfl))) (EA.cons (EC.dyn (EC.tup (eb := (eP2 eI eI)) (EA.cons (EC.prj (eb := eI) (g := fun w => w.2) (fun _ => rfl) (EC.varF (ea := (eP2 eI eI)) (v := pair) rfl)) (EA.cons (EC.prj (eb := eI) (g := fun w => w.2) (fun _ => rfl) (EC.varF (ea := (eP2 eI eI)) (v := pair) rfl)) EA.nil)) (fun w => (w.1, w.2.1)) (fun _ => rfl) (fun _ => Nat.le_of_ble_eq_true rfl))) (EA.cons (EC.dyn (EC.tup (eb := (eP2 eI eI)) (EA.cons (EC.con (ea := eI) (v := 0) rfl) (EA.cons (EC.varF (ea := eI) (v := room) rfl) EA.nil)) (fun w => (w.1, w.2.1)) (fun _ => rfl) (fun _ => Nat.le_of_ble_eq_true rfl))) (EA.cons (EC.dyn (EC.tup (eb := (eP2 eI eI)) (EA.cons (EC.con (ea := eI) (v := 0) rfl) (EA.cons (EC.add (EC.varF (ea := eI) (v := room) rfl) (EC.con (ea := eI) (v := 1) rfl)) EA.nil)) (fun w => (w.1, w.2.1)) (fun _ => rfl) (fun _ => Nat.le_of_ble_eq_true rfl))) (EA.cons (EC.dyn (EC.tup (eb := (eP2 eI eI)) (EA.cons (EC.neg (EC.con (ea := eI) (v := 1) rfl)) (EA.cons (EC.varF (ea := eI) (v := room) rfl) EA.nil)) (fun w => (w.1, w.2.1)) (fun _ => rfl) (fun _ => Nat.le_of_ble_eq_true rfl))) EA.nil)))))) (fun w => [w.1, w.2.1, w.2.2.1, w.2.2.2.1, w.2.2.2.2.1, w.2.2.2.2.2.1]) (fun _ => rfl) (fun _ => Nat.le_of_ble_eq_true rfl)))) rfl (fun _ => rfl) fun others => (KN.seq (KN.for_V (Lf := fun (tables : (List D)) => [some (eI room, false), some ((eL (eP2 eI eI)) base, false), some (eI at_, false), some ((eP2 eI eI) pair, false), some ((eL eD) tables, true), none, none, none]) (x0 := tables) (i := 5) (L' := fun (tables : (List D)) => [some (eI room, false), some ((eL (eP2 eI eI)) base, false), some (eI at_, false), some ((eP2 eI eI) pair, false), some ((eL eD) tables, true), some ((eL eD) others, true), none, none]) rfl rfl rfl (IT.l (EC.varT (ea := (eL eD)) (v := others) rfl)) (Le.keep (Le.keep (Le.keep (Le.keep (Le.keep (Le.drop (Le.drop (Le.drop Le.nil)))))))) (fun _ => TB.name) rfl (fun _ => rfl) (fun tables other => (KN.app (L' := fun (tables : List D) => [some (eI room, false), some ((eL (eP2 eI eI)) base, false), some (eI at_, false), some ((eP2 eI eI) pair, false), some ((eL eD) tables, true), none, some (other, false), none]) (xs := tables) (ea := eD) (EC.dyn (EC.catL (EC.catL (EC.as (eb := (eL eD)) (v := fun w => w.map (eP2 eI eI)) (EC.slg2 (.inl fun _ => rfl) (EC.varF (ea := (eL (eP2 eI eI))) (v := base) rfl) rfl (EC.varF (ea := eI) (v := at_) rfl)) fun w => by simp [eL, eT]) (EC.lst (eb := eD) (EA.cons (EC.varF (ea := eD) (v := other) rfl) EA.nil) (fun w => [w.1]) (fun _ => rfl) (fun _ => Nat.le_of_ble_eq_true rfl))) (EC.as (eb := (eL eD)) (v := fun w => w.map (eP2 eI eI)) (EC.slg1 (.inl fun _ => rfl) (EC.varF (ea := (eL (eP2 eI eI))) (v := base) rfl) rfl (EC.add (EC.varF (ea := eI) (v := at_) rfl) (EC.con (ea := eI) (v := 1) rfl))) fun w => by simp [eL, eT]))) rfl rfl (fun _ => rfl) fun tables => (KN.endL (x := tables) (Le.keep (Le.keep (Le.keep (Le.keep (Le.keep (Le.drop (Le.drop (Le.drop Le.nil))))))))))) fun tables => (KN.retv (ea := (eL eD)) (v := tables) (own := true) rfl RT.f rfl))))))))))))))))

def sf__law_squeezes (size : Int) (start_ : D) (dry : D) (spill : D) (other : Int) : R (List D) :=
  R.ok ([((eP1 eS) (Str.ofString "dry")), ((eL eS) ([(Str.ofString "dry")] : List Str)), ((eP2 eS eI) ((Str.ofString "dry"), 0)), ((eP1 eS) (Str.ofString "flood")), ((eL eS) ([(Str.ofString "flood")] : List Str)), ((eP2 eS eI) ((Str.ofString "flood"), 0)), (D.str (Str.ofString "dry")), D.non, (D.int 5), ((eL eI) ([] : List Int)), (eP0 ()), ((eL (eL eS)) ([([(Str.ofString "dry")] : List Str)] : List (List Str)))] : List D) >>= fun papers => catR papers ([((eP1 eS) (Str.ofString "wet")), ((eP4 eS eD eD eD) ((Str.ofString "meet"), start_, dry, spill)), ((eL eD) ([(D.str (Str.ofString "meet")), start_, dry, spill] : List D)), ((eP3 eS eD eD) ((Str.ofString "meet"), start_, dry))] : List D) >>= fun papers => orBad (unI dry) >>= fun z2' => orBad (unI dry) >>= fun z3' => orBad (unI spill) >>= fun z4' => catR papers ([((eP4 eS eD eI eD) ((Str.ofString "meet"), start_, (z2' - 1), spill)), ((eP4 eS eD eI eD) ((Str.ofString "meet"), start_, (z3' + 1), spill)), ((eP4 eS eD eD eI) ((Str.ofString "meet"), start_, dry, (z4' - 1)))] : List D) >>= fun papers => orBad (unI spill) >>= fun z6' => orBad (unI start_) >>= fun z7' => fmodR (z7' + 1) size >>= fun z8' => catR papers ([((eP4 eS eD eD eI) ((Str.ofString "meet"), start_, dry, (z6' + 1))), ((eP4 eS eI eD eD) ((Str.ofString "meet"), z8', dry, spill))] : List D) >>= fun papers => catR papers ([((eP4 eS eI eD eD) ((Str.ofString "meet"), other, spill, dry)), ((eP5 eS eD eD eD eI) ((Str.ofString "meet"), start_, dry, spill, 0)), ((eP4 eS eI eD eD) ((Str.ofString "meet"), size, dry, spill))] : List D) >>= fun papers => orBad (unI start_) >>= fun z11' => catR papers ([((eP4 eS eI eD eD) ((Str.ofString "meet"), (-1), dry, spill)), ((eP4 eS eI eD eD) ((Str.ofString "meet"), (z11' - size), dry, spill)), ((eP4 eS eD eI eI) ((Str.ofString "meet"), start_, (size + 1), 0))] : List D) >>= fun papers => catR papers ([((eP4 eS eD eI eI) ((Str.ofString "meet"), start_, size, 0)), ((eP4 eS eD eI eI) ((Str.ofString "meet"), start_, 0, size)), ((eP4 eS eD eD eI) ((Str.ofString "meet"), start_, dry, (-1)))] : List D) >>= fun papers => catR papers ([((eP4 eS eB eD eD) ((Str.ofString "meet"), true, dry, spill)), ((eP4 eS eD eN eD) ((Str.ofString "meet"), start_, (), spill)), ((eP4 eS eD eD eS) ((Str.ofString "meet"), start_, dry, (Str.ofString "0")))] : List D) >>= fun papers => catR papers ([((eP4 eI eD eD eD) (0, start_, dry, spill)), ((eP4 eS eD eD eD) ((Str.ofString "meets"), start_, dry, spill)), ((eP4 eS (eL eD) eD eD) ((Str.ofString "meet"), ([start_] : List D), dry, spill))] : List D) >>= fun z15' => R.ok z15'
theorem S__law_squeezes (k : Nat) (size : Int) (start_ : D) (dry : D) (spill : D) (other : Int) : FnR (F (k + 1) 34) [eI size, start_, dry, spill, eI other] (sf__law_squeezes size start_ dry spill other) (eL eD) true :=
  FnR.def_ (np := 5) (n := 6) (b := b__law_squeezes) (k := k + 0) rfl rfl (show KN (F (k + 0)) FU (QF (eL eD) true) [some (eI size, false), some (start_, false), some (dry, false), some (spill, false), some (eI other, false), none] (sf__law_squeezes size start_ dry spill other) [b__law_squeezes] from (KN.seq (KN.asgP (L' := fun (papers : List D) => [some (eI size, false), some (start_, false), some (dry, false), some (spill, false), some (eI other, false), some ((eL eD) papers, true)]) (EO.lst (EC.lst (eb := eD) (EA.cons (EC.dyn (EC.tup (eb := (eP1 eS)) (EA.cons (EC.con (ea := eS) (v := (Str.ofString "dry")) rfl) EA.nil) (fun w => w.1) (fun _ => rfl) (fun _ => Nat.le_of_ble_eq_true rfl))) (EA.cons (EC.dyn (EC.lst (eb := eS) (EA.cons (EC.con (ea := eS) (v := (Str.ofString "dry")) rfl) EA.nil) (fun w => [w.1]) (fun _ => rfl) (fun _ => Nat.le_of_ble_eq_true rfl))) (EA.cons (EC.dyn (EC.tup (eb := (eP2 eS eI)) (EA.cons (EC.con (ea := eS) (v := (Str.ofString "dry")) rfl) (EA.cons (EC.con (ea := eI) (v := 0) rfl) EA.nil)) (fun w => (w.1, w.2.1)) (fun _ => rfl) (fun _ => Nat.le_of_ble_eq_true rfl))) (EA.cons (EC.dyn (EC.tup (eb := (eP1 eS)) (EA.cons (EC.con (ea := eS) (v := (Str.ofString "flood")) rfl) EA.nil) (fun w => w.1) (fun _ => rfl) (fun _ => Nat.le_of_ble_eq_true rfl))) (EA.cons (EC.dyn (EC.lst (eb := eS) (EA.cons (EC.con (ea := eS) (v := (Str.ofString "flood")) rfl) EA.nil) (fun w => [w.1]) (fun _ => rfl) (fun _ => Nat.le_of_ble_eq_true rfl))) (EA.cons (EC.dyn (EC.tup (eb := (eP2 eS eI)) (EA.cons (EC.con (ea := eS) (v := (Str.ofString "flood")) rfl) (EA.cons (EC.con (ea := eI) (v := 0) rfl) EA.nil)) (fun w => (w.1, w.2.1)) (fun _ => rfl) (fun _ => Nat.le_of_ble_eq_true rfl))) (EA.cons (EC.dyn (EC.con (ea := eS) (v := (Str.ofString "dry")) rfl)) (EA.cons (EC.dyn (EC.con (ea := eN) (v := ()) rfl)) (EA.cons (EC.dyn (EC.con (ea := eI) (v := 5) rfl)) (EA.cons (EC.dyn (EC.lst (eb := eI) EA.nil (fun w => []) (fun _ => rfl) (fun _ => Nat.le_of_ble_eq_true rfl))) (EA.cons (EC.dyn (EC.tup (eb := eP0) EA.nil (fun w => ()) (fun _ => rfl) (fun _ => Nat.le_of_ble_eq_true rfl))) (EA.cons (EC.dyn (EC.lst (eb := (eL eS)) (EA.cons (EC.lst (eb := eS) (EA.cons (EC.con (ea := eS) (v := (Str.ofString "dry")) rfl) EA.nil) (fun w => [w.1]) (fun _ => rfl) (fun _ => Nat.le_of_ble_eq_true rfl)) EA.nil) (fun w => [w.1]) (fun _ => rfl) (fun _ => Nat.le_of_ble_eq_true rfl))) EA.nil)))))))))))) (fun w => [w.1, w.2.1, w.2.2.1, w.2.2.2.1, w.2.2.2.2.1, w.2.2.2.2.2.1, w.2.2.2.2.2.2.1, w.2.2.2.2.2.2.2.1, w.2.2.2.2.2.2.2.2.1, w.2.2.2.2.2.2.2.2.2.1, w.2.2.2.2.2.2.2.2.2.2.1, w.2.2.2.2.2.2.2.2.2.2.2.1]) (fun _ => rfl) (fun _ => Nat.le_of_ble_eq_true rfl))) rfl (fun _ => rfl) fun papers => (KN.seq (KN.asgE (L' := fun (papers : List D) => [some (eI size, false), some (start_, false), some (dry, false), some (spill, false), some (eI other, false), some ((eL eD) papers, true)]) (EO.bin (EC.catL (EC.varT (ea := (eL eD)) (v := papers) rfl) (EC.lst (eb := eD) (EA.cons (EC.dyn (EC.tup (eb := (eP1 eS)) (EA.cons (EC.con (ea := eS) (v := (Str.ofString "wet")) rfl) EA.nil) (fun w => w.1) (fun _ => rfl) (fun _ => Nat.le_of_ble_eq_true rfl))) (EA.cons (EC.dyn (EC.tup (eb := (eP4 eS eD eD eD)) (EA.cons (EC.con (ea := eS) (v := (Str.ofString "meet")) rfl) (EA.cons (EC.varF (ea := eD) (v := start_) rfl) (EA.cons (EC.varF (ea := eD) (v := dry) rfl) (EA.cons (EC.varF (ea := eD) (v := spill) rfl) EA.nil)))) (fun w => (w.1, w.2.1, w.2.2.1, w.2.2.2.1)) (fun _ => rfl) (fun _ => Nat.le_of_ble_eq_true rfl))) (EA.cons (EC.dyn (EC.lst (eb := eD) (EA.cons (EC.dyn (EC.con (ea := eS) (v := (Str.ofString "meet")) rfl)) (EA.cons (EC.varF (ea := eD) (v := start_) rfl) (EA.cons (EC.varF (ea := eD) (v := dry) rfl) (EA.cons (EC.varF (ea := eD) (v := spill) rfl) EA.nil)))) (fun w => [w.1, w.2.1, w.2.2.1, w.2.2.2.1]) (fun _ => rfl) (fun _ => Nat.le_of_ble_eq_true rfl))) (EA.cons (EC.dyn (EC.tup (eb := (eP3 eS eD eD)) (EA.cons (EC.con (ea := eS) (v := (Str.ofString "meet")) rfl) (EA.cons (EC.varF (ea := eD) (v := start_) rfl) (EA.cons (EC.varF (ea := eD) (v := dry) rfl) EA.nil))) (fun w => (w.1, w.2.1, w.2.2.1)) (fun _ => rfl) (fun _ => Nat.le_of_ble_eq_true rfl))) EA.nil)))) (fun w => [w.1, w.2.1, w.2.2.1, w.2.2.2.1]) (fun _ => rfl) (fun _ => Nat.le_of_ble_eq_true rfl)))) rfl (fun _ => rfl) fun papers => (KN.seq (KN.asgE (L' := fun (papers : List D) => [some (eI size, false), some (start_, false), some (dry, false), some (spill, false), some (eI other, false), some ((eL eD) papers, true)]) (EO.bin (EC.catL (EC.varT (ea := (eL eD)) (v := papers) rfl) (EC.lst (eb := eD) (EA.cons (EC.dyn (EC.tup (eb := (eP4 eS eD eI eD)) (EA.cons (EC.con (ea := eS) (v := (Str.ofString "meet")) rfl) (EA.cons (EC.varF (ea := eD) (v := start_) rfl) (EA.cons (EC.sub (EC.un (ea := eD) (eb := eI) (un := unI) (EC.varF (ea := eD) (v := dry) rfl) unI_ok) (EC.con (ea := eI) (v := 1) rfl)) (EA.cons (EC.varF (ea := eD) (v := spill) rfl) EA.nil)))) (fun w => (w.1, w.2.1, w.2.2.1, w.2.2.2.1)) (fun _ => rfl) (fun _ => Nat.le_of_ble_eq_true rfl))) (EA.cons (EC.dyn (EC.tup (eb := (eP4 eS eD eI eD)) (EA.cons (EC.con (ea := eS) (v := (Str.ofString "meet")) rfl) (EA.cons (EC.varF (ea := eD) (v := start_) rfl) (EA.cons (EC.add (EC.un (ea := eD) (eb := eI) (un := unI) (EC.varF (ea := eD) (v := dry) rfl) unI_ok) (EC.con (ea := eI) (v := 1) rfl)) (EA.cons (EC.varF (ea := eD) (v := spill) rfl) EA.nil)))) (fun w => (w.1, w.2.1, w.2.2.1, w.2.2.2.1)) (fun _ => rfl) (fun _ => Nat.le_of_ble_eq_true rfl))) (EA.cons (EC.dyn (EC.tup (eb := (eP4 eS eD eD eI)) (EA.cons (EC.con (ea := eS) (v := (Str.ofString "meet")) rfl) (EA.cons (EC.varF (ea := eD) (v := start_) rfl) (EA.cons (EC.varF (ea := eD) (v := dry) rfl) (EA.cons (EC.sub (EC.un (ea := eD) (eb := eI) (un := unI) (EC.varF (ea := eD) (v := spill) rfl) unI_ok) (EC.con (ea := eI) (v := 1) rfl)) EA.nil)))) (fun w => (w.1, w.2.1, w.2.2.1, w.2.2.2.1)) (fun _ => rfl) (fun _ => Nat.le_of_ble_eq_true rfl))) EA.nil))) (fun w => [w.1, w.2.1, w.2.2.1]) (fun _ => rfl) (fun _ => Nat.le_of_ble_eq_true rfl)))) rfl (fun _ => rfl) fun papers => (KN.seq (KN.asgE (L' := fun (papers : List D) => [some (eI size, false), some (start_, false), some (dry, false), some (spill, false), some (eI other, false), some ((eL eD) papers, true)]) (EO.bin (EC.catL (EC.varT (ea := (eL eD)) (v := papers) rfl) (EC.lst (eb := eD) (EA.cons (EC.dyn (EC.tup (eb := (eP4 eS eD eD eI)) (EA.cons (EC.con (ea := eS) (v := (Str.ofString "meet")) rfl) (EA.cons (EC.varF (ea := eD) (v := start_) rfl) (EA.cons (EC.varF (ea := eD) (v := dry) rfl) (EA.cons (EC.add (EC.un (ea := eD) (eb := eI) (un := unI) (EC.varF (ea := eD) (v := spill) rfl) unI_ok) (EC.con (ea := eI) (v := 1) rfl)) EA.nil)))) (fun w => (w.1, w.2.1, w.2.2.1, w.2.2.2.1)) (fun _ => rfl) (fun _ => Nat.le_of_ble_eq_true rfl))) (EA.cons (EC.dyn (EC.tup (eb := (eP4 eS eI eD eD)) (EA.cons (EC.con (ea := eS) (v := (Str.ofString "meet")) rfl) (EA.cons (EC.mod (EC.bf1 (eb := eI) (g := fun x => x) (fun _ => rfl) (EC.add (EC.un (ea := eD) (eb := eI) (un := unI) (EC.varF (ea := eD) (v := start_) rfl) unI_ok) (EC.con (ea := eI) (v := 1) rfl))) (EC.varF (ea := eI) (v := size) rfl)) (EA.cons (EC.varF (ea := eD) (v := dry) rfl) (EA.cons (EC.varF (ea := eD) (v := spill) rfl) EA.nil)))) (fun w => (w.1, w.2.1, w.2.2.1, w.2.2.2.1)) (fun _ => rfl) (fun _ => Nat.le_of_ble_eq_true rfl))) EA.nil)) (fun w => [w.1, w.2.1]) (fun _ => rfl) (fun _ => Nat.le_of_ble_eq_true rfl)))) rfl (fun _ => rfl) fun papers => (KN.seq (KN.asgE (L' := fun (papers : List D) => [some (eI size, false), some (start_, false), some (dry, false), some (spill, false), some (eI other, false), some ((eL eD) papers, true)]) (EO.bin (EC.catL (EC.varT (ea := (eL eD)) (v := papers) rfl) (EC.lst (eb := eD) (EA.cons (EC.dyn (EC.tup (eb := (eP4 eS eI eD eD)) (EA.cons (EC.con (ea := eS) (v := (Str.ofString "meet")) rfl) (EA.cons (EC.varF (ea := eI) (v := other) rfl) (EA.cons (EC.varF (ea := eD) (v := spill) rfl) (EA.cons (EC.varF (ea := eD) (v := dry) rfl) EA.nil)))) (fun w => (w.1, w.2.1, w.2.2.1, w.2.2.2.1)) (fun _ => rfl) (fun _ => Nat.le_of_ble_eq_true rfl))) (EA.cons (EC.dyn (EC.tup (eb := (eP5 eS eD eD eD eI)) (EA.cons (EC.con (ea := eS) (v := (Str.ofString "meet")) rfl) (EA.cons (EC.varF (ea := eD) (v := start_) rfl) (EA.cons (EC.varF (ea := eD) (v := dry) rfl) (EA.cons (EC.varF (ea := eD) (v := spill) rfl) (EA.cons (EC.con (ea := eI) (v := 0) rfl) EA.nil))))) (fun w => (w.1, w.2.1, w.2.2.1, w.2.2.2.1, w.2.2.2.2.1)) (fun _ => rfl) (fun _ => Nat.le_of_ble_eq_true rfl))) (EA.cons (EC.dyn (EC.tup (eb := (eP4 eS eI eD eD)) (EA.cons (EC.con (ea := eS) (v := (Str.ofString "meet")) rfl) (EA.cons (EC.varF (ea := eI) (v := size) rfl) (EA.cons (EC.varF (ea := eD) (v := dry) rfl) (EA.cons (EC.varF (ea := eD) (v := spill) rfl) EA.nil)))) (fun w => (w.1, w.2.1, w.2.2.1, w.2.2.2.1)) (fun _ => rfl) (fun _ => Nat.le_of_ble_eq_true rfl))) EA.nil))) (fun w => [w.1, w.2.1, w.2.2.1]) (fun _ => rfl) (fun _ => Nat.le_of_ble_eq_true rfl)))) rfl (fun _ => rfl) fun papers => (KN.seq (KN.asgE (L' := fun (papers : List D) => [some (eI size, false), some (start_, false), some (dry, false), some (spill, false), some (eI other, false), some ((eL eD) papers, true)]) (EO.bin (EC.catL (EC.varT (ea := (eL eD)) (v := papers) rfl) (EC.lst (eb := eD) (EA.cons (EC.dyn (EC.tup (eb := (eP4 eS eI eD eD)) (EA.cons (EC.con (ea := eS) (v := (Str.ofString "meet")) rfl) (EA.cons (EC.neg (EC.con (ea := eI) (v := 1) rfl)) (EA.cons (EC.varF (ea := eD) (v := dry) rfl) (EA.cons (EC.varF (ea := eD) (v := spill) rfl) EA.nil)))) (fun w => (w.1, w.2.1, w.2.2.1, w.2.2.2.1)) (fun _ => rfl) (fun _ => Nat.le_of_ble_eq_true rfl))) (EA.cons (EC.dyn (EC.tup (eb := (eP4 eS eI eD eD)) (EA.cons (EC.con (ea := eS) (v := (Str.ofString "meet")) rfl) (EA.cons (EC.sub (EC.un (ea := eD) (eb := eI) (un := unI) (EC.varF (ea := eD) (v := start_) rfl) unI_ok) (EC.varF (ea := eI) (v := size) rfl)) (EA.cons (EC.varF (ea := eD) (v := dry) rfl) (EA.cons (EC.varF (ea := eD) (v := spill) rfl) EA.nil)))) (fun w => (w.1, w.2.1, w.2.2.1, w.2.2.2.1)) (fun _ => rfl) (fun _ => Nat.le_of_ble_eq_true rfl))) (EA.cons (EC.dyn (EC.tup (eb := (eP4 eS eD eI eI)) (EA.cons (EC.con (ea := eS) (v := (Str.ofString "meet")) rfl) (EA.cons (EC.varF (ea := eD) (v := start_) rfl) (EA.cons (EC.add (EC.varF (ea := eI) (v := size) rfl) (EC.con (ea := eI) (v := 1) rfl)) (EA.cons (EC.con (ea := eI) (v := 0) rfl) EA.nil)))) (fun w => (w.1, w.2.1, w.2.2.1, w.2.2.2.1)) (fun _ => rfl) (fun _ => Nat.le_of_ble_eq_true rfl))) EA.nil))) (fun w => [w.1, w.2.1, w.2.2.1]) (fun _ => rfl) (fun _ => Nat.le_of_ble_eq_true rfl)))) rfl (fun _ => rfl) fun papers => (KN.seq (KN.asgE (L' := fun (papers : List D) => [some (eI size, false), some (start_, false), some (dry, false), some (spill, false), some (eI other, false), some ((eL eD) papers, true)]) (EO.bin (EC.catL (EC.varT (ea := (eL eD)) (v := papers) rfl) (EC.lst (eb := eD) (EA.cons (EC.dyn (EC.tup (eb := (eP4 eS eD eI eI)) (EA.cons (EC.con (ea := eS) (v := (Str.ofString "meet")) rfl) (EA.cons (EC.varF (ea := eD) (v := start_) rfl) (EA.cons (EC.varF (ea := eI) (v := size) rfl) (EA.cons (EC.con (ea := eI) (v := 0) rfl) EA.nil)))) (fun w => (w.1, w.2.1, w.2.2.1, w.2.2.2.1)) (fun _ => rfl) (fun _ => Nat.le_of_ble_eq_true rfl))) (EA.cons (EC.dyn (EC.tup (eb := (eP4 eS eD eI eI)) (EA.cons (EC.con (ea := eS) (v := (Str.ofString "meet")) rfl) (EA.cons (EC.varF (ea := eD) (v := start_) rfl) (EA.cons (EC.con (ea := eI) (v := 0) rfl) (EA.cons (EC.varF (ea := eI) (v := size) rfl) EA.nil)))) (fun w => (w.1, w.2.1, w.2.2.1, w.2.2.2.1)) (fun _ => rfl) (fun _ => Nat.le_of_ble_eq_true rfl))) (EA.cons (EC.dyn (EC.tup (eb := (eP4 eS eD eD eI)) (EA.cons (EC.con (ea := eS) (v := (Str.ofString "meet")) rfl) (EA.cons (EC.varF (ea := eD) (v := start_) rfl) (EA.cons (EC.varF (ea := eD) (v := dry) rfl) (EA.cons (EC.neg (EC.con (ea := eI) (v := 1) rfl)) EA.nil)))) (fun w => (w.1, w.2.1, w.2.2.1, w.2.2.2.1)) (fun _ => rfl) (fun _ => Nat.le_of_ble_eq_true rfl))) EA.nil))) (fun w => [w.1, w.2.1, w.2.2.1]) (fun _ => rfl) (fun _ => Nat.le_of_ble_eq_true rfl)))) rfl (fun _ => rfl) fun papers => (KN.seq (KN.asgE (L' := fun (papers : List D) => [some (eI size, false), some (start_, false), some (dry, false), some (spill, false), some (eI other, false), some ((eL eD) papers, true)]) (EO.bin (EC.catL (EC.varT (ea := (eL eD)) (v := papers) rfl) (EC.lst (eb := eD) (EA.cons (EC.dyn (EC.tup (eb := (eP4 eS eB eD eD)) (EA.cons (EC.con (ea := eS) (v := (Str.ofString "meet")) rfl) (EA.cons (EC.con (ea := eB) (v := true) rfl) (EA.cons (EC.varF (ea := eD) (v := dry) rfl) (EA.cons (EC.varF (ea := eD) (v := spill) rfl) EA.nil)))) (fun w => (w.1, w.2.1, w.2.2.1, w.2.2.2.1)) (fun _ => rfl) (fun _ => Nat.le_of_ble_eq_true rfl))) (EA.cons (EC.dyn (EC.tup (eb := (eP4 eS eD eN eD)) (EA.cons (EC.con (ea := eS) (v := (Str.ofString "meet")) rfl) (EA.cons (EC.varF (ea := eD) (v := start_) rfl) (EA.cons (EC.con (ea := eN) (v := ()) rfl) (EA.cons (EC.varF (ea := eD) (v := spill) rfl) EA.nil)))) (fun w => (w.1, w.2.1, w.2.2.1, w.2.2.2.1)) (fun _ => rfl) (fun _ => Nat.le_of_ble_eq_true rfl))) (EA.cons (EC.dyn (EC.tup (eb := (eP4 eS eD eD eS)) (EA.cons (EC.con (ea := eS) (v := (Str.ofString "meet")) rfl) (EA.cons (EC.varF (ea := eD) (v := start_) rfl) (EA.cons (EC.varF (ea := eD) (v := dry) rfl) (EA.cons (EC.con (ea := eS) (v := (Str.ofString "0")) rfl) EA.nil)))) (fun w => (w.1, w.2.1, w.2.2.1, w.2.2.2.1)) (fun _ => rfl) (fun _ => Nat.le_of_ble_eq_true rfl))) EA.nil))) (fun w => [w.1, w.2.1, w.2.2.1]) (fun _ => rfl) (fun _ => Nat.le_of_ble_eq_true rfl)))) rfl (fun _ => rfl) fun papers => (KN.ret (fun _ h => nomatch h) (EO.bin (EC.catL (EC.varT (ea := (eL eD)) (v := papers) rfl) (EC.lst (eb := eD) (EA.cons (EC.dyn (EC.tup (eb := (eP4 eI eD eD eD)) (EA.cons (EC.con (ea := eI) (v := 0) rfl) (EA.cons (EC.varF (ea := eD) (v := start_) rfl) (EA.cons (EC.varF (ea := eD) (v := dry) rfl) (EA.cons (EC.varF (ea := eD) (v := spill) rfl) EA.nil)))) (fun w => (w.1, w.2.1, w.2.2.1, w.2.2.2.1)) (fun _ => rfl) (fun _ => Nat.le_of_ble_eq_true rfl))) (EA.cons (EC.dyn (EC.tup (eb := (eP4 eS eD eD eD)) (EA.cons (EC.con (ea := eS) (v := (Str.ofString "meets")) rfl) (EA.cons (EC.varF (ea := eD) (v := start_) rfl) (EA.cons (EC.varF (ea := eD) (v := dry) rfl) (EA.cons (EC.varF (ea := eD) (v := spill) rfl) EA.nil)))) (fun w => (w.1, w.2.1, w.2.2.1, w.2.2.2.1)) (fun _ => rfl) (fun _ => Nat.le_of_ble_eq_true rfl))) (EA.cons (EC.dyn (EC.tup (eb := (eP4 eS (eL eD) eD eD)) (EA.cons (EC.con (ea := eS) (v := (Str.ofString "meet")) rfl) (EA.cons (EC.lst (eb := eD) (EA.cons (EC.varF (ea := eD) (v := start_) rfl) EA.nil) (fun w => [w.1]) (fun _ => rfl) (fun _ => Nat.le_of_ble_eq_true rfl)) (EA.cons (EC.varF (ea := eD) (v := dry) rfl) (EA.cons (EC.varF (ea := eD) (v := spill) rfl) EA.nil)))) (fun w => (w.1, w.2.1, w.2.2.1, w.2.2.2.1)) (fun _ => rfl) (fun _ => Nat.le_of_ble_eq_true rfl))) EA.nil))) (fun w => [w.1, w.2.1, w.2.2.1]) (fun _ => rfl) (fun _ => Nat.le_of_ble_eq_true rfl)))) RT.f rfl))))))))))))))))))

def sf_is_pair (room : Int) (pair : D) : R Bool :=
  sf_is_row pair >>= fun z2' => (if (!z2') then R.ok true else lenR pair >>= fun z1' => R.ok (!decide (z1' = 2))) >>= fun z3' => if z3' then R.ok false else orBad (itF2 pair) >>= fun z4' => sf_is_within z4'.1 0 room >>= fun z7' => (if z7' then orBad (unI z4'.1) >>= fun z5' => sf_is_within z4'.2 z5' room >>= fun z6' => R.ok z6' else R.ok false) >>= fun z8' => R.ok z8'
theorem S_is_pair (k : Nat) (room : Int) (pair : D) : FnR (F (k + 3) 17) [eI room, pair] (sf_is_pair room pair) eB false :=
  FnR.def_ (np := 2) (n := 4) (b := b_is_pair) (k := k + 2) rfl rfl (show KN (F (k + 2)) FU (QF eB false) [some (eI room, false), some (pair, false), none, none] (sf_is_pair room pair) [b_is_pair] from (KN.seq (KN.ite (ET.or (ET.not (ET.bo (EC.call (eb := eB) (EA.cons (EC.varF (ea := eD) (v := pair) rfl) EA.nil) fun v => S_is_row (k + 1) v.1))) (ET.bo (EC.ne Pl.I (EC.bf1R (eb := eI) (g := lenR) lenR_ok (EC.varF (ea := eD) (v := pair) rfl)) (EC.con (ea := eI) (v := 2) rfl)))) rfl (KN.ret (fun _ h => nomatch h) (EO.of (EC.con (ea := eB) (v := false) rfl)) RT.f rfl) (KN.skip (KN.seq (KN.unpD (L' := fun (z4' : D × D) => [some (eI room, false), some (pair, false), some (z4'.1, false), some (z4'.2, false)]) IF.f2 (EC.varF (ea := eD) (v := pair) rfl) TB.d2 rfl (fun _ => rfl) fun z4' => (KN.ret (fun _ h => nomatch h) (EO.of (EC.and (EC.call (eb := eB) (EA.cons (EC.varF (ea := eD) (v := z4'.1) rfl) (EA.cons (EC.con (ea := eI) (v := 0) rfl) (EA.cons (EC.varF (ea := eI) (v := room) rfl) EA.nil))) fun v => S_is_within (k + 0) v.1 v.2.1 v.2.2.1) (EC.call (eb := eB) (EA.cons (EC.varF (ea := eD) (v := z4'.2) rfl) (EA.cons (EC.un (ea := eD) (eb := eI) (un := unI) (EC.varF (ea := eD) (v := z4'.1) rfl) unI_ok) (EA.cons (EC.varF (ea := eI) (v := room) rfl) EA.nil))) fun v => S_is_within (k + 0) v.1 v.2.1 v.2.2.1))) RT.f rfl)))))))

def lp_shows_band_0 (room : Int) (pair : D)  : R (LO Unit Bool) :=
  sf_is_pair room pair >>= fun z9' => if (!z9') then R.ok (LO.rt false) else R.ok (LO.nx ())
def lp_shows_band_1 (gate : Int) (table : D) (lows : List Int) (highs : List Int) (takes : List Int) (z14' : Int × D)  : R (LO Unit Bool) :=
  fmodR (z14'.1 + 1) (lows.length : Int) >>= fun z16' => ixR table z16' >>= fun z17' => orBad (itF2 z17') >>= fun z18' => ixR z14'.2 0 >>= fun z19' => orBad (unI z19') >>= fun z21' => atR lows z14'.1 >>= fun z20' => atR takes z14'.1 >>= fun z22' => orBad (unI z18'.1) >>= fun z23' => if (decide (((z21' + z20') - z22') < z23')) then R.ok (LO.rt false) else ixR z14'.2 1 >>= fun z24' => orBad (unI z24') >>= fun z26' => atR highs z14'.1 >>= fun z25' => atR takes z14'.1 >>= fun z27' => orBad (unI z18'.2) >>= fun z28' => if (decide (z28' < (((z26' + z25') - z27') - gate))) then R.ok (LO.rt false) else R.ok (LO.nx ())
def sf_shows_band (room : Int) (low : D) (high : D) (draws : D) (gate : Int) (table : D) : R Bool :=
  sf_check_band room low high draws gate >>= fun z2' => sf_is_row table >>= fun z4' => (if (!z4') then R.ok true else lenR table >>= fun z3' => R.ok (!decide (z3' = (z2'.1.length : Int)))) >>= fun z5' => if z5' then R.ok false else items table >>= fun z6' => forO (fun pair z8' => lp_shows_band_0 room pair ) z6' () >>= fun z11' => LO.k z11' (fun z8' => items table >>= fun z12' => forO (fun z14' z15' => lp_shows_band_1 gate table z2'.1 z2'.2.1 z2'.2.2 z14' ) (enumI z12') () >>= fun z42' => LO.k z42' (fun z15' => R.ok true) R.ok) R.ok
theorem S_shows_band (k : Nat) (room : Int) (low : D) (high : D) (draws : D) (gate : Int) (table : D) : FnR (F (k + 6) 18) [eI room, low, high, draws, eI gate, table] (sf_shows_band room low high draws gate table) eB false :=
  FnR.def_ (np := 6) (n := 13) (b := b_shows_band) (k := k + 5) rfl rfl (show KN (F (k + 5)) FU (QF eB false) [some (eI room, false), some (low, false), some (high, false), some (draws, false), some (eI gate, false), some (table, false), none, none, none, none, none, none, none] (sf_shows_band room low high draws gate table) [b_shows_band] from (KN.seq (KN.unp (L' := fun (z2' : (List Int) × (List Int) × (List Int)) => [some (eI room, false), some (low, false), some (high, false), some (draws, false), some (eI gate, false), some (table, false), some ((eT eI) z2'.1, false), some ((eT eI) z2'.2.1, false), some ((eT eI) z2'.2.2, false), none, none, none, none]) (EC.call (eb := (eP3 (eT eI) (eT eI) (eT eI))) (EA.cons (EC.varF (ea := eI) (v := room) rfl) (EA.cons (EC.varF (ea := eD) (v := low) rfl) (EA.cons (EC.varF (ea := eD) (v := high) rfl) (EA.cons (EC.varF (ea := eD) (v := draws) rfl) (EA.cons (EC.varF (ea := eI) (v := gate) rfl) EA.nil))))) fun v => S_check_band (k + 0) v.1 v.2.1 v.2.2.1 v.2.2.2.1 v.2.2.2.2.1) TB.names3 rfl (fun _ => rfl) fun z2' => (KN.seq (KN.ite (ET.or (ET.not (ET.bo (EC.call (eb := eB) (EA.cons (EC.varF (ea := eD) (v := table) rfl) EA.nil) fun v => S_is_row (k + 4) v.1))) (ET.bo (EC.ne Pl.I (EC.bf1R (eb := eI) (g := lenR) lenR_ok (EC.varF (ea := eD) (v := table) rfl)) (EC.lenT (EC.varF (ea := (eT eI)) (v := z2'.1) rfl))))) rfl (KN.ret (fun _ h => nomatch h) (EO.of (EC.con (ea := eB) (v := false) rfl)) RT.f rfl) (KN.skip (KN.seq (KN.forOV (ec := eB) (own := false) (Lf := fun (z8' : Unit) => [some (eI room, false), some (low, false), some (high, false), some (draws, false), some (eI gate, false), none, some ((eT eI) z2'.1, false), some ((eT eI) z2'.2.1, false), some ((eT eI) z2'.2.2, false), none, none, none, none]) (x0 := ()) (i := 5) (L' := fun (z8' : Unit) => [some (eI room, false), some (low, false), some (high, false), some (draws, false), some (eI gate, false), some (table, false), some ((eT eI) z2'.1, false), some ((eT eI) z2'.2.1, false), some ((eT eI) z2'.2.2, false), none, none, none, none]) rfl rfl rfl (IT.dy (EC.varF (ea := eD) (v := table) rfl)) (Le.keep (Le.keep (Le.keep (Le.keep (Le.keep (Le.drop (Le.keep (Le.keep (Le.keep (Le.drop (Le.drop (Le.drop (Le.drop Le.nil))))))))))))) (fun _ => TB.name) RT.f rfl (fun _ => rfl) (fun z8' pair => (KN.ite (ET.not (ET.bo (EC.call (eb := eB) (EA.cons (EC.varF (ea := eI) (v := room) rfl) (EA.cons (EC.varF (ea := eD) (v := pair) rfl) EA.nil)) fun v => S_is_pair (k + 2) v.1 v.2.1))) rfl (KN.ret (fun _ h => nomatch h) (EO.of (EC.con (ea := eB) (v := false) rfl)) RT.lo rfl) (KN.skip (KN.endLO (x := ()) (Le.keep (Le.keep (Le.keep (Le.keep (Le.keep (Le.drop (Le.keep (Le.keep (Le.keep (Le.drop (Le.drop (Le.drop (Le.drop Le.nil))))))))))))))))) fun z8' => (KN.seq (KN.forO (ec := eB) (own := false) (Lf := fun (z15' : Unit) => [some (eI room, false), some (low, false), some (high, false), some (draws, false), some (eI gate, false), some (table, false), some ((eT eI) z2'.1, false), some ((eT eI) z2'.2.1, false), some ((eT eI) z2'.2.2, false), none, none, none, none]) (x0 := ()) (fun _ => rfl) (IT.l (EC.enum (IT.dy (EC.varF (ea := eD) (v := table) rfl)))) (Le.keep (Le.keep (Le.keep (Le.keep (Le.keep (Le.keep (Le.keep (Le.keep (Le.keep (Le.drop (Le.drop (Le.drop (Le.drop Le.nil))))))))))))) (fun _ => TB.names2) RT.f rfl (fun z15' z14' => (KN.seq (KN.unpD (L' := fun (z31' : D × D) => [some (eI room, false), some (low, false), some (high, false), some (draws, false), some (eI gate, false), some (table, false), some ((eT eI) z2'.1, false), some ((eT eI) z2'.2.1, false), some ((eT eI) z2'.2.2, false), some (z14'.2, false), some (eI z14'.1, false), some (z31'.1, false), some (z31'.2, false)]) IF.f2 (EC.ixD (EC.varF (ea := eD) (v := table) rfl) (EC.mod (EC.add (EC.varF (ea := eI) (v := z14'.1) rfl) (EC.con (ea := eI) (v := 1) rfl)) (EC.lenT (EC.varF (ea := (eT eI)) (v := z2'.1) rfl)))) TB.d2 rfl (fun _ => rfl) fun z31' => (KN.seq (KN.ite (ET.bo (EC.lt (EC.sub (EC.add (EC.un (ea := eD) (eb := eI) (un := unI) (EC.ixD (EC.varF (ea := eD) (v := z14'.2) rfl) (EC.con (ea := eI) (v := 0) rfl)) unI_ok) (EC.ixT (EC.varF (ea := (eT eI)) (v := z2'.1) rfl) (EC.varF (ea := eI) (v := z14'.1) rfl))) (EC.ixT (EC.varF (ea := (eT eI)) (v := z2'.2.2) rfl) (EC.varF (ea := eI) (v := z14'.1) rfl))) (EC.un (ea := eD) (eb := eI) (un := unI) (EC.varF (ea := eD) (v := z31'.1) rfl) unI_ok))) rfl (KN.ret (fun _ h => nomatch h) (EO.of (EC.con (ea := eB) (v := false) rfl)) RT.lo rfl) (KN.skip (KN.ite (ET.bo (EC.gt (EC.sub (EC.sub (EC.add (EC.un (ea := eD) (eb := eI) (un := unI) (EC.ixD (EC.varF (ea := eD) (v := z14'.2) rfl) (EC.con (ea := eI) (v := 1) rfl)) unI_ok) (EC.ixT (EC.varF (ea := (eT eI)) (v := z2'.2.1) rfl) (EC.varF (ea := eI) (v := z14'.1) rfl))) (EC.ixT (EC.varF (ea := (eT eI)) (v := z2'.2.2) rfl) (EC.varF (ea := eI) (v := z14'.1) rfl))) (EC.varF (ea := eI) (v := gate) rfl)) (EC.un (ea := eD) (eb := eI) (un := unI) (EC.varF (ea := eD) (v := z31'.2) rfl) unI_ok))) rfl (KN.ret (fun _ h => nomatch h) (EO.of (EC.con (ea := eB) (v := false) rfl)) RT.lo rfl) (KN.skip (KN.endLO (x := ()) (Le.keep (Le.keep (Le.keep (Le.keep (Le.keep (Le.keep (Le.keep (Le.keep (Le.keep (Le.drop (Le.drop (Le.drop (Le.drop Le.nil)))))))))))))))))))))) fun z15' => (KN.ret (fun _ h => nomatch h) (EO.of (EC.con (ea := eB) (v := true) rfl)) RT.f rfl)))))))))))

def sf_shows_squeeze (room : Int) (low : D) (high : D) (draws : D) (gate : Int) (paper : D) : R Bool :=
  sf_check_band room low high draws gate >>= fun z2' => sf_dry_losses z2'.1 z2'.2.2 >>= fun dry => sf_flood_losses z2'.2.1 z2'.2.2 gate >>= fun flood => sf_is_row paper >>= fun z6' => (if (!z6') then R.ok true else lenR paper >>= fun z5' => R.ok (decide (z5' = 0))) >>= fun z7' => if z7' then R.ok false else ixR paper 0 >>= fun z8' => eqR z8' (D.str (Str.ofString "dry")) >>= fun z9' => if z9' then lenR paper >>= fun z10' => R.ok ((decide (z10' = 1)) && (decide (0 < dry.sum))) else ixR paper 0 >>= fun z11' => eqR z11' (D.str (Str.ofString "flood")) >>= fun z12' => if z12' then lenR paper >>= fun z13' => R.ok ((decide (z13' = 1)) && (decide (flood.sum < 0))) else ixR paper 0 >>= fun z15' => eqR z15' (D.str (Str.ofString "meet")) >>= fun z16' => (if (!z16') then R.ok true else lenR paper >>= fun z14' => R.ok (!decide (z14' = 4))) >>= fun z17' => if z17' then R.ok false else orBad (itF4 paper) >>= fun z18' => sf_is_within z18'.2.1 0 ((dry.length : Int) - 1) >>= fun z19' => if (!z19') then R.ok false else sf_is_within z18'.2.2.1 0 (dry.length : Int) >>= fun z21' => (if (!z21') then R.ok true else sf_is_within z18'.2.2.2 0 (dry.length : Int) >>= fun z20' => R.ok (!z20')) >>= fun z22' => if z22' then R.ok false else orBad (unI z18'.2.1) >>= fun z23' => orBad (unI z18'.2.2.1) >>= fun z24' => sf_sums_from dry z23' z24' >>= fun z25' => atR z25' (-1) >>= fun lost => orBad (unI z18'.2.1) >>= fun z27' => orBad (unI z18'.2.2.2) >>= fun z28' => sf_sums_from flood z27' z28' >>= fun z29' => atR z29' (-1) >>= fun z30' => R.ok (decide ((room + z30') < lost))
theorem S_shows_squeeze (k : Nat) (room : Int) (low : D) (high : D) (draws : D) (gate : Int) (paper : D) : FnR (F (k + 6) 20) [eI room, low, high, draws, eI gate, paper] (sf_shows_squeeze room low high draws gate paper) eB false :=
  FnR.def_ (np := 6) (n := 16) (b := b_shows_squeeze) (k := k + 5) rfl rfl (show KN (F (k + 5)) FU (QF eB false) [some (eI room, false), some (low, false), some (high, false), some (draws, false), some (eI gate, false), some (paper, false), none, none, none, none, none, none, none, none, none, none] (sf_shows_squeeze room low high draws gate paper) [b_shows_squeeze] from (KN.seq (KN.unp (L' := fun (z2' : (List Int) × (List Int) × (List Int)) => [some (eI room, false), some (low, false), some (high, false), some (draws, false), some (eI gate, false), some (paper, false), some ((eT eI) z2'.1, false), some ((eT eI) z2'.2.1, false), some ((eT eI) z2'.2.2, false), none, none, none, none, none, none, none]) (EC.call (eb := (eP3 (eT eI) (eT eI) (eT eI))) (EA.cons (EC.varF (ea := eI) (v := room) rfl) (EA.cons (EC.varF (ea := eD) (v := low) rfl) (EA.cons (EC.varF (ea := eD) (v := high) rfl) (EA.cons (EC.varF (ea := eD) (v := draws) rfl) (EA.cons (EC.varF (ea := eI) (v := gate) rfl) EA.nil))))) fun v => S_check_band (k + 0) v.1 v.2.1 v.2.2.1 v.2.2.2.1 v.2.2.2.2.1) TB.names3 rfl (fun _ => rfl) fun z2' => (KN.seq (KN.asgE (L' := fun (dry : List Int) => [some (eI room, false), some (low, false), some (high, false), some (draws, false), some (eI gate, false), some (paper, false), some ((eT eI) z2'.1, false), some ((eT eI) z2'.2.1, false), some ((eT eI) z2'.2.2, false), some ((eL eI) dry, true), none, none, none, none, none, none]) (EO.call (eb := (eL eI)) (EA.cons (EC.varF (ea := (eT eI)) (v := z2'.1) rfl) (EA.cons (EC.varF (ea := (eT eI)) (v := z2'.2.2) rfl) EA.nil)) fun v => S_dry_losses (k + 4) v.1 v.2.1) rfl (fun _ => rfl) fun dry => (KN.seq (KN.asgE (L' := fun (flood : List Int) => [some (eI room, false), some (low, false), some (high, false), some (draws, false), some (eI gate, false), some (paper, false), some ((eT eI) z2'.1, false), some ((eT eI) z2'.2.1, false), some ((eT eI) z2'.2.2, false), some ((eL eI) dry, true), some ((eL eI) flood, true), none, none, none, none, none]) (EO.call (eb := (eL eI)) (EA.cons (EC.varF (ea := (eT eI)) (v := z2'.2.1) rfl) (EA.cons (EC.varF (ea := (eT eI)) (v := z2'.2.2) rfl) (EA.cons (EC.varF (ea := eI) (v := gate) rfl) EA.nil))) fun v => S_flood_losses (k + 4) v.1 v.2.1 v.2.2.1) rfl (fun _ => rfl) fun flood => (KN.seq (KN.ite (ET.or (ET.not (ET.bo (EC.call (eb := eB) (EA.cons (EC.varF (ea := eD) (v := paper) rfl) EA.nil) fun v => S_is_row (k + 4) v.1))) (ET.bo (EC.eq Pl.I (EC.bf1R (eb := eI) (g := lenR) lenR_ok (EC.varF (ea := eD) (v := paper) rfl)) (EC.con (ea := eI) (v := 0) rfl)))) rfl (KN.ret (fun _ h => nomatch h) (EO.of (EC.con (ea := eB) (v := false) rfl)) RT.f rfl) (KN.skip (KN.seq (KN.ite (ET.bo (EC.eqd (EC.ixD (EC.varF (ea := eD) (v := paper) rfl) (EC.con (ea := eI) (v := 0) rfl)) (EC.con (ea := eS) (v := (Str.ofString "dry")) rfl))) rfl (KN.ret (fun _ h => nomatch h) (EO.of (EC.andP (EC.eq Pl.I (EC.bf1R (eb := eI) (g := lenR) lenR_ok (EC.varF (ea := eD) (v := paper) rfl)) (EC.con (ea := eI) (v := 1) rfl)) (EC.gt (EC.sumL (EC.varT (ea := (eL eI)) (v := dry) rfl)) (EC.con (ea := eI) (v := 0) rfl)))) RT.f rfl) (KN.skip (KN.seq (KN.ite (ET.bo (EC.eqd (EC.ixD (EC.varF (ea := eD) (v := paper) rfl) (EC.con (ea := eI) (v := 0) rfl)) (EC.con (ea := eS) (v := (Str.ofString "flood")) rfl))) rfl (KN.ret (fun _ h => nomatch h) (EO.of (EC.andP (EC.eq Pl.I (EC.bf1R (eb := eI) (g := lenR) lenR_ok (EC.varF (ea := eD) (v := paper) rfl)) (EC.con (ea := eI) (v := 1) rfl)) (EC.lt (EC.sumL (EC.varT (ea := (eL eI)) (v := flood) rfl)) (EC.con (ea := eI) (v := 0) rfl)))) RT.f rfl) (KN.skip (KN.seq (KN.ite (ET.or (ET.bo (EC.ned (EC.ixD (EC.varF (ea := eD) (v := paper) rfl) (EC.con (ea := eI) (v := 0) rfl)) (EC.con (ea := eS) (v := (Str.ofString "meet")) rfl))) (ET.bo (EC.ne Pl.I (EC.bf1R (eb := eI) (g := lenR) lenR_ok (EC.varF (ea := eD) (v := paper) rfl)) (EC.con (ea := eI) (v := 4) rfl)))) rfl (KN.ret (fun _ h => nomatch h) (EO.of (EC.con (ea := eB) (v := false) rfl)) RT.f rfl) (KN.skip (KN.seq (KN.unpD (L' := fun (z18' : D × D × D × D) => [some (eI room, false), some (low, false), some (high, false), some (draws, false), some (eI gate, false), some (paper, false), some ((eT eI) z2'.1, false), some ((eT eI) z2'.2.1, false), some ((eT eI) z2'.2.2, false), some ((eL eI) dry, true), some ((eL eI) flood, true), some (z18'.1, false), some (z18'.2.1, false), some (z18'.2.2.1, false), some (z18'.2.2.2, false), none]) IF.f4 (EC.varF (ea := eD) (v := paper) rfl) TB.d4 rfl (fun _ => rfl) fun z18' => (KN.seq (KN.ite (ET.not (ET.bo (EC.call (eb := eB) (EA.cons (EC.varF (ea := eD) (v := z18'.2.1) rfl) (EA.cons (EC.con (ea := eI) (v := 0) rfl) (EA.cons (EC.sub (EC.lenL (EC.varT (ea := (eL eI)) (v := dry) rfl)) (EC.con (ea := eI) (v := 1) rfl)) EA.nil))) fun v => S_is_within (k + 3) v.1 v.2.1 v.2.2.1))) rfl (KN.ret (fun _ h => nomatch h) (EO.of (EC.con (ea := eB) (v := false) rfl)) RT.f rfl) (KN.skip (KN.seq (KN.ite (ET.or (ET.not (ET.bo (EC.call (eb := eB) (EA.cons (EC.varF (ea := eD) (v := z18'.2.2.1) rfl) (EA.cons (EC.con (ea := eI) (v := 0) rfl) (EA.cons (EC.lenL (EC.varT (ea := (eL eI)) (v := dry) rfl)) EA.nil))) fun v => S_is_within (k + 3) v.1 v.2.1 v.2.2.1))) (ET.not (ET.bo (EC.call (eb := eB) (EA.cons (EC.varF (ea := eD) (v := z18'.2.2.2) rfl) (EA.cons (EC.con (ea := eI) (v := 0) rfl) (EA.cons (EC.lenL (EC.varT (ea := (eL eI)) (v := dry) rfl)) EA.nil))) fun v => S_is_within (k + 3) v.1 v.2.1 v.2.2.1)))) rfl (KN.ret (fun _ h => nomatch h) (EO.of (EC.con (ea := eB) (v := false) rfl)) RT.f rfl) (KN.skip (KN.seq (KN.asgE (L' := fun (lost : Int) => [some (eI room, false), some (low, false), some (high, false), some (draws, false), some (eI gate, false), some (paper, false), some ((eT eI) z2'.1, false), some ((eT eI) z2'.2.1, false), some ((eT eI) z2'.2.2, false), some ((eL eI) dry, false), some ((eL eI) flood, true), some (z18'.1, false), some (z18'.2.1, false), some (z18'.2.2.1, false), some (z18'.2.2.2, false), some (eI lost, false)]) (EO.of (EC.ixL (EC.call (eb := (eL eI)) (EA.cons (EC.varT (ea := (eL eI)) (v := dry) rfl) (EA.cons (EC.un (ea := eD) (eb := eI) (un := unI) (EC.varF (ea := eD) (v := z18'.2.1) rfl) unI_ok) (EA.cons (EC.un (ea := eD) (eb := eI) (un := unI) (EC.varF (ea := eD) (v := z18'.2.2.1) rfl) unI_ok) EA.nil))) fun v => S_sums_from (k + 4) v.1 v.2.1 v.2.2.1) (EC.neg (EC.con (ea := eI) (v := 1) rfl)))) rfl (fun _ => rfl) fun lost => (KN.ret (fun _ h => nomatch h) (EO.of (EC.gt (EC.varF (ea := eI) (v := lost) rfl) (EC.add (EC.varF (ea := eI) (v := room) rfl) (EC.ixL (EC.call (eb := (eL eI)) (EA.cons (EC.varT (ea := (eL eI)) (v := flood) rfl) (EA.cons (EC.un (ea := eD) (eb := eI) (un := unI) (EC.varF (ea := eD) (v := z18'.2.1) rfl) unI_ok) (EA.cons (EC.un (ea := eD) (eb := eI) (un := unI) (EC.varF (ea := eD) (v := z18'.2.2.2) rfl) unI_ok) EA.nil))) fun v => S_sums_from (k + 4) v.1 v.2.1 v.2.2.1) (EC.neg (EC.con (ea := eI) (v := 1) rfl)))))) RT.f rfl))))))))))))))))))))))))))))))

def lp__law_judged_0 (room : Int) (low : List Int) (high : List Int) (draws : List Int) (gate : Int) (table : D)  : R (LO Unit Bool) :=
  sf__law_is_band room low high draws gate table >>= fun due => sf_shows_band room ((eL eI) low) ((eL eI) high) ((eL eI) draws) gate table >>= fun told => if ((!true) || (!decide (told = due))) then R.ok (LO.rt false) else R.ok (LO.nx ())
def lp__law_judged_1 (room : Int) (low : List Int) (high : List Int) (draws : List Int) (gate : Int) (paper : D)  : R (LO Unit Bool) :=
  sf__law_is_squeeze room low high draws gate paper >>= fun due => sf_shows_squeeze room ((eL eI) low) ((eL eI) high) ((eL eI) draws) gate paper >>= fun told => if ((!true) || (!decide (told = due))) then R.ok (LO.rt false) else R.ok (LO.nx ())
def sf__law_judged (room : Int) (low : List Int) (high : List Int) (draws : List Int) (gate : Int) (tables : List D) (papers : List D) : R Bool :=
  forO (fun table z2' => lp__law_judged_0 room low high draws gate table ) tables () >>= fun z7' => LO.k z7' (fun z2' => forO (fun paper z9' => lp__law_judged_1 room low high draws gate paper ) papers () >>= fun z14' => LO.k z14' (fun z9' => R.ok true) R.ok) R.ok
theorem S__law_judged (k : Nat) (room : Int) (low : List Int) (high : List Int) (draws : List Int) (gate : Int) (tables : List D) (papers : List D) : FnR (F (k + 7) 35) [eI room, (eL eI) low, (eL eI) high, (eL eI) draws, eI gate, (eL eD) tables, (eL eD) papers] (sf__law_judged room low high draws gate tables papers) eB false :=
  FnR.def_ (np := 7) (n := 11) (b := b__law_judged) (k := k + 6) rfl rfl (show KN (F (k + 6)) FU (QF eB false) [some (eI room, false), some ((eL eI) low, false), some ((eL eI) high, false), some ((eL eI) draws, false), some (eI gate, false), some ((eL eD) tables, false), some ((eL eD) papers, false), none, none, none, none] (sf__law_judged room low high draws gate tables papers) [b__law_judged] from (KN.seq (KN.forOV (ec := eB) (own := false) (Lf := fun (z2' : Unit) => [some (eI room, false), some ((eL eI) low, false), some ((eL eI) high, false), some ((eL eI) draws, false), some (eI gate, false), none, some ((eL eD) papers, false), none, none, none, none]) (x0 := ()) (i := 5) (L' := fun (z2' : Unit) => [some (eI room, false), some ((eL eI) low, false), some ((eL eI) high, false), some ((eL eI) draws, false), some (eI gate, false), some ((eL eD) tables, false), some ((eL eD) papers, false), none, none, none, none]) rfl rfl rfl (IT.l (EC.varF (ea := (eL eD)) (v := tables) rfl)) (Le.keep (Le.keep (Le.keep (Le.keep (Le.keep (Le.drop (Le.keep (Le.drop (Le.drop (Le.drop (Le.drop Le.nil))))))))))) (fun _ => TB.name) RT.f rfl (fun _ => rfl) (fun z2' table => (KN.seq (KN.asgE (L' := fun (due : Bool) => [some (eI room, false), some ((eL eI) low, false), some ((eL eI) high, false), some ((eL eI) draws, false), some (eI gate, false), none, some ((eL eD) papers, false), some (table, false), some (eB due, false), none, none]) (EO.call (eb := eB) (EA.cons (EC.varF (ea := eI) (v := room) rfl) (EA.cons (EC.varF (ea := (eL eI)) (v := low) rfl) (EA.cons (EC.varF (ea := (eL eI)) (v := high) rfl) (EA.cons (EC.varF (ea := (eL eI)) (v := draws) rfl) (EA.cons (EC.varF (ea := eI) (v := gate) rfl) (EA.cons (EC.varF (ea := eD) (v := table) rfl) EA.nil)))))) fun v => S__law_is_band (k + 4) v.1 v.2.1 v.2.2.1 v.2.2.2.1 v.2.2.2.2.1 v.2.2.2.2.2.1) rfl (fun _ => rfl) fun due => (KN.seq (KN.asgE (L' := fun (told : Bool) => [some (eI room, false), some ((eL eI) low, false), some ((eL eI) high, false), some ((eL eI) draws, false), some (eI gate, false), none, some ((eL eD) papers, false), some (table, false), some (eB due, false), some (eB told, false), none]) (EO.call (eb := eB) (EA.cons (EC.varF (ea := eI) (v := room) rfl) (EA.cons (EC.dyn (EC.bf1 (eb := (eL eI)) (g := fun x => x) (fun _ => rfl) (EC.varF (ea := (eL eI)) (v := low) rfl))) (EA.cons (EC.dyn (EC.bf1 (eb := (eL eI)) (g := fun x => x) (fun _ => rfl) (EC.varF (ea := (eL eI)) (v := high) rfl))) (EA.cons (EC.dyn (EC.bf1 (eb := (eL eI)) (g := fun x => x) (fun _ => rfl) (EC.varF (ea := (eL eI)) (v := draws) rfl))) (EA.cons (EC.varF (ea := eI) (v := gate) rfl) (EA.cons (EC.varF (ea := eD) (v := table) rfl) EA.nil)))))) fun v => S_shows_band (k + 0) v.1 v.2.1 v.2.2.1 v.2.2.2.1 v.2.2.2.2.1 v.2.2.2.2.2.1) rfl (fun _ => rfl) fun told => (KN.ite (ET.orP (ET.not (ET.bo (EC.isi1 (g := fun w => true) (fun _ => rfl) (EC.varF (ea := eB) (v := told) rfl)))) (ET.bo (EC.ne Pl.B (EC.varF (ea := eB) (v := told) rfl) (EC.varF (ea := eB) (v := due) rfl)))) rfl (KN.ret (fun _ h => nomatch h) (EO.of (EC.con (ea := eB) (v := false) rfl)) RT.lo rfl) (KN.skip (KN.endLO (x := ()) (Le.keep (Le.keep (Le.keep (Le.keep (Le.keep (Le.drop (Le.keep (Le.drop (Le.drop (Le.drop (Le.drop Le.nil))))))))))))))))))) fun z2' => (KN.seq (KN.forOV (ec := eB) (own := false) (Lf := fun (z9' : Unit) => [some (eI room, false), some ((eL eI) low, false), some ((eL eI) high, false), some ((eL eI) draws, false), some (eI gate, false), some ((eL eD) tables, false), none, none, none, none, none]) (x0 := ()) (i := 6) (L' := fun (z9' : Unit) => [some (eI room, false), some ((eL eI) low, false), some ((eL eI) high, false), some ((eL eI) draws, false), some (eI gate, false), some ((eL eD) tables, false), some ((eL eD) papers, false), none, none, none, none]) rfl rfl rfl (IT.l (EC.varF (ea := (eL eD)) (v := papers) rfl)) (Le.keep (Le.keep (Le.keep (Le.keep (Le.keep (Le.keep (Le.drop (Le.drop (Le.drop (Le.drop (Le.drop Le.nil))))))))))) (fun _ => TB.name) RT.f rfl (fun _ => rfl) (fun z9' paper => (KN.seq (KN.asgE (L' := fun (due : Bool) => [some (eI room, false), some ((eL eI) low, false), some ((eL eI) high, false), some ((eL eI) draws, false), some (eI gate, false), some ((eL eD) tables, false), none, none, some (eB due, false), none, some (paper, false)]) (EO.call (eb := eB) (EA.cons (EC.varF (ea := eI) (v := room) rfl) (EA.cons (EC.varF (ea := (eL eI)) (v := low) rfl) (EA.cons (EC.varF (ea := (eL eI)) (v := high) rfl) (EA.cons (EC.varF (ea := (eL eI)) (v := draws) rfl) (EA.cons (EC.varF (ea := eI) (v := gate) rfl) (EA.cons (EC.varF (ea := eD) (v := paper) rfl) EA.nil)))))) fun v => S__law_is_squeeze (k + 4) v.1 v.2.1 v.2.2.1 v.2.2.2.1 v.2.2.2.2.1 v.2.2.2.2.2.1) rfl (fun _ => rfl) fun due => (KN.seq (KN.asgE (L' := fun (told : Bool) => [some (eI room, false), some ((eL eI) low, false), some ((eL eI) high, false), some ((eL eI) draws, false), some (eI gate, false), some ((eL eD) tables, false), none, none, some (eB due, false), some (eB told, false), some (paper, false)]) (EO.call (eb := eB) (EA.cons (EC.varF (ea := eI) (v := room) rfl) (EA.cons (EC.dyn (EC.bf1 (eb := (eL eI)) (g := fun x => x) (fun _ => rfl) (EC.varF (ea := (eL eI)) (v := low) rfl))) (EA.cons (EC.dyn (EC.bf1 (eb := (eL eI)) (g := fun x => x) (fun _ => rfl) (EC.varF (ea := (eL eI)) (v := high) rfl))) (EA.cons (EC.dyn (EC.bf1 (eb := (eL eI)) (g := fun x => x) (fun _ => rfl) (EC.varF (ea := (eL eI)) (v := draws) rfl))) (EA.cons (EC.varF (ea := eI) (v := gate) rfl) (EA.cons (EC.varF (ea := eD) (v := paper) rfl) EA.nil)))))) fun v => S_shows_squeeze (k + 0) v.1 v.2.1 v.2.2.1 v.2.2.2.1 v.2.2.2.2.1 v.2.2.2.2.2.1) rfl (fun _ => rfl) fun told => (KN.ite (ET.orP (ET.not (ET.bo (EC.isi1 (g := fun w => true) (fun _ => rfl) (EC.varF (ea := eB) (v := told) rfl)))) (ET.bo (EC.ne Pl.B (EC.varF (ea := eB) (v := told) rfl) (EC.varF (ea := eB) (v := due) rfl)))) rfl (KN.ret (fun _ h => nomatch h) (EO.of (EC.con (ea := eB) (v := false) rfl)) RT.lo rfl) (KN.skip (KN.endLO (x := ()) (Le.keep (Le.keep (Le.keep (Le.keep (Le.keep (Le.keep (Le.drop (Le.drop (Le.drop (Le.drop (Le.drop Le.nil))))))))))))))))))) fun z9' => (KN.ret (fun _ h => nomatch h) (EO.of (EC.con (ea := eB) (v := true) rfl)) RT.f rfl))))))

def sf_law (script : List Int) : R Bool :=
  sf__law_cells script >>= fun cells => atR cells 0 >>= fun head => R.ok (1 + (Int.fmod head 24)) >>= fun periods => atR ([3, 10, 60, 1000] : List Int) (Int.fmod (Int.fdiv head 24) 4) >>= fun top => atR ([0, 2, 9, 300] : List Int) (Int.fmod (Int.fdiv head 96) 4) >>= fun wide => sf__law_flows cells periods top wide (Int.fmod (Int.fdiv head 384) 5) >>= fun z6' => atR cells 26 >>= fun z7' => sf__law_gate z7' z6'.2.1 z6'.2.2 (Int.fmod (Int.fdiv head 1920) 8) >>= fun gate => sf__law_need z6'.1 z6'.2.1 z6'.2.2 gate >>= fun need => atR cells 27 >>= fun z10' => atR ([(1 + (Int.fmod z10' 1000)), need, (need - 1), (need + 1)] : List Int) (Int.fmod (Int.fdiv head 15360) 4) >>= fun room => R.ok (max 1 (min 1000 room)) >>= fun room => R.ok ([z6'.1, z6'.2.1, z6'.2.2] : List (List Int)) >>= fun passed => atR passed 0 >>= fun z12' => atR passed 1 >>= fun z13' => atR passed 2 >>= fun z14' => sf_band room ((eL eI) z12') ((eL eI) z13') ((eL eI) z14') gate >>= fun table => atR passed 0 >>= fun z16' => atR passed 1 >>= fun z17' => atR passed 2 >>= fun z18' => sf_squeeze room ((eL eI) z16') ((eL eI) z17') ((eL eI) z18') gate >>= fun paper => if ((!decide (passed = ([z6'.1, z6'.2.1, z6'.2.2] : List (List Int)))) || (decide ((Option.isNone table) = (isNo paper)))) then R.ok false else lcR (fun z20' => R.ok (0, room)) z6'.1 >>= fun base => atR cells 47 >>= fun z22' => fmodR z22' periods >>= fun z23' => atR cells 48 >>= fun z24' => fmodR z24' (periods + 1) >>= fun z25' => atR cells 49 >>= fun z26' => fmodR z26' (periods + 1) >>= fun z27' => R.ok ([(D.str (Str.ofString "meet")), (D.int z23'), (D.int z25'), (D.int z27')] : List D) >>= fun meet => (if (isNo paper) then sf__law_widest room z6'.1 z6'.2.1 z6'.2.2 gate table >>= fun z29' => if (!z29') then R.ok (LO.rt false) else sf__law_kept room z6'.1 z6'.2.1 z6'.2.2 gate table cells >>= fun z30' => if (!z30') then R.ok (LO.rt false) else orBad table >>= fun base => orBad table >>= fun table => setR table 0 (0, 0) >>= fun table => appR table (0, 0) >>= fun table => sf_band room ((eL eI) z6'.1) ((eL eI) z6'.2.1) ((eL eI) z6'.2.2) gate >>= fun table => (if (!(isTy ((eO (eL (eP2 eI eI))) table) .list)) then R.ok true else eqR ((eO (eL (eP2 eI eI))) table) ((eL (eP2 eI eI)) base) >>= fun z33' => R.ok (!z33')) >>= fun z34' => if z34' then R.ok (LO.rt false) else R.ok (LO.nx (table, base, meet)) else (if (!(isTy paper .tuple)) then R.ok true else sf__law_is_squeeze room z6'.1 z6'.2.1 z6'.2.2 gate paper >>= fun z35' => R.ok (!z35')) >>= fun z36' => if z36' then R.ok (LO.rt false) else (if (decide (z6'.1.sum < z6'.2.2.sum)) then eqR paper ((eP1 eS) (Str.ofString "dry")) >>= fun z37' => R.ok (!z37') else R.ok false) >>= fun z38' => if z38' then R.ok (LO.rt false) else mulR gate periods >>= fun z39' => R.ok (decide ((z6'.2.2.sum + z39') < z6'.2.1.sum)) >>= fun flooded => (if (decide (z6'.2.2.sum ≤ z6'.1.sum)) then (if flooded then eqR paper ((eP1 eS) (Str.ofString "flood")) >>= fun z40' => R.ok (!z40') else R.ok false) >>= fun z41' => R.ok z41' else R.ok false) >>= fun z42' => if z42' then R.ok (LO.rt false) else (ixR paper 0 >>= fun z43' => eqR z43' (D.str (Str.ofString "meet")) >>= fun z44' => if z44' then items paper >>= fun meet => R.ok meet else R.ok meet : R (List D)) >>= fun meet => atR meet 1 >>= fun at_ => orBad (unI at_) >>= fun z49' => orBad (unI at_) >>= fun z47' => atR z6'.1 z47' >>= fun z48' => sf_least_release room ((eL eI) z6'.1) ((eL eI) z6'.2.1) ((eL eI) z6'.2.2) gate z49' room z48' >>= fun z50' => if (!Option.isNone z50') then R.ok (LO.rt false) else R.ok (LO.nx (table, base, meet)) : R (LO ((Option (List (Int × Int))) × (List (Int × Int)) × (List D)) Bool)) >>= fun r => LO.k r (fun z28' => atR cells 50 >>= fun z51' => fmodR z51' periods >>= fun z52' => sf__law_bands room z28'.2.1 z52' >>= fun tables => atR z28'.2.2 1 >>= fun z54' => atR z28'.2.2 2 >>= fun z55' => atR z28'.2.2 3 >>= fun z56' => atR cells 51 >>= fun z57' => fmodR z57' periods >>= fun z58' => sf__law_squeezes periods z54' z55' z56' z58' >>= fun papers => sf__law_judged room z6'.1 z6'.2.1 z6'.2.2 gate tables papers >>= fun z60' => R.ok z60') R.ok
theorem S_law (k : Nat) (script : List Int) : FnR (F (k + 8) 39) [(eL eI) script] (sf_law script) eB false :=
  FnR.def_ (np := 1) (n := 22) (b := b_law) (k := k + 7) rfl rfl (show KN (F (k + 7)) FU (QF eB false) [some ((eL eI) script, false), none, none, none, none, none, none, none, none, none, none, none, none, none, none, none, none, none, none, none, none, none] (sf_law script) [b_law] from (KN.seq (KN.asgE (L' := fun (cells : List Int) => [some ((eL eI) script, false), some ((eL eI) cells, true), none, none, none, none, none, none, none, none, none, none, none, none, none, none, none, none, none, none, none, none]) (EO.call (eb := (eL eI)) (EA.cons (EC.varF (ea := (eL eI)) (v := script) rfl) EA.nil) fun v => S__law_cells (k + 6) v.1) rfl (fun _ => rfl) fun cells => (KN.seq (KN.asgE (L' := fun (head : Int) => [some ((eL eI) script, false), some ((eL eI) cells, true), some (eI head, false), none, none, none, none, none, none, none, none, none, none, none, none, none, none, none, none, none, none, none]) (EO.of (EC.ixL (EC.varT (ea := (eL eI)) (v := cells) rfl) (EC.con (ea := eI) (v := 0) rfl))) rfl (fun _ => rfl) fun head => (KN.seq (KN.asgP (L' := fun (periods : Int) => [some ((eL eI) script, false), some ((eL eI) cells, true), some (eI head, false), some (eI periods, false), none, none, none, none, none, none, none, none, none, none, none, none, none, none, none, none, none, none]) (EO.of (EC.add (EC.con (ea := eI) (v := 1) rfl) (EC.modc (by decide) (EC.bf1 (eb := eI) (g := fun x => x) (fun _ => rfl) (EC.varF (ea := eI) (v := head) rfl))))) rfl (fun _ => rfl) fun periods => (KN.seq (KN.asgE (L' := fun (top : Int) => [some ((eL eI) script, false), some ((eL eI) cells, true), some (eI head, false), some (eI periods, false), some (eI top, false), none, none, none, none, none, none, none, none, none, none, none, none, none, none, none, none, none]) (EO.of (EC.ixL (EC.lst (eb := eI) (EA.cons (EC.con (ea := eI) (v := 3) rfl) (EA.cons (EC.con (ea := eI) (v := 10) rfl) (EA.cons (EC.con (ea := eI) (v := 60) rfl) (EA.cons (EC.con (ea := eI) (v := 1000) rfl) EA.nil)))) (fun w => [w.1, w.2.1, w.2.2.1, w.2.2.2.1]) (fun _ => rfl) (fun _ => Nat.le_of_ble_eq_true rfl)) (EC.modc (by decide) (EC.bf1 (eb := eI) (g := fun x => x) (fun _ => rfl) (EC.fdivc ⟨by decide, by decide⟩ (EC.varF (ea := eI) (v := head) rfl)))))) rfl (fun _ => rfl) fun top => (KN.seq (KN.asgE (L' := fun (wide : Int) => [some ((eL eI) script, false), some ((eL eI) cells, true), some (eI head, false), some (eI periods, false), some (eI top, false), some (eI wide, false), none, none, none, none, none, none, none, none, none, none, none, none, none, none, none, none]) (EO.of (EC.ixL (EC.lst (eb := eI) (EA.cons (EC.con (ea := eI) (v := 0) rfl) (EA.cons (EC.con (ea := eI) (v := 2) rfl) (EA.cons (EC.con (ea := eI) (v := 9) rfl) (EA.cons (EC.con (ea := eI) (v := 300) rfl) EA.nil)))) (fun w => [w.1, w.2.1, w.2.2.1, w.2.2.2.1]) (fun _ => rfl) (fun _ => Nat.le_of_ble_eq_true rfl)) (EC.modc (by decide) (EC.bf1 (eb := eI) (g := fun x => x) (fun _ => rfl) (EC.fdivc ⟨by decide, by decide⟩ (EC.varF (ea := eI) (v := head) rfl)))))) rfl (fun _ => rfl) fun wide => (KN.seq (KN.unp (L' := fun (z6' : (List Int) × (List Int) × (List Int)) => [some ((eL eI) script, false), some ((eL eI) cells, false), some (eI head, false), some (eI periods, false), some (eI top, false), some (eI wide, false), some ((eL eI) z6'.1, false), some ((eL eI) z6'.2.1, false), some ((eL eI) z6'.2.2, false), none, none, none, none, none, none, none, none, none, none, none, none, none]) (EC.call (eb := (eF3 (eL eI) (eL eI) (eL eI))) (EA.cons (EC.varT (ea := (eL eI)) (v := cells) rfl) (EA.cons (EC.varF (ea := eI) (v := periods) rfl) (EA.cons (EC.varF (ea := eI) (v := top) rfl) (EA.cons (EC.varF (ea := eI) (v := wide) rfl) (EA.cons (EC.modc (by decide) (EC.bf1 (eb := eI) (g := fun x => x) (fun _ => rfl) (EC.fdivc ⟨by decide, by decide⟩ (EC.varF (ea := eI) (v := head) rfl)))) EA.nil))))) fun v => S__law_flows (k + 6) v.1 v.2.1 v.2.2.1 v.2.2.2.1 v.2.2.2.2.1) TB.names3F rfl (fun _ => rfl) fun z6' => (KN.seq (KN.asgE (L' := fun (gate : Int) => [some ((eL eI) script, false), some ((eL eI) cells, false), some (eI head, false), some (eI periods, false), some (eI top, false), some (eI wide, false), some ((eL eI) z6'.1, false), some ((eL eI) z6'.2.1, false), some ((eL eI) z6'.2.2, false), some (eI gate, false), none, none, none, none, none, none, none, none, none, none, none, none]) (EO.call (eb := eI) (EA.cons (EC.ixL (EC.varF (ea := (eL eI)) (v := cells) rfl) (EC.con (ea := eI) (v := 26) rfl)) (EA.cons (EC.varF (ea := (eL eI)) (v := z6'.2.1) rfl) (EA.cons (EC.varF (ea := (eL eI)) (v := z6'.2.2) rfl) (EA.cons (EC.modc (by decide) (EC.bf1 (eb := eI) (g := fun x => x) (fun _ => rfl) (EC.fdivc ⟨by decide, by decide⟩ (EC.varF (ea := eI) (v := head) rfl)))) EA.nil)))) fun v => S__law_gate (k + 6) v.1 v.2.1 v.2.2.1 v.2.2.2.1) rfl (fun _ => rfl) fun gate => (KN.seq (KN.asgE (L' := fun (need : Int) => [some ((eL eI) script, false), some ((eL eI) cells, false), some (eI head, false), some (eI periods, false), some (eI top, false), some (eI wide, false), some ((eL eI) z6'.1, false), some ((eL eI) z6'.2.1, false), some ((eL eI) z6'.2.2, false), some (eI gate, false), some (eI need, false), none, none, none, none, none, none, none, none, none, none, none]) (EO.call (eb := eI) (EA.cons (EC.varF (ea := (eL eI)) (v := z6'.1) rfl) (EA.cons (EC.varF (ea := (eL eI)) (v := z6'.2.1) rfl) (EA.cons (EC.varF (ea := (eL eI)) (v := z6'.2.2) rfl) (EA.cons (EC.varF (ea := eI) (v := gate) rfl) EA.nil)))) fun v => S__law_need (k + 5) v.1 v.2.1 v.2.2.1 v.2.2.2.1) rfl (fun _ => rfl) fun need => (KN.seq (KN.asgE (L' := fun (room : Int) => [some ((eL eI) script, false), some ((eL eI) cells, false), some (eI head, false), some (eI periods, false), some (eI top, false), some (eI wide, false), some ((eL eI) z6'.1, false), some ((eL eI) z6'.2.1, false), some ((eL eI) z6'.2.2, false), some (eI gate, false), some (eI need, false), some (eI room, false), none, none, none, none, none, none, none, none, none, none]) (EO.of (EC.ixL (EC.lst (eb := eI) (EA.cons (EC.add (EC.con (ea := eI) (v := 1) rfl) (EC.modc (by decide) (EC.bf1 (eb := eI) (g := fun x => x) (fun _ => rfl) (EC.ixL (EC.varF (ea := (eL eI)) (v := cells) rfl) (EC.con (ea := eI) (v := 27) rfl))))) (EA.cons (EC.varF (ea := eI) (v := need) rfl) (EA.cons (EC.sub (EC.varF (ea := eI) (v := need) rfl) (EC.con (ea := eI) (v := 1) rfl)) (EA.cons (EC.add (EC.varF (ea := eI) (v := need) rfl) (EC.con (ea := eI) (v := 1) rfl)) EA.nil)))) (fun w => [w.1, w.2.1, w.2.2.1, w.2.2.2.1]) (fun _ => rfl) (fun _ => Nat.le_of_ble_eq_true rfl)) (EC.modc (by decide) (EC.bf1 (eb := eI) (g := fun x => x) (fun _ => rfl) (EC.fdivc ⟨by decide, by decide⟩ (EC.varF (ea := eI) (v := head) rfl)))))) rfl (fun _ => rfl) fun room => (KN.seq (KN.asgP (L' := fun (room : Int) => [some ((eL eI) script, false), some ((eL eI) cells, false), some (eI head, false), some (eI periods, false), some (eI top, false), some (eI wide, false), some ((eL eI) z6'.1, false), some ((eL eI) z6'.2.1, false), some ((eL eI) z6'.2.2, false), some (eI gate, false), some (eI need, false), some (eI room, false), none, none, none, none, none, none, none, none, none, none]) (EO.of (EC.max2 (EC.con (ea := eI) (v := 1) rfl) (EC.min2 (EC.con (ea := eI) (v := 1000) rfl) (EC.varF (ea := eI) (v := room) rfl)))) rfl (fun _ => rfl) fun room => (KN.seq (KN.asgP (L' := fun (passed : List (List Int)) => [some ((eL eI) script, false), some ((eL eI) cells, false), some (eI head, false), some (eI periods, false), some (eI top, false), some (eI wide, false), some ((eL eI) z6'.1, false), some ((eL eI) z6'.2.1, false), some ((eL eI) z6'.2.2, false), some (eI gate, false), some (eI need, false), some (eI room, false), some ((eL (eL eI)) passed, true), none, none, none, none, none, none, none, none, none]) (EO.lst (EC.lst (eb := (eL eI)) (EA.cons (EC.bf1 (eb := (eL eI)) (g := fun x => x) (fun _ => rfl) (EC.varF (ea := (eL eI)) (v := z6'.1) rfl)) (EA.cons (EC.bf1 (eb := (eL eI)) (g := fun x => x) (fun _ => rfl) (EC.varF (ea := (eL eI)) (v := z6'.2.1) rfl)) (EA.cons (EC.bf1 (eb := (eL eI)) (g := fun x => x) (fun _ => rfl) (EC.varF (ea := (eL eI)) (v := z6'.2.2) rfl)) EA.nil))) (fun w => [w.1, w.2.1, w.2.2.1]) (fun _ => rfl) (fun _ => Nat.le_of_ble_eq_true rfl))) rfl (fun _ => rfl) fun passed => (KN.seq (KN.asgE (L' := fun (table : Option (List (Int × Int))) => [some ((eL eI) script, false), some ((eL eI) cells, false), some (eI head, false), some (eI periods, false), some (eI top, false), some (eI wide, false), some ((eL eI) z6'.1, false), some ((eL eI) z6'.2.1, false), some ((eL eI) z6'.2.2, false), some (eI gate, false), some (eI need, false), some (eI room, false), some ((eL (eL eI)) passed, true), some ((eO (eL (eP2 eI eI))) table, true), none, none, none, none, none, none, none, none]) (EO.call (eb := (eO (eL (eP2 eI eI)))) (EA.cons (EC.varF (ea := eI) (v := room) rfl) (EA.cons (EC.dyn (EC.ixL (EC.varT (ea := (eL (eL eI))) (v := passed) rfl) (EC.con (ea := eI) (v := 0) rfl))) (EA.cons (EC.dyn (EC.ixL (EC.varT (ea := (eL (eL eI))) (v := passed) rfl) (EC.con (ea := eI) (v := 1) rfl))) (EA.cons (EC.dyn (EC.ixL (EC.varT (ea := (eL (eL eI))) (v := passed) rfl) (EC.con (ea := eI) (v := 2) rfl))) (EA.cons (EC.varF (ea := eI) (v := gate) rfl) EA.nil))))) fun v => S_band (k + 1) v.1 v.2.1 v.2.2.1 v.2.2.2.1 v.2.2.2.2.1) rfl (fun _ => rfl) fun table => (KN.seq (KN.asgE (L' := fun (paper : D) => [some ((eL eI) script, false), some ((eL eI) cells, false), some (eI head, false), some (eI periods, false), some (eI top, false), some (eI wide, false), some ((eL eI) z6'.1, false), some ((eL eI) z6'.2.1, false), some ((eL eI) z6'.2.2, false), some (eI gate, false), some (eI need, false), some (eI room, false), some ((eL (eL eI)) passed, true), some ((eO (eL (eP2 eI eI))) table, true), some (paper, false), none, none, none, none, none, none, none]) (EO.call (eb := eD) (EA.cons (EC.varF (ea := eI) (v := room) rfl) (EA.cons (EC.dyn (EC.ixL (EC.varT (ea := (eL (eL eI))) (v := passed) rfl) (EC.con (ea := eI) (v := 0) rfl))) (EA.cons (EC.dyn (EC.ixL (EC.varT (ea := (eL (eL eI))) (v := passed) rfl) (EC.con (ea := eI) (v := 1) rfl))) (EA.cons (EC.dyn (EC.ixL (EC.varT (ea := (eL (eL eI))) (v := passed) rfl) (EC.con (ea := eI) (v := 2) rfl))) (EA.cons (EC.varF (ea := eI) (v := gate) rfl) EA.nil))))) fun v => S_squeeze (k + 1) v.1 v.2.1 v.2.2.1 v.2.2.2.1 v.2.2.2.2.1) rfl (fun _ => rfl) fun paper => (KN.seq (KN.ite (ET.orP (ET.bo (EC.ne (Pl.L (Pl.L Pl.I)) (EC.varT (ea := (eL (eL eI))) (v := passed) rfl) (EC.lst (eb := (eL eI)) (EA.cons (EC.varF (ea := (eL eI)) (v := z6'.1) rfl) (EA.cons (EC.varF (ea := (eL eI)) (v := z6'.2.1) rfl) (EA.cons (EC.varF (ea := (eL eI)) (v := z6'.2.2) rfl) EA.nil))) (fun w => [w.1, w.2.1, w.2.2.1]) (fun _ => rfl) (fun _ => Nat.le_of_ble_eq_true rfl)))) (ET.bo (EC.eq Pl.B (EC.isn1 (g := Option.isNone) (fun v => by cases v <;> rfl) (EC.varT (ea := (eO (eL (eP2 eI eI)))) (v := table) rfl)) (EC.isn1 (g := isNo) (fun v => rfl) (EC.varF (ea := eD) (v := paper) rfl))))) rfl (KN.ret (fun _ h => nomatch h) (EO.of (EC.con (ea := eB) (v := false) rfl)) RT.f rfl) (KN.skip (KN.seq (KN.asgE (L' := fun (base : List (Int × Int)) => [some ((eL eI) script, false), some ((eL eI) cells, false), some (eI head, false), some (eI periods, false), some (eI top, false), some (eI wide, false), some ((eL eI) z6'.1, false), some ((eL eI) z6'.2.1, false), some ((eL eI) z6'.2.2, false), some (eI gate, false), some (eI need, false), some (eI room, false), some ((eL (eL eI)) passed, true), some ((eO (eL (eP2 eI eI))) table, true), some (paper, false), some ((eL (eP2 eI eI)) base, true), none, none, none, none, none, none]) (EO.lc (EC.lc (ea := eI) (eb := (eP2 eI eI)) (IT.l (EC.varF (ea := (eL eI)) (v := z6'.1) rfl)) (by exact ⟨rfl, trivial⟩) TB.name (fun z20' => (EC.tup (eb := (eP2 eI eI)) (EA.cons (EC.con (ea := eI) (v := 0) rfl) (EA.cons (EC.varF (ea := eI) (v := room) rfl) EA.nil)) (fun w => (w.1, w.2.1)) (fun _ => rfl) (fun _ => Nat.le_of_ble_eq_true rfl))) rfl)) rfl (fun _ => rfl) fun base => (KN.seq (KN.asgP (L' := fun (meet : List D) => [some ((eL eI) script, false), some ((eL eI) cells, false), some (eI head, false), some (eI periods, false), some (eI top, false), some (eI wide, false), some ((eL eI) z6'.1, false), some ((eL eI) z6'.2.1, false), some ((eL eI) z6'.2.2, false), some (eI gate, false), some (eI need, false), some (eI room, false), some ((eL (eL eI)) passed, true), some ((eO (eL (eP2 eI eI))) table, true), some (paper, false), some ((eL (eP2 eI eI)) base, true), some ((eL eD) meet, true), none, none, none, none, none]) (EO.lst (EC.lst (eb := eD) (EA.cons (EC.dyn (EC.con (ea := eS) (v := (Str.ofString "meet")) rfl)) (EA.cons (EC.dyn (EC.mod (EC.bf1 (eb := eI) (g := fun x => x) (fun _ => rfl) (EC.ixL (EC.varF (ea := (eL eI)) (v := cells) rfl) (EC.con (ea := eI) (v := 47) rfl))) (EC.varF (ea := eI) (v := periods) rfl))) (EA.cons (EC.dyn (EC.mod (EC.bf1 (eb := eI) (g := fun x => x) (fun _ => rfl) (EC.ixL (EC.varF (ea := (eL eI)) (v := cells) rfl) (EC.con (ea := eI) (v := 48) rfl))) (EC.add (EC.varF (ea := eI) (v := periods) rfl) (EC.con (ea := eI) (v := 1) rfl)))) (EA.cons (EC.dyn (EC.mod (EC.bf1 (eb := eI) (g := fun x => x) (fun _ => rfl) (EC.ixL (EC.varF (ea := (eL eI)) (v := cells) rfl) (EC.con (ea := eI) (v := 49) rfl))) (EC.add (EC.varF (ea := eI) (v := periods) rfl) (EC.con (ea := eI) (v := 1) rfl)))) EA.nil)))) (fun w => [w.1, w.2.1, w.2.2.1, w.2.2.2.1]) (fun _ => rfl) (fun _ => Nat.le_of_ble_eq_true rfl))) rfl (fun _ => rfl) fun meet => (KN.seq (KN.joinR (Lf := fun (z28' : (Option (List (Int × Int))) × (List (Int × Int)) × (List D)) => [some ((eL eI) script, false), some ((eL eI) cells, false), some (eI head, false), some (eI periods, false), some (eI top, false), some (eI wide, false), some ((eL eI) z6'.1, false), some ((eL eI) z6'.2.1, false), some ((eL eI) z6'.2.2, false), some (eI gate, false), some (eI need, false), some (eI room, false), some ((eL (eL eI)) passed, true), some ((eO (eL (eP2 eI eI))) z28'.1, true), some (paper, false), some ((eL (eP2 eI eI)) z28'.2.1, false), some ((eL eD) z28'.2.2, false), none, none, none, none, none]) (ea := eB) (own := false) RT.f rfl (KN.ite (ET.bo (EC.isn1 (g := isNo) (fun v => rfl) (EC.varF (ea := eD) (v := paper) rfl))) rfl (KN.seq (KN.ite (ET.not (ET.bo (EC.call (eb := eB) (EA.cons (EC.varF (ea := eI) (v := room) rfl) (EA.cons (EC.varF (ea := (eL eI)) (v := z6'.1) rfl) (EA.cons (EC.varF (ea := (eL eI)) (v := z6'.2.1) rfl) (EA.cons (EC.varF (ea := (eL eI)) (v := z6'.2.2) rfl) (EA.cons (EC.varF (ea := eI) (v := gate) rfl) (EA.cons (EC.varT (ea := (eO (eL (eP2 eI eI)))) (v := table) rfl) EA.nil)))))) fun v => S__law_widest (k + 4) v.1 v.2.1 v.2.2.1 v.2.2.2.1 v.2.2.2.2.1 v.2.2.2.2.2.1))) rfl (KN.ret (fun _ h => nomatch h) (EO.of (EC.con (ea := eB) (v := false) rfl)) RT.jr rfl) (KN.skip (KN.seq (KN.ite (ET.not (ET.bo (EC.call (eb := eB) (EA.cons (EC.varF (ea := eI) (v := room) rfl) (EA.cons (EC.varF (ea := (eL eI)) (v := z6'.1) rfl) (EA.cons (EC.varF (ea := (eL eI)) (v := z6'.2.1) rfl) (EA.cons (EC.varF (ea := (eL eI)) (v := z6'.2.2) rfl) (EA.cons (EC.varF (ea := eI) (v := gate) rfl) (EA.cons (EC.varT (ea := (eO (eL (eP2 eI eI)))) (v := table) rfl) (EA.cons (EC.varF (ea := (eL eI)) (v := cells) rfl) EA.nil))))))) fun v => S__law_kept (k + 0) v.1 v.2.1 v.2.2.1 v.2.2.2.1 v.2.2.2.2.1 v.2.2.2.2.2.1 v.2.2.2.2.2.2.1))) rfl (KN.ret (fun _ h => nomatch h) (EO.of (EC.con (ea := eB) (v := false) rfl)) RT.jr rfl) (KN.skip (KN.seq (KN.asgE (L' := fun (base : List (Int × Int)) => [some ((eL eI) script, false), some ((eL eI) cells, false), some (eI head, false), some (eI periods, false), some (eI top, false), some (eI wide, false), some ((eL eI) z6'.1, false), some ((eL eI) z6'.2.1, false), some ((eL eI) z6'.2.2, false), some (eI gate, false), some (eI need, false), some (eI room, false), some ((eL (eL eI)) passed, true), some ((eO (eL (eP2 eI eI))) table, true), some (paper, false), some ((eL (eP2 eI eI)) base, false), some ((eL eD) meet, true), none, none, none, none, none]) (EO.of (EC.bf1 (eb := (eL (eP2 eI eI))) (g := fun x => x) (fun _ => rfl) (EC.get (EC.varT (ea := (eO (eL (eP2 eI eI)))) (v := table) rfl)))) rfl (fun _ => rfl) fun base => (KN.seq (KN.narrow (LS := fun (table : List (Int × Int)) => [some ((eL eI) script, false), some ((eL eI) cells, false), some (eI head, false), some (eI periods, false), some (eI top, false), some (eI wide, false), some ((eL eI) z6'.1, false), some ((eL eI) z6'.2.1, false), some ((eL eI) z6'.2.2, false), some (eI gate, false), some (eI need, false), some (eI room, false), some ((eL (eL eI)) passed, true), some ((eL (eP2 eI eI)) table, true), some (paper, false), some ((eL (eP2 eI eI)) base, false), some ((eL eD) meet, true), none, none, none, none, none]) (ec := (eL (eP2 eI eI))) (o := table) (i := 13) (w := true) rfl rfl (fun _ => rfl) fun table => (KN.six (L' := fun (table : List (Int × Int)) => [some ((eL eI) script, false), some ((eL eI) cells, false), some (eI head, false), some (eI periods, false), some (eI top, false), some (eI wide, false), some ((eL eI) z6'.1, false), some ((eL eI) z6'.2.1, false), some ((eL eI) z6'.2.2, false), some (eI gate, false), some (eI need, false), some (eI room, false), some ((eL (eL eI)) passed, true), some ((eL (eP2 eI eI)) table, true), some (paper, false), some ((eL (eP2 eI eI)) base, false), some ((eL eD) meet, true), none, none, none, none, none]) (xs := table) (ea := (eP2 eI eI)) (EC.tup (eb := (eP2 eI eI)) (EA.cons (EC.con (ea := eI) (v := 0) rfl) (EA.cons (EC.con (ea := eI) (v := 0) rfl) EA.nil)) (fun w => (w.1, w.2.1)) (fun _ => rfl) (fun _ => Nat.le_of_ble_eq_true rfl)) (EC.con (ea := eI) (v := 0) rfl) rfl rfl (fun _ => rfl) fun table => (KN.seq (KN.app (L' := fun (table : List (Int × Int)) => [some ((eL eI) script, false), some ((eL eI) cells, false), some (eI head, false), some (eI periods, false), some (eI top, false), some (eI wide, false), some ((eL eI) z6'.1, false), some ((eL eI) z6'.2.1, false), some ((eL eI) z6'.2.2, false), some (eI gate, false), some (eI need, false), some (eI room, false), some ((eL (eL eI)) passed, true), some ((eL (eP2 eI eI)) table, true), some (paper, false), some ((eL (eP2 eI eI)) base, false), some ((eL eD) meet, true), none, none, none, none, none]) (xs := table) (ea := (eP2 eI eI)) (EC.tup (eb := (eP2 eI eI)) (EA.cons (EC.con (ea := eI) (v := 0) rfl) (EA.cons (EC.con (ea := eI) (v := 0) rfl) EA.nil)) (fun w => (w.1, w.2.1)) (fun _ => rfl) (fun _ => Nat.le_of_ble_eq_true rfl)) rfl rfl (fun _ => rfl) fun table => (KN.seq (KN.asgE (L' := fun (table : Option (List (Int × Int))) => [some ((eL eI) script, false), some ((eL eI) cells, false), some (eI head, false), some (eI periods, false), some (eI top, false), some (eI wide, false), some ((eL eI) z6'.1, false), some ((eL eI) z6'.2.1, false), some ((eL eI) z6'.2.2, false), some (eI gate, false), some (eI need, false), some (eI room, false), some ((eL (eL eI)) passed, true), some ((eO (eL (eP2 eI eI))) table, true), some (paper, false), some ((eL (eP2 eI eI)) base, false), some ((eL eD) meet, true), none, none, none, none, none]) (EO.call (eb := (eO (eL (eP2 eI eI)))) (EA.cons (EC.varF (ea := eI) (v := room) rfl) (EA.cons (EC.dyn (EC.bf1 (eb := (eL eI)) (g := fun x => x) (fun _ => rfl) (EC.varF (ea := (eL eI)) (v := z6'.1) rfl))) (EA.cons (EC.dyn (EC.bf1 (eb := (eL eI)) (g := fun x => x) (fun _ => rfl) (EC.varF (ea := (eL eI)) (v := z6'.2.1) rfl))) (EA.cons (EC.dyn (EC.bf1 (eb := (eL eI)) (g := fun x => x) (fun _ => rfl) (EC.varF (ea := (eL eI)) (v := z6'.2.2) rfl))) (EA.cons (EC.varF (ea := eI) (v := gate) rfl) EA.nil))))) fun v => S_band (k + 1) v.1 v.2.1 v.2.2.1 v.2.2.2.1 v.2.2.2.2.1) rfl (fun _ => rfl) fun table => (KN.ite (ET.or (ET.not (ET.bo (EC.isi1 (g := fun w => isTy ((eO (eL (eP2 eI eI))) w) .list) (fun _ => rfl) (EC.varT (ea := (eO (eL (eP2 eI eI)))) (v := table) rfl)))) (ET.bo (EC.ned (EC.varT (ea := (eO (eL (eP2 eI eI)))) (v := table) rfl) (EC.varF (ea := (eL (eP2 eI eI))) (v := base) rfl)))) rfl (KN.ret (fun _ h => nomatch h) (EO.of (EC.con (ea := eB) (v := false) rfl)) RT.jr rfl) (KN.skip (KN.endJR (x := (table, base, meet)) (Le.keep (Le.keep (Le.keep (Le.keep (Le.keep (Le.keep (Le.keep (Le.keep (Le.keep (Le.keep (Le.keep (Le.keep (Le.keep (Le.keep (Le.keep (Le.keep (Le.weak (Le.drop (Le.drop (Le.drop (Le.drop (Le.drop Le.nil)))))))))))))))))))))))))))))))))))))))) (KN.seq (KN.ite (ET.or (ET.not (ET.bo (EC.isi1 (g := fun w => isTy w .tuple) (fun _ => rfl) (EC.varF (ea := eD) (v := paper) rfl)))) (ET.not (ET.bo (EC.call (eb := eB) (EA.cons (EC.varF (ea := eI) (v := room) rfl) (EA.cons (EC.varF (ea := (eL eI)) (v := z6'.1) rfl) (EA.cons (EC.varF (ea := (eL eI)) (v := z6'.2.1) rfl) (EA.cons (EC.varF (ea := (eL eI)) (v := z6'.2.2) rfl) (EA.cons (EC.varF (ea := eI) (v := gate) rfl) (EA.cons (EC.varF (ea := eD) (v := paper) rfl) EA.nil)))))) fun v => S__law_is_squeeze (k + 5) v.1 v.2.1 v.2.2.1 v.2.2.2.1 v.2.2.2.2.1 v.2.2.2.2.2.1)))) rfl (KN.ret (fun _ h => nomatch h) (EO.of (EC.con (ea := eB) (v := false) rfl)) RT.jr rfl) (KN.skip (KN.seq (KN.ite (ET.and (ET.bo (EC.gt (EC.sumL (EC.varF (ea := (eL eI)) (v := z6'.2.2) rfl)) (EC.sumL (EC.varF (ea := (eL eI)) (v := z6'.1) rfl)))) (ET.bo (EC.ned (EC.varF (ea := eD) (v := paper) rfl) (EC.tup (eb := (eP1 eS)) (EA.cons (EC.con (ea := eS) (v := (Str.ofString "dry")) rfl) EA.nil) (fun w => w.1) (fun _ => rfl) (fun _ => Nat.le_of_ble_eq_true rfl))))) rfl (KN.ret (fun _ h => nomatch h) (EO.of (EC.con (ea := eB) (v := false) rfl)) RT.jr rfl) (KN.skip (KN.seq (KN.asgP (L' := fun (flooded : Bool) => [some ((eL eI) script, false), some ((eL eI) cells, false), some (eI head, false), some (eI periods, false), some (eI top, false), some (eI wide, false), some ((eL eI) z6'.1, false), some ((eL eI) z6'.2.1, false), some ((eL eI) z6'.2.2, false), some (eI gate, false), some (eI need, false), some (eI room, false), some ((eL (eL eI)) passed, true), some ((eO (eL (eP2 eI eI))) table, true), some (paper, false), some ((eL (eP2 eI eI)) base, true), some ((eL eD) meet, true), some (eB flooded, false), none, none, none, none]) (EO.of (EC.gt (EC.sumL (EC.varF (ea := (eL eI)) (v := z6'.2.1) rfl)) (EC.add (EC.sumL (EC.varF (ea := (eL eI)) (v := z6'.2.2) rfl)) (EC.mul (EC.varF (ea := eI) (v := gate) rfl) (EC.varF (ea := eI) (v := periods) rfl))))) rfl (fun _ => rfl) fun flooded => (KN.seq (KN.ite (ET.and (ET.bo (EC.le (EC.sumL (EC.varF (ea := (eL eI)) (v := z6'.2.2) rfl)) (EC.sumL (EC.varF (ea := (eL eI)) (v := z6'.1) rfl)))) (ET.and (ET.bo (EC.varF (ea := eB) (v := flooded) rfl)) (ET.bo (EC.ned (EC.varF (ea := eD) (v := paper) rfl) (EC.tup (eb := (eP1 eS)) (EA.cons (EC.con (ea := eS) (v := (Str.ofString "flood")) rfl) EA.nil) (fun w => w.1) (fun _ => rfl) (fun _ => Nat.le_of_ble_eq_true rfl)))))) rfl (KN.ret (fun _ h => nomatch h) (EO.of (EC.con (ea := eB) (v := false) rfl)) RT.jr rfl) (KN.skip (KN.seq (KN.join (Lf := fun (meet : (List D)) => [some ((eL eI) script, false), some ((eL eI) cells, false), some (eI head, false), some (eI periods, false), some (eI top, false), some (eI wide, false), some ((eL eI) z6'.1, false), some ((eL eI) z6'.2.1, false), some ((eL eI) z6'.2.2, false), some (eI gate, false), some (eI need, false), some (eI room, false), some ((eL (eL eI)) passed, true), some ((eO (eL (eP2 eI eI))) table, true), some (paper, false), some ((eL (eP2 eI eI)) base, true), some ((eL eD) meet, false), some (eB flooded, false), none, none, none, none]) rfl (KN.ite (ET.bo (EC.eqd (EC.ixD (EC.varF (ea := eD) (v := paper) rfl) (EC.con (ea := eI) (v := 0) rfl)) (EC.con (ea := eS) (v := (Str.ofString "meet")) rfl))) rfl (KN.asgE (L' := fun (meet : List D) => [some ((eL eI) script, false), some ((eL eI) cells, false), some (eI head, false), some (eI periods, false), some (eI top, false), some (eI wide, false), some ((eL eI) z6'.1, false), some ((eL eI) z6'.2.1, false), some ((eL eI) z6'.2.2, false), some (eI gate, false), some (eI need, false), some (eI room, false), some ((eL (eL eI)) passed, true), some ((eO (eL (eP2 eI eI))) table, true), some (paper, false), some ((eL (eP2 eI eI)) base, true), some ((eL eD) meet, false), some (eB flooded, false), none, none, none, none]) (EO.of (EC.bf1R (eb := (eL eD)) (g := items) listR_ok (EC.varF (ea := eD) (v := paper) rfl))) rfl (fun _ => rfl) fun meet => (KN.endJ (x := meet) (Le.keep (Le.keep (Le.keep (Le.keep (Le.keep (Le.keep (Le.keep (Le.keep (Le.keep (Le.keep (Le.keep (Le.keep (Le.keep (Le.keep (Le.keep (Le.keep (Le.keep (Le.keep (Le.drop (Le.drop (Le.drop (Le.drop Le.nil)))))))))))))))))))))))) (KN.skip (KN.endJ (x := meet) (Le.keep (Le.keep (Le.keep (Le.keep (Le.keep (Le.keep (Le.keep (Le.keep (Le.keep (Le.keep (Le.keep (Le.keep (Le.keep (Le.keep (Le.keep (Le.keep (Le.weak (Le.keep (Le.drop (Le.drop (Le.drop (Le.drop Le.nil))))))))))))))))))))))))) fun meet => (KN.seq (KN.asgE (L' := fun (at_ : D) => [some ((eL eI) script, false), some ((eL eI) cells, false), some (eI head, false), some (eI periods, false), some (eI top, false), some (eI wide, false), some ((eL eI) z6'.1, false), some ((eL eI) z6'.2.1, false), some ((eL eI) z6'.2.2, false), some (eI gate, false), some (eI need, false), some (eI room, false), some ((eL (eL eI)) passed, true), some ((eO (eL (eP2 eI eI))) table, true), some (paper, false), some ((eL (eP2 eI eI)) base, true), some ((eL eD) meet, false), some (eB flooded, false), some (at_, false), none, none, none]) (EO.of (EC.ixL (EC.varF (ea := (eL eD)) (v := meet) rfl) (EC.con (ea := eI) (v := 1) rfl))) rfl (fun _ => rfl) fun at_ => (KN.ite (ET.bo (EC.isnn1 (g := Option.isNone) (fun v => by cases v <;> rfl) (EC.call (eb := (eO eI)) (EA.cons (EC.varF (ea := eI) (v := room) rfl) (EA.cons (EC.dyn (EC.bf1 (eb := (eL eI)) (g := fun x => x) (fun _ => rfl) (EC.varF (ea := (eL eI)) (v := z6'.1) rfl))) (EA.cons (EC.dyn (EC.bf1 (eb := (eL eI)) (g := fun x => x) (fun _ => rfl) (EC.varF (ea := (eL eI)) (v := z6'.2.1) rfl))) (EA.cons (EC.dyn (EC.bf1 (eb := (eL eI)) (g := fun x => x) (fun _ => rfl) (EC.varF (ea := (eL eI)) (v := z6'.2.2) rfl))) (EA.cons (EC.varF (ea := eI) (v := gate) rfl) (EA.cons (EC.un (ea := eD) (eb := eI) (un := unI) (EC.varF (ea := eD) (v := at_) rfl) unI_ok) (EA.cons (EC.varF (ea := eI) (v := room) rfl) (EA.cons (EC.ixL (EC.varF (ea := (eL eI)) (v := z6'.1) rfl) (EC.un (ea := eD) (eb := eI) (un := unI) (EC.varF (ea := eD) (v := at_) rfl) unI_ok)) EA.nil)))))))) fun v => S_least_release (k + 1) v.1 v.2.1 v.2.2.1 v.2.2.2.1 v.2.2.2.2.1 v.2.2.2.2.2.1 v.2.2.2.2.2.2.1 v.2.2.2.2.2.2.2.1))) rfl (KN.ret (fun _ h => nomatch h) (EO.of (EC.con (ea := eB) (v := false) rfl)) RT.jr rfl) (KN.skip (KN.endJR (x := (table, base, meet)) (Le.keep (Le.keep (Le.keep (Le.keep (Le.keep (Le.keep (Le.keep (Le.keep (Le.keep (Le.keep (Le.keep (Le.keep (Le.keep (Le.keep (Le.keep (Le.weak (Le.keep (Le.drop (Le.drop (Le.drop (Le.drop (Le.drop Le.nil))))))))))))))))))))))))))))))))))))))))) fun z28' => (KN.seq (KN.asgE (L' := fun (tables : List D) => [some ((eL eI) script, false), some ((eL eI) cells, false), some (eI head, false), some (eI periods, false), some (eI top, false), some (eI wide, false), some ((eL eI) z6'.1, false), some ((eL eI) z6'.2.1, false), some ((eL eI) z6'.2.2, false), some (eI gate, false), some (eI need, false), some (eI room, false), some ((eL (eL eI)) passed, true), some ((eO (eL (eP2 eI eI))) z28'.1, true), some (paper, false), some ((eL (eP2 eI eI)) z28'.2.1, false), some ((eL eD) z28'.2.2, false), none, none, some ((eL eD) tables, true), none, none]) (EO.call (eb := (eL eD)) (EA.cons (EC.varF (ea := eI) (v := room) rfl) (EA.cons (EC.varF (ea := (eL (eP2 eI eI))) (v := z28'.2.1) rfl) (EA.cons (EC.mod (EC.bf1 (eb := eI) (g := fun x => x) (fun _ => rfl) (EC.ixL (EC.varF (ea := (eL eI)) (v := cells) rfl) (EC.con (ea := eI) (v := 50) rfl))) (EC.varF (ea := eI) (v := periods) rfl)) EA.nil))) fun v => S__law_bands (k + 6) v.1 v.2.1 v.2.2.1) rfl (fun _ => rfl) fun tables => (KN.seq (KN.asgE (L' := fun (papers : List D) => [some ((eL eI) script, false), some ((eL eI) cells, false), some (eI head, false), some (eI periods, false), some (eI top, false), some (eI wide, false), some ((eL eI) z6'.1, false), some ((eL eI) z6'.2.1, false), some ((eL eI) z6'.2.2, false), some (eI gate, false), some (eI need, false), some (eI room, false), some ((eL (eL eI)) passed, true), some ((eO (eL (eP2 eI eI))) z28'.1, true), some (paper, false), some ((eL (eP2 eI eI)) z28'.2.1, false), some ((eL eD) z28'.2.2, false), none, none, some ((eL eD) tables, true), some ((eL eD) papers, true), none]) (EO.call (eb := (eL eD)) (EA.cons (EC.varF (ea := eI) (v := periods) rfl) (EA.cons (EC.ixL (EC.varF (ea := (eL eD)) (v := z28'.2.2) rfl) (EC.con (ea := eI) (v := 1) rfl)) (EA.cons (EC.ixL (EC.varF (ea := (eL eD)) (v := z28'.2.2) rfl) (EC.con (ea := eI) (v := 2) rfl)) (EA.cons (EC.ixL (EC.varF (ea := (eL eD)) (v := z28'.2.2) rfl) (EC.con (ea := eI) (v := 3) rfl)) (EA.cons (EC.mod (EC.bf1 (eb := eI) (g := fun x => x) (fun _ => rfl) (EC.ixL (EC.varF (ea := (eL eI)) (v := cells) rfl) (EC.con (ea := eI) (v := 51) rfl))) (EC.varF (ea := eI) (v := periods) rfl)) EA.nil))))) fun v => S__law_squeezes (k + 6) v.1 v.2.1 v.2.2.1 v.2.2.2.1 v.2.2.2.2.1) rfl (fun _ => rfl) fun papers => (KN.ret (fun _ h => nomatch h) (EO.call (eb := eB) (EA.cons (EC.varF (ea := eI) (v := room) rfl) (EA.cons (EC.varF (ea := (eL eI)) (v := z6'.1) rfl) (EA.cons (EC.varF (ea := (eL eI)) (v := z6'.2.1) rfl) (EA.cons (EC.varF (ea := (eL eI)) (v := z6'.2.2) rfl) (EA.cons (EC.varF (ea := eI) (v := gate) rfl) (EA.cons (EC.varT (ea := (eL eD)) (v := tables) rfl) (EA.cons (EC.varT (ea := (eL eD)) (v := papers) rfl) EA.nil))))))) fun v => S__law_judged (k + 0) v.1 v.2.1 v.2.2.1 v.2.2.2.1 v.2.2.2.2.1 v.2.2.2.2.2.1 v.2.2.2.2.2.2.1) RT.f rfl)))))))))))))))))))))))))))))))))))))))))

end Mp

set_option Elab.async false
set_option linter.all false
set_option maxRecDepth 100000
set_option maxHeartbeats 400000
/-! Vc: the functions of the year. -/
namespace Mp
open Ym
def Row (d : D) (ns : List Int) : Prop := d = eL eI ns ∨ d = eT eI ns
/-- the list's numbers, round and round -/
def pd (xs : List Int) (t : Nat) : Int := xs.getD (t % xs.length) 0
/-- the rest, as a number -/
def mdI (t n : Nat) : Int := ((t % n : Nat) : Int)
structure Y0 (inf dr : List Int) : Prop where
  len : dr.length = inf.length
  pos : 0 < inf.length
  le : inf.length ≤ 24
  i : ∀ x ∈ inf, 0 ≤ x ∧ x ≤ 1000
structure Yr (inf dr : List Int) : Prop extends Y0 inf dr where
  d : ∀ x ∈ dr, 0 ≤ x ∧ x ≤ 1000
theorem pd_mem {xs : List Int} (h : 0 < xs.length) (t : Nat) : pd xs t ∈ xs := by
  have h3 : t % xs.length < xs.length := Nat.mod_lt _ h
  unfold pd
  rw [List.getD_eq_getElem?_getD, List.getElem?_eq_getElem h3]
  exact List.getElem_mem h3
theorem atR_pd {xs : List Int} {n : Nat} (hn : xs.length = n) (h : 0 < n) (t : Nat) : atR xs (mdI t n) = .ok (pd xs t) := by
  subst hn
  unfold mdI
  rw [atR_gi (by omega) (by have := Nat.mod_lt t h; omega)]
  rfl
theorem atR_pd' {xs : List Int} {t : Nat} (h : t < xs.length) : atR xs (t : Int) = .ok (pd xs t) := by
  have := atR_pd (xs := xs) rfl (by omega) t
  unfold mdI at this
  rwa [Nat.mod_eq_of_lt h] at this
theorem Y0.per {inf dr : List Int} (Y : Y0 inf dr) : Per (pd dr) (pd inf) inf.length where
  pos := Y.pos
  d := fun t => by unfold pd; rw [Y.len, Nat.add_mod_right]
  i := fun t => by unfold pd; rw [Nat.add_mod_right]
theorem Y0.nn {inf dr : List Int} (Y : Y0 inf dr) (t : Nat) : 0 ≤ pd inf t := (Y.i _ (pd_mem Y.pos t)).1
theorem Y0.dpos {inf dr : List Int} (Y : Y0 inf dr) : 0 < dr.length := by rw [Y.len]; exact Y.pos
/-- sums are lacks -/
theorem sum_take (xs : List Int) : ∀ k : Nat, k ≤ xs.length → (xs.take (k + 1)).sum = (xs.take k).sum + xs.getD k 0
  | k, h => by
    rw [List.take_add_one, List.sum_append]
    congr 1
    by_cases q : k < xs.length
    · rw [List.getElem?_eq_getElem q, List.getD_eq_getElem?_getD, List.getElem?_eq_getElem q]
      simp
    · rw [List.getElem?_eq_none (by omega), List.getD_eq_getElem?_getD, List.getElem?_eq_none (by omega)]
      simp
theorem lack_sum {inf dr : List Int} (Y : Y0 inf dr) : lack (pd dr) (pd inf) 0 inf.length = dr.sum - inf.sum := by
  have h : ∀ k, k ≤ inf.length → lack (pd dr) (pd inf) 0 k = (dr.take k).sum - (inf.take k).sum := fun k => by
    induction k with
    | zero => intro _; simp [lack]
    | succ k ih =>
      intro hk
      have a := sum_take dr k (by rw [Y.len]; omega)
      have b := sum_take inf k (by omega)
      have c : pd dr (0 + k) = dr.getD k 0 := by unfold pd; rw [Nat.zero_add, Nat.mod_eq_of_lt (by rw [Y.len]; omega)]
      have e : pd inf (0 + k) = inf.getD k 0 := by unfold pd; rw [Nat.zero_add, Nat.mod_eq_of_lt (by omega)]
      rw [lack, ih (by omega), a, b, c, e]
      omega
  have := h inf.length (Nat.le_refl _)
  rw [List.take_length, List.take_of_length_le (by rw [Y.len]; exact Nat.le_refl _)] at this
  exact this
theorem r_is_integer (v : Int) : sf_is_integer (.int v) = .ok true := by simp [sf_is_integer]
theorem r_is_within (v lo hi : Int) : sf_is_within (.int v) lo hi = .ok (decide (lo ≤ v) && decide (v ≤ hi)) := by simp [sf_is_within, r_is_integer]
theorem r_check_number (nm : PySem.Str) (v lo hi : Int) (h : lo ≤ v ∧ v ≤ hi) : sf_check_number nm (.int v) lo hi = .ok (.int v) := by
  simp [sf_check_number, r_is_within, h.1, h.2]
theorem r_check_room (v : Int) (h : 1 ≤ v ∧ v ≤ 1000) : sf_check_room (.int v) = .ok (.int v) := by
  simp [sf_check_room, r_check_number _ v 1 1000 h]
theorem r_is_row {d : D} {ns : List Int} (h : Row d ns) : sf_is_row d = .ok true := by
  rcases h with rfl | rfl <;> simp [sf_is_row]
theorem row_len {d : D} {ns : List Int} (h : Row d ns) : lenR d = .ok (ns.length : Int) := by
  rcases h with rfl | rfl <;> simp
theorem row_items {d : D} {ns : List Int} (h : Row d ns) : items d = .ok (ns.map D.int) := by
  rcases h with rfl | rfl <;> simp
theorem unAll_int (ns : List Int) : unAll unI (ns.map D.int) = some ns := unAll_map (e := D.int) (fun _ => rfl) ns
theorem r_check_integers (nm : PySem.Str) {row : D} {ns : List Int} (size lo hi : Int) (hr : Row row ns) (hl : (ns.length : Int) = size) (h : ∀ x ∈ ns, lo ≤ x ∧ x ≤ hi) : sf_check_integers nm row size lo hi = .ok ns := by
  have e : forR (fun z6' z7' => lp_check_integers_0 nm lo hi z6') (enumI (ns.map D.int)) () = .ok () := forR_unit _ fun p hp => by
    obtain ⟨j, e1, e2⟩ := enumI_mem hp
    rw [List.getElem?_map] at e2
    cases q : ns[j]? with
    | none => rw [q] at e2; cases e2
    | some x =>
      rw [q] at e2
      have hx := h x (List.mem_of_getElem? q)
      have e3 : p.2 = D.int x := (Option.some.inj e2).symm
      simp [lp_check_integers_0, e3, r_is_within, hx.1, hx.2]
  have e4 : unT unI (D.tup ((ns.map D.int).map eD)) = some ns := by
    show unAll unI ((ns.map D.int).map eD) = some ns
    rw [List.map_map]
    exact unAll_int ns
  simp [sf_check_integers, r_is_row hr, row_len hr, row_items hr, hl, e, e4]
theorem r_check_flows (nm : PySem.Str) {row : D} {ns : List Int} (hr : Row row ns) (h0 : 0 < ns.length) (h1 : ns.length ≤ 24) (h : ∀ x ∈ ns, 0 ≤ x ∧ x ≤ 1000) : sf_check_flows nm row = .ok ns := by
  have a : ¬ ((ns.length : Int) = 0) := by omega
  have b : ¬ (24 : Int) < ns.length := by omega
  have a' : ¬ ns = [] := fun z => by rw [z] at h0; exact absurd h0 (by decide)
  simp [sf_check_flows, r_is_row hr, row_len hr, b, a', r_check_integers nm (ns.length : Int) 0 1000 hr rfl h]
theorem r_check_draws {row : D} {ns : List Int} (size : Int) (hr : Row row ns) (hl : (ns.length : Int) = size) (h : ∀ x ∈ ns, 0 ≤ x ∧ x ≤ 1000) : sf_check_draws row size = .ok ns := by
  simp [sf_check_draws, r_check_integers _ size 0 1000 hr hl h]
theorem r_check_moment (room n p l : Int) (h1 : 0 ≤ p) (h2 : p < n) (h3 : 0 ≤ l) (h4 : l ≤ room) : sf_check_moment room n (.int p) (.int l) = .ok () := by
  simp [sf_check_moment, r_check_number _ p 0 (n - 1) ⟨h1, by omega⟩, r_check_number _ l 0 room ⟨h3, h4⟩]
section
variable {inf dr : List Int} (Y : Y0 inf dr)
include Y
theorem at_i (t : Nat) : atR inf (mdI t inf.length) = .ok (pd inf t) := atR_pd rfl Y.pos t
theorem at_d (t : Nat) : atR dr (mdI t inf.length) = .ok (pd dr t) := atR_pd Y.len Y.pos t
theorem fm_i (a b : Nat) : fmodR ((a : Int) + (b : Int)) (inf.length : Int) = .ok (mdI (a + b) inf.length) := by
  have h := Y.pos
  unfold mdI
  rw [fmodR_ok (by omega), ← fmod_cast]
  congr 1
theorem fm_d (a b : Nat) : fmodR ((a : Int) + (b : Int)) (dr.length : Int) = .ok (mdI (a + b) inf.length) := by
  rw [Y.len]
  exact fm_i Y a b
theorem rng_n : rngR (inf.length : Int) = .ok (upI 0 inf.length) := by
  have := Y.le
  rw [rngR_ok (by omega)]
  simp
theorem rng_d : rngR (dr.length : Int) = .ok (upI 0 inf.length) := by rw [Y.len]; exact rng_n Y
end
section
variable {inf dr : List Int} (Y : Yr inf dr)
include Y
theorem Yr.row1 : ∀ {row : D}, Row row inf → ∀ nm, sf_check_flows nm row = .ok inf := fun hr nm => r_check_flows nm hr Y.pos Y.le Y.i
theorem Yr.row2 : ∀ {row : D}, Row row dr → sf_check_draws row (inf.length : Int) = .ok dr := fun hr => r_check_draws _ hr (by rw [Y.len]) Y.d
end
end Mp

set_option Elab.async false
set_option linter.all false
set_option maxRecDepth 100000
set_option maxHeartbeats 400000
/-! Vd: the law's cells and its year. -/
namespace Mp
open Ym
def Cell (cs : List Int) : Prop := ∀ c ∈ cs, 0 ≤ c ∧ c < 1000000000000000000
theorem Cell.app {cs : List Int} {x : Int} (h : Cell cs) (hx : 0 ≤ x ∧ x < 1000000000000000000) : Cell (cs ++ [x]) := fun c hc => by
  rcases List.mem_append.mp hc with q | q
  · exact h c q
  · rw [List.mem_singleton.mp q]
    exact hx
theorem atR_last {xs : List Int} {x : Int} : atR (xs ++ [x]) (-1) = .ok x := by
  have e : ixN (xs ++ [x]).length (-1) = some xs.length := by
    unfold ixN
    rw [List.length_append, List.length_singleton, if_neg (by omega), if_pos (by omega)]
    congr 1
    omega
  unfold atR atI
  rw [e]
  show orBad ((xs ++ [x])[xs.length]?) = _
  simp
theorem r_cells (ns : List Int) : ∃ cs : List Int, sf__law_cells ns = .ok cs ∧ cs.length = 63 ∧ Cell cs := by
  obtain ⟨s, e, h1, h2⟩ := forR_upinv (f := fun k_ z3' => lp__law_cells_0 ns k_ z3'.1 z3'.2) (fun j (s : List Int × Int) => s.1.length = j ∧ Cell s.1) 63 0 (s := ([], 0)) ⟨rfl, fun _ h => by cases h⟩ fun j s hj ⟨hl, hc⟩ => by
    have step : ∀ cell : Int, ∃ s', ((if (decide (cell < 1000000000000000000)) then R.ok (Int.fmod ((((Int.fmod cell 1000003) + (31 * (0 + (j : Int)))) + 17) * 48271) 2147483647) >>= fun first => R.ok (Int.fmod (((first + 101) * 69621) + (0 + (j : Int))) 2147483629) >>= fun second => R.ok ((first * 2147483629) + second) >>= fun cell => R.ok cell else R.ok cell : R Int) >>= fun cell => fmodR cell 1000000000000000000 >>= fun z6' => appR s.1 z6' >>= fun cells => atR cells (-1) >>= fun z7' => R.ok (Int.fdiv z7' 1009) >>= fun seed => R.ok (cells, seed)) = .ok s' ∧ s'.1.length = j + 1 ∧ Cell s'.1 := fun cell => by
      have fin : ∀ x : Int, ∃ s' : List Int × Int, (fmodR x 1000000000000000000 >>= fun z6' => appR s.1 z6' >>= fun cells => atR cells (-1) >>= fun z7' => R.ok (Int.fdiv z7' 1009) >>= fun seed => R.ok (cells, seed)) = .ok s' ∧ s'.1.length = j + 1 ∧ Cell s'.1 := fun x => by
        refine ⟨(s.1 ++ [x.fmod 1000000000000000000], (x.fmod 1000000000000000000).fdiv 1009), ?_, ?_, hc.app ⟨fmod_nn _ (by omega), fmod_lt _ (by omega)⟩⟩
        · rw [fmodR_ok (by omega), R.bind_ok, appR_ok (by omega), R.bind_ok, atR_last]
          rfl
        · rw [List.length_append, hl]
          rfl
      split
      · exact fin _
      · exact fin _
    show ∃ s', lp__law_cells_0 ns (0 + (j : Int)) s.1 s.2 = _ ∧ _
    unfold lp__law_cells_0
    rw [R.bind_ok]
    by_cases q : (0 + (j : Int)) < ns.length
    · rw [decide_eq_true q, if_pos rfl, atR_gi (by omega) q]
      exact step _
    · rw [decide_eq_false q, if_neg (by decide)]
      exact step _
  refine ⟨s.1, ?_, h1, h2⟩
  unfold sf__law_cells
  rw [R.bind_ok, R.bind_ok, e]
  rfl
def Rg (xs : List Int) : Prop := ∀ x ∈ xs, 0 ≤ x ∧ x ≤ 1000
theorem Rg.set {xs : List Int} (h : Rg xs) (i : Nat) {v : Int} (hv : 0 ≤ v ∧ v ≤ 1000) : Rg (xs.set i v) := fun x hx => by
  rcases List.mem_or_eq_of_mem_set hx with q | q
  · exact h x q
  · rw [q]; exact hv
theorem Rg.gi {xs : List Int} (h : Rg xs) {i : Int} (h0 : 0 ≤ i) (h1 : i < xs.length) : 0 ≤ gi xs i ∧ gi xs i ≤ 1000 := h _ (gi_mem h0 h1)
theorem sum_r : ∀ {xs : List Int}, Rg xs → 0 ≤ xs.sum ∧ xs.sum ≤ 1000 * xs.length
  | [], _ => by simp
  | x :: xs, h => by
    have a := sum_r (xs := xs) fun y hy => h y (List.mem_cons_of_mem _ hy)
    have b := h x List.mem_cons_self
    rw [List.sum_cons, List.length_cons]
    omega
theorem cut_lo {xs : List Int} {t : Int} (h : 0 ≤ t) (h2 : t ≤ xs.length) : cut xs (some t) none = xs.drop t.toNat := by
  unfold cut sIx
  have h3 : ¬ t < 0 := by omega
  simp only [if_neg h3]
  rw [Nat.min_eq_left (by omega), List.take_of_length_le]
  rw [List.length_drop]
  omega
theorem cut_hi {xs : List Int} {t : Int} (h : 0 ≤ t) (h2 : t ≤ xs.length) : cut xs none (some t) = xs.take t.toNat := by
  unfold cut sIx
  have h3 : ¬ t < 0 := by omega
  simp only [if_neg h3]
  rw [Nat.min_eq_left (by omega)]
  rfl
theorem at4_ex (a b c d i : Int) (h0 : 0 ≤ i) (h1 : i < 4) : ∃ v, atR [a, b, c, d] i = .ok v ∧ (v = a ∨ v = b ∨ v = c ∨ v = d) := by
  have : i = 0 ∨ i = 1 ∨ i = 2 ∨ i = 3 := by omega
  rcases this with rfl | rfl | rfl | rfl
  · exact ⟨a, rfl, .inl rfl⟩
  · exact ⟨b, rfl, .inr (.inl rfl)⟩
  · exact ⟨c, rfl, .inr (.inr (.inl rfl))⟩
  · exact ⟨d, rfl, .inr (.inr (.inr rfl))⟩
end Mp

set_option Elab.async false
set_option linter.all false
set_option maxRecDepth 100000
set_option maxHeartbeats 400000
/-! Ve34: k34: the band's own functions. -/
namespace Mp
open Ym
open PySem (Str)
def z0 : Nat → Int := fun _ => 0
structure Bd (lo hi dr : List Int) (g : Int) : Prop where
  hl : hi.length = lo.length
  dl : dr.length = lo.length
  pos : 0 < lo.length
  le : lo.length ≤ 24
  bl : ∀ x ∈ lo, 0 ≤ x ∧ x ≤ 1000
  bd : ∀ x ∈ dr, 0 ≤ x ∧ x ≤ 1000
  bh : ∀ t, pd lo t ≤ pd hi t ∧ pd hi t ≤ 1000
  bg : 0 ≤ g ∧ g ≤ 1000
theorem Bd.y {lo hi dr : List Int} {g : Int} (Y : Bd lo hi dr g) : Y0 lo dr := ⟨Y.dl, Y.pos, Y.le, Y.bl⟩
/-- what a period loses at the least, gains at the most -/
def df (lo dr : List Int) (t : Nat) : Int := pd dr t - pd lo t
def ff (hi dr : List Int) (g : Int) (t : Nat) : Int := pd dr t + g - pd hi t
def dryL (lo dr : List Int) : List Int := (List.range lo.length).map (df lo dr)
def flL (hi dr : List Int) (g : Int) : List Int := (List.range hi.length).map (ff hi dr g)
def ngf (f : Nat → Int) (t : Nat) : Int := -f t
theorem lack_ng (f : Nat → Int) (s : Nat) : ∀ j, lack (ngf f) z0 s j = -lack f z0 s j
  | 0 => rfl
  | j + 1 => by
    rw [lack, lack, lack_ng f s j]
    unfold ngf z0
    omega
def mn (f : Nat → Int) (s n : Nat) : Int := -mx (ngf f) z0 s n
theorem mn_le (f : Nat → Int) (s : Nat) {n j : Nat} (h : j ≤ n) : mn f s n ≤ lack f z0 s j := by
  have := mx_ge (d := ngf f) (i := z0) s h
  rw [lack_ng] at this
  unfold mn
  omega
theorem mn_is (f : Nat → Int) (s n : Nat) : ∃ j, j ≤ n ∧ mn f s n = lack f z0 s j := by
  obtain ⟨j, h, e⟩ := mx_is (d := ngf f) (i := z0) s n
  rw [lack_ng] at e
  exact ⟨j, h, by unfold mn; omega⟩
theorem mn_np (f : Nat → Int) (s n : Nat) : mn f s n ≤ 0 := by
  have := mx_nn (d := ngf f) (i := z0) s n
  unfold mn
  omega
theorem per_of {f : Nat → Int} {n : Nat} (h0 : 0 < n) (h : ∀ t, f (t + n) = f t) : Per f z0 n := ⟨h0, h, fun _ => rfl⟩
theorem mx_st {f : Nat → Int} {n : Nat} (P : Per f z0 n) (h : lack f z0 0 n ≤ 0) (s : Nat) : mx f z0 (s + 1) n ≤ mx f z0 s n - f s := by
  have l1 : lack f z0 s 1 = f s := by simp [lack, z0]
  have g1 := mx_ge (d := f) (i := z0) (m := n) s (show 1 ≤ n from P.pos)
  refine mx_le fun j hj => ?_
  have e := lack_add (d := f) (i := z0) s 1 j
  rw [show 1 + j = j + 1 by omega] at e
  by_cases q : j < n
  · have := mx_ge (d := f) (i := z0) (m := n) s (show j + 1 ≤ n by omega)
    omega
  · have : j = n := by omega
    subst this
    have e2 := lack_full P (s + 1)
    omega
theorem mn_st {f : Nat → Int} {n : Nat} (P : Per f z0 n) (h : 0 ≤ lack f z0 0 n) (s : Nat) : mn f s n - f s ≤ mn f (s + 1) n := by
  have P' : Per (ngf f) z0 n := ⟨P.pos, fun t => by unfold ngf; rw [P.d], fun _ => rfl⟩
  have := mx_st P' (by rw [lack_ng]; omega) s
  unfold mn
  unfold ngf at this ⊢
  omega
theorem mx_p {f : Nat → Int} {n : Nat} (P : Per f z0 n) (s : Nat) : ∀ m, mx f z0 (s + n) m = mx f z0 s m
  | 0 => rfl
  | m + 1 => by rw [mx, mx, mx_p P s m, lack_per P]
theorem mn_p {f : Nat → Int} {n : Nat} (P : Per f z0 n) (s m : Nat) : mn f (s + n) m = mn f s m := by
  have P' : Per (ngf f) z0 n := ⟨P.pos, fun t => by unfold ngf; rw [P.d], fun _ => rfl⟩
  unfold mn
  rw [mx_p P']
theorem pd_mod (xs : List Int) (t : Nat) : pd xs (t % xs.length) = pd xs t := by unfold pd; rw [Nat.mod_mod]
theorem pd_map {n : Nat} {f : Nat → Int} (h0 : 0 < n) (h : ∀ t, f (t % n) = f t) : pd ((List.range n).map f) = f := by
  funext t
  unfold pd
  rw [List.length_map, List.length_range, List.getD_eq_getElem?_getD, List.getElem?_map, List.getElem?_range (Nat.mod_lt _ h0)]
  exact h t
theorem lack_z (xs : List Int) : ∀ k : Nat, k ≤ xs.length → lack (pd xs) z0 0 k = (xs.take k).sum
  | 0, _ => by simp [lack]
  | k + 1, h => by
    have a := sum_take xs k (by omega)
    have c : pd xs (0 + k) = xs.getD k 0 := by unfold pd; rw [Nat.zero_add, Nat.mod_eq_of_lt (by omega)]
    rw [lack, lack_z xs k (by omega), a, c]
    unfold z0
    omega
theorem lack_zs (xs : List Int) : lack (pd xs) z0 0 xs.length = xs.sum := by
  rw [lack_z xs _ (Nat.le_refl _), List.take_length]
theorem maxI_f : ∀ (xs : List Int) (a M : Int), (∀ x ∈ a :: xs, x ≤ M) → M ∈ a :: xs → xs.foldl max a = M
  | [], a, M, _, h => (List.mem_singleton.mp h).symm
  | x :: xs, a, M, h, m => by
    rw [List.foldl_cons]
    have ha := h a List.mem_cons_self
    have hx := h x (List.mem_cons_of_mem _ List.mem_cons_self)
    refine maxI_f xs (max a x) M (fun y hy => ?_) ?_
    · rcases List.mem_cons.mp hy with r | r
      · omega
      · exact h y (List.mem_cons_of_mem _ (List.mem_cons_of_mem _ r))
    · rcases List.mem_cons.mp m with r | r
      · rw [show max a x = M by omega]; exact List.mem_cons_self
      · rcases List.mem_cons.mp r with r | r
        · rw [show max a x = M by omega]; exact List.mem_cons_self
        · exact List.mem_cons_of_mem _ r
theorem minI_f : ∀ (xs : List Int) (a M : Int), (∀ x ∈ a :: xs, M ≤ x) → M ∈ a :: xs → xs.foldl min a = M
  | [], a, M, _, h => (List.mem_singleton.mp h).symm
  | x :: xs, a, M, h, m => by
    rw [List.foldl_cons]
    have ha := h a List.mem_cons_self
    have hx := h x (List.mem_cons_of_mem _ List.mem_cons_self)
    refine minI_f xs (min a x) M (fun y hy => ?_) ?_
    · rcases List.mem_cons.mp hy with r | r
      · omega
      · exact h y (List.mem_cons_of_mem _ (List.mem_cons_of_mem _ r))
    · rcases List.mem_cons.mp m with r | r
      · rw [show min a x = M by omega]; exact List.mem_cons_self
      · rcases List.mem_cons.mp r with r | r
        · rw [show min a x = M by omega]; exact List.mem_cons_self
        · exact List.mem_cons_of_mem _ r
theorem maxR_is {xs : List Int} {M : Int} (h : ∀ x ∈ xs, x ≤ M) (m : M ∈ xs) : maxR xs = .ok M := by
  cases xs with
  | nil => cases m
  | cons a xs => exact congrArg R.ok (maxI_f xs a M h m)
theorem minR_is {xs : List Int} {M : Int} (h : ∀ x ∈ xs, M ≤ x) (m : M ∈ xs) : minR xs = .ok M := by
  cases xs with
  | nil => cases m
  | cons a xs => exact congrArg R.ok (minI_f xs a M h m)
theorem maxR_ex {xs : List Int} (h : 0 < xs.length) : ∃ M, maxR xs = .ok M := by
  cases xs with
  | nil => exact absurd h (by decide)
  | cons a xs => exact ⟨_, rfl⟩
/-- the sums from s on -/
def ss (f : Nat → Int) (s m : Nat) : List Int := (List.range (m + 1)).map fun j => lack f z0 s j
theorem ss_len (f : Nat → Int) (s m : Nat) : (ss f s m).length = m + 1 := by unfold ss; simp
theorem ss_max (f : Nat → Int) (s m : Nat) : maxR (ss f s m) = .ok (mx f z0 s m) := by
  refine maxR_is (fun x hx => ?_) ?_
  · obtain ⟨j, hj, rfl⟩ := List.mem_map.mp hx
    have := List.mem_range.mp hj
    exact mx_ge s (by omega)
  · obtain ⟨j, hj, e⟩ := mx_is (d := f) (i := z0) s m
    rw [e]
    exact List.mem_map.mpr ⟨j, List.mem_range.mpr (by omega), rfl⟩
theorem ss_min (f : Nat → Int) (s m : Nat) : minR (ss f s m) = .ok (mn f s m) := by
  refine minR_is (fun x hx => ?_) ?_
  · obtain ⟨j, hj, rfl⟩ := List.mem_map.mp hx
    have := List.mem_range.mp hj
    exact mn_le f s (by omega)
  · obtain ⟨j, hj, e⟩ := mn_is f s m
    rw [e]
    exact List.mem_map.mpr ⟨j, List.mem_range.mpr (by omega), rfl⟩
theorem ss_index (f : Nat → Int) (s m : Nat) {v : Int} (h : ∃ j, j ≤ m ∧ v = lack f z0 s j) : ∃ j : Nat, indexR (ss f s m) v = .ok j ∧ j ≤ m ∧ lack f z0 s j = v := by
  obtain ⟨j, hj, e⟩ := h
  unfold indexR
  cases q : (ss f s m).findIdx? (· == v) with
  | none =>
    rw [List.findIdx?_eq_none_iff] at q
    have := q v (List.mem_map.mpr ⟨j, List.mem_range.mpr (by omega), e.symm⟩)
    simp at this
  | some k =>
    obtain ⟨hk, q2, _⟩ := List.findIdx?_eq_some_iff_getElem.mp q
    refine ⟨k, rfl, by rw [ss_len] at hk; omega, ?_⟩
    have h1 : (ss f s m)[k]? = some v := by rw [List.getElem?_eq_getElem hk]; simpa using q2
    rw [ss_len] at hk
    unfold ss at h1
    rw [List.getElem?_map, List.getElem?_range hk] at h1
    exact Option.some.inj h1
theorem r_sums {xs : List Int} (h0 : 0 < xs.length) (s m : Nat) (hm : m ≤ 24) : sf_sums_from xs (s : Int) (m : Int) = .ok (ss (pd xs) s m) := by
  have h := forR_range (f := fun turn sums => lp_sums_from_0 xs s turn sums) (fun j => ss (pd xs) s j) m 0 (x := [0]) rfl fun j hj => by
    show lp_sums_from_0 xs s (0 + j) (ss (pd xs) s j) = _
    rw [Int.zero_add]
    have e1 : ss (pd xs) s j = (List.range j).map (fun j => lack (pd xs) z0 s j) ++ [lack (pd xs) z0 s j] := by
      unfold ss
      rw [List.range_succ, List.map_append]
      rfl
    have e2 : atR (ss (pd xs) s j) (-1) = .ok (lack (pd xs) z0 s j) := by rw [e1, atR_last]
    have e3 : fmodR ((s : Int) + (j : Int)) (xs.length : Int) = .ok (mdI (s + j) xs.length) := by
      unfold mdI
      rw [fmodR_ok (by omega), ← fmod_cast]
      congr 1
    unfold lp_sums_from_0
    rw [e2, R.bind_ok, e3, R.bind_ok, atR_pd rfl h0, R.bind_ok, appR_ok (by rw [ss_len]; omega), R.bind_ok]
    congr 1
    unfold ss
    rw [List.range_succ (n := j + 1), List.map_append]
    congr 1
    simp [lack, z0]
  unfold sf_sums_from
  rw [R.bind_ok, rngR_ok (by omega), R.bind_ok, show ((m : Nat) : Int).toNat = m by omega, h]
  rfl
section
variable {lo hi dr : List Int} {g : Int} (Y : Bd lo hi dr g)
include Y
theorem Bd.mod1 (t : Nat) : df lo dr (t % lo.length) = df lo dr t := by
  unfold df
  rw [pd_mod lo, ← Y.dl, pd_mod dr]
theorem Bd.mod2 (t : Nat) : ff hi dr g (t % lo.length) = ff hi dr g t := by
  unfold ff
  rw [← Y.hl, pd_mod hi, Y.hl, ← Y.dl, pd_mod dr]
theorem Bd.p1 : Per (df lo dr) z0 lo.length := per_of Y.pos fun t => by rw [← Y.mod1, Nat.add_mod_right, Y.mod1]
theorem Bd.p2 : Per (ff hi dr g) z0 lo.length := per_of Y.pos fun t => by rw [← Y.mod2, Nat.add_mod_right, Y.mod2]
theorem pd_dry : pd (dryL lo dr) = df lo dr := pd_map Y.pos Y.mod1
theorem pd_fl : pd (flL hi dr g) = ff hi dr g := pd_map (by rw [Y.hl]; exact Y.pos) (by rw [Y.hl]; exact Y.mod2)
omit Y in
theorem dryL_len : (dryL lo dr).length = lo.length := by unfold dryL; simp
theorem flL_len : (flL hi dr g).length = lo.length := by unfold flL; simp [Y.hl]
theorem r_dry : sf_dry_losses lo dr = .ok (dryL lo dr) := by
  have hd := Y.dl
  have hle := Y.le
  unfold sf_dry_losses
  rw [lcR_map (g := fun (z : Int × Int) => z.1 - z.2) (by unfold zipI; rw [List.length_zipWith]; omega) fun _ _ => rfl, R.bind_ok]
  congr 1
  apply List.ext_getElem
  · unfold zipI dryL; simp [hd]
  · intro j h1 h2
    unfold dryL at h2
    have h2' : j < lo.length := by simpa using h2
    unfold zipI dryL df pd
    simp [Nat.mod_eq_of_lt h2', hd, h2']
theorem r_flood : sf_flood_losses hi dr g = .ok (flL hi dr g) := by
  have hd := Y.dl
  have hh := Y.hl
  have hle := Y.le
  unfold sf_flood_losses
  rw [lcR_map (g := fun (z : Int × Int) => z.1 + g - z.2) (by unfold zipI; rw [List.length_zipWith]; omega) fun _ _ => rfl, R.bind_ok]
  congr 1
  apply List.ext_getElem
  · unfold zipI flL; simp [hd, hh]
  · intro j h1 h2
    unfold flL at h2
    have h2' : j < lo.length := by simpa [hh] using h2
    unfold zipI flL ff pd
    simp [Nat.mod_eq_of_lt h2', hd, hh, h2']
def prs (room : Int) (lo hi dr : List Int) (g : Int) : List (Int × Int) := (List.range lo.length).map fun s => (mx (df lo dr) z0 s lo.length, room + mn (ff hi dr g) s lo.length)
omit Y in
theorem prs_len {room : Int} : (prs room lo hi dr g).length = lo.length := by unfold prs; simp
theorem r_pairs (room : Int) : sf_pairs_of room (dryL lo dr) (flL hi dr g) = .ok (prs room lo hi dr g) := by
  have hle := Y.le
  have hp := Y.pos
  have h := forR_range (f := fun start_ pairs => lp_pairs_of_0 room (dryL lo dr) (flL hi dr g) (lo.length : Int) start_ pairs) (fun j => (List.range j).map fun s => (mx (df lo dr) z0 s lo.length, room + mn (ff hi dr g) s lo.length)) lo.length 0 (x := []) rfl fun j hj => by
    show lp_pairs_of_0 room (dryL lo dr) (flL hi dr g) (lo.length : Int) (0 + j) _ = _
    rw [Int.zero_add]
    unfold lp_pairs_of_0
    rw [r_sums (by rw [dryL_len]; exact hp) j _ hle, R.bind_ok, ss_max, R.bind_ok, r_sums (by rw [flL_len Y]; exact hp) j _ hle, R.bind_ok, ss_min, R.bind_ok, R.bind_ok, appR_ok (by simp; omega), R.bind_ok, pd_dry Y, pd_fl Y, List.range_succ, List.map_append]
    rfl
  unfold sf_pairs_of
  rw [R.bind_ok, R.bind_ok, dryL_len, rngR_ok (by omega), R.bind_ok, show ((lo.length : Nat) : Int).toNat = lo.length by omega, h]
  rfl
/-- there is a band -/
def okB (room : Int) (lo hi dr : List Int) (g : Int) : Prop := (dryL lo dr).sum ≤ 0 ∧ 0 ≤ (flL hi dr g).sum ∧ ∀ s, s < lo.length → mx (df lo dr) z0 s lo.length ≤ room + mn (ff hi dr g) s lo.length
theorem okB.iff {room : Int} : (prs room lo hi dr g).all (fun z => decide (z.1 ≤ z.2)) = true ↔ ∀ s, s < lo.length → mx (df lo dr) z0 s lo.length ≤ room + mn (ff hi dr g) s lo.length := by
  rw [List.all_eq_true]
  unfold prs
  constructor
  · intro h s hs
    have := h _ (List.mem_map.mpr ⟨s, List.mem_range.mpr hs, rfl⟩)
    simpa using this
  · intro h z hz
    obtain ⟨s, hs, rfl⟩ := List.mem_map.mp hz
    simpa using h s (List.mem_range.mp hs)
theorem r_band_of (room : Int) : (okB room lo hi dr g → sf_band_of room lo hi dr g = .ok (some (prs room lo hi dr g))) ∧ (¬ okB room lo hi dr g → sf_band_of room lo hi dr g = .ok none) := by
  have f1 : forO (fun z5' z6' => lp_band_of_0 z5') (prs room lo hi dr g) () = .ok (if (prs room lo hi dr g).all (fun z => decide (z.1 ≤ z.2)) then .nx () else .rt none) := forO_all _ fun p _ => by
    unfold lp_band_of_0
    by_cases q : p.1 ≤ p.2
    · rw [decide_eq_true q, decide_eq_false (by omega)]
      rfl
    · rw [decide_eq_false q, decide_eq_true (by omega)]
      rfl
  have hit := okB.iff Y (room := room)
  unfold sf_band_of
  rw [r_dry Y, R.bind_ok, r_flood Y, R.bind_ok, r_pairs Y, R.bind_ok, f1, R.bind_ok]
  constructor
  · rintro ⟨h1, h2, h3⟩
    rw [decide_eq_false (by omega), decide_eq_false (by omega), if_neg (by decide), if_pos (hit.mpr h3)]
    rfl
  · intro h
    by_cases q1 : 0 < (dryL lo dr).sum
    · rw [decide_eq_true q1]; rfl
    · by_cases q2 : (flL hi dr g).sum < 0
      · rw [decide_eq_true q2, Bool.or_true]; rfl
      · rw [decide_eq_false q1, decide_eq_false q2, if_neg (by decide), if_neg fun z => h ⟨by omega, by omega, hit.mp z⟩]
        rfl
end
end Mp

set_option Elab.async false
set_option linter.all false
set_option maxRecDepth 100000
set_option maxHeartbeats 400000
/-! Vf34: k34: checks, band, squeeze. -/
namespace Mp
open Ym
open PySem (Str)
section
variable {lo hi dr : List Int} {g : Int} (Y : Bd lo hi dr g)
include Y
theorem r_check_high : sf_check_high (eL eI hi) lo = .ok hi := by
  have e : forR (fun z6' z7' => lp_check_high_0 lo z6') (enumI (hi.map D.int)) () = .ok () := forR_unit _ fun p hp => by
    obtain ⟨j, e1, e2⟩ := enumI_mem hp
    rw [List.getElem?_map] at e2
    cases q : hi[j]? with
    | none => rw [q] at e2; cases e2
    | some x =>
      rw [q] at e2
      have hj := (List.getElem?_eq_some_iff.mp q).1
      have ex : pd hi j = x := by
        unfold pd
        rw [Nat.mod_eq_of_lt hj, List.getD_eq_getElem?_getD, q]
        rfl
      have hx := Y.bh j
      rw [ex] at hx
      have e3 : p.2 = D.int x := (Option.some.inj e2).symm
      have hl := Y.hl
      simp [lp_check_high_0, e3, e1, atR_pd' (show j < lo.length by omega), r_is_within, hx.1, hx.2]
  have e4 : unT unI (D.tup ((hi.map D.int).map eD)) = some hi := by
    show unAll unI ((hi.map D.int).map eD) = some hi
    rw [List.map_map]
    exact unAll_int hi
  have hl := Y.hl
  simp [sf_check_high, r_is_row (.inl rfl), row_len (.inl rfl), row_items (.inl rfl), hl, e, e4]
theorem r_check_band (room : Int) (hr : 1 ≤ room ∧ room ≤ 1000) : sf_check_band room (eL eI lo) (eL eI hi) (eL eI dr) g = .ok (lo, hi, dr) := by
  unfold sf_check_band
  rw [r_check_room room hr, R.bind_ok, r_check_flows _ (.inl rfl) Y.pos Y.le Y.bl, R.bind_ok, r_check_high Y, R.bind_ok, r_check_draws _ (.inl rfl) (by rw [Y.dl]) Y.bd, R.bind_ok, r_check_number _ g 0 1000 Y.bg]
  rfl
theorem r_band (room : Int) (hr : 1 ≤ room ∧ room ≤ 1000) : (okB room lo hi dr g → sf_band room (eL eI lo) (eL eI hi) (eL eI dr) g = .ok (some (prs room lo hi dr g))) ∧ (¬ okB room lo hi dr g → sf_band room (eL eI lo) (eL eI hi) (eL eI dr) g = .ok none) := by
  have h := r_band_of Y room
  unfold sf_band
  rw [r_check_band Y room hr, R.bind_ok]
  exact ⟨fun q => by rw [h.1 q]; rfl, fun q => by rw [h.2 q]; rfl⟩
theorem sum_dry : (dryL lo dr).sum = dr.sum - lo.sum := by
  have a := lack_zs (dryL lo dr)
  rw [pd_dry Y, dryL_len] at a
  rw [← a, ← lack_sum Y.y]
  have : ∀ j, lack (df lo dr) z0 0 j = lack (pd dr) (pd lo) 0 j := fun j => by
    induction j with
    | zero => rfl
    | succ j ih => rw [lack, lack, ih]; unfold df z0; omega
  exact this _
theorem sum_fl : (flL hi dr g).sum = dr.sum + g * lo.length - hi.sum := by
  have a := lack_zs (flL hi dr g)
  rw [pd_fl Y, flL_len Y] at a
  have b := lack_zs dr
  have c := lack_zs hi
  rw [Y.dl] at b
  rw [Y.hl] at c
  have : ∀ j : Nat, lack (ff hi dr g) z0 0 j = lack (pd dr) z0 0 j + g * j - lack (pd hi) z0 0 j := fun j => by
    induction j with
    | zero => simp [lack]
    | succ j ih =>
      have e : g * ((j + 1 : Nat) : Int) = g * j + g := by rw [Int.natCast_add, Int.mul_add]; simp
      rw [lack, lack, lack, ih, e]
      unfold ff z0
      omega
  rw [← a, ← b, ← c, this]
theorem lack_dry : lack (df lo dr) z0 0 lo.length = (dryL lo dr).sum := by
  have a := lack_zs (dryL lo dr)
  rwa [pd_dry Y, dryL_len] at a
theorem lack_fl : lack (ff hi dr g) z0 0 lo.length = (flL hi dr g).sum := by
  have a := lack_zs (flL hi dr g)
  rwa [pd_fl Y, flL_len Y] at a
def meetD (s j k : Nat) : D := D.tup [D.str (Str.ofString "meet"), D.int s, D.int j, D.int k]
theorem r_squeeze (room : Int) (hr : 1 ≤ room ∧ room ≤ 1000) : (okB room lo hi dr g → sf_squeeze room (eL eI lo) (eL eI hi) (eL eI dr) g = .ok .non) ∧
    (¬ okB room lo hi dr g → sf_squeeze room (eL eI lo) (eL eI hi) (eL eI dr) g = .ok (D.tup [D.str (Str.ofString "dry")]) ∧ lo.sum < dr.sum ∨
      sf_squeeze room (eL eI lo) (eL eI hi) (eL eI dr) g = .ok (D.tup [D.str (Str.ofString "flood")]) ∧ dr.sum ≤ lo.sum ∧ dr.sum + g * lo.length < hi.sum ∨
      ∃ s j k : Nat, sf_squeeze room (eL eI lo) (eL eI hi) (eL eI dr) g = .ok (meetD s j k) ∧ dr.sum ≤ lo.sum ∧ ¬ dr.sum + g * lo.length < hi.sum ∧ s < lo.length ∧ j ≤ lo.length ∧ k ≤ lo.length ∧ room + lack (ff hi dr g) z0 s k < lack (df lo dr) z0 s j) := by
  have s1 := sum_dry Y
  have s2 := sum_fl Y
  have hle := Y.le
  have hp := Y.pos
  have E := forO_inv (f := fun z7' z8' => lp_squeeze_0 room (dryL lo dr) (flL hi dr g) z7') (fun j (_ : Unit) => ∀ s, s < j → mx (df lo dr) z0 s lo.length ≤ room + mn (ff hi dr g) s lo.length)
    (fun v => ∃ s j k : Nat, v = meetD s j k ∧ s < lo.length ∧ j ≤ lo.length ∧ k ≤ lo.length ∧ room + lack (ff hi dr g) z0 s k < lack (df lo dr) z0 s j) (enumI (prs room lo hi dr g)) 0 () (fun _ h => absurd h (by omega)) fun j x _ hx hq => by
    have hx' : x.1 = (j : Int) ∧ (prs room lo hi dr g)[j]? = some x.2 := by
      unfold enumI at hx
      rw [List.getElem?_zipWith] at hx
      by_cases hj : j < (prs room lo hi dr g).length
      · rw [List.getElem?_range hj, List.getElem?_eq_getElem hj] at hx
        cases hx
        exact ⟨rfl, List.getElem?_eq_getElem hj⟩
      · rw [List.getElem?_eq_none (l := List.range _) (by simp; omega)] at hx
        cases hx
    obtain ⟨e1, e2⟩ := hx'
    have hj := (List.getElem?_eq_some_iff.mp e2).1
    rw [prs_len] at hj
    unfold prs at e2
    rw [List.getElem?_map, List.getElem?_range hj] at e2
    have e3 : x.2 = (mx (df lo dr) z0 j lo.length, room + mn (ff hi dr g) j lo.length) := (Option.some.inj e2).symm
    unfold lp_squeeze_0
    rw [R.bind_ok, e3, e1]
    rw [Nat.zero_add] at hq ⊢
    by_cases q : room + mn (ff hi dr g) j lo.length < mx (df lo dr) z0 j lo.length
    · refine .inr ?_
      obtain ⟨a, a1, a2, a3⟩ := ss_index (df lo dr) j lo.length (mx_is (d := df lo dr) (i := z0) j lo.length)
      obtain ⟨b, b1, b2, b3⟩ := ss_index (ff hi dr g) j lo.length (mn_is (ff hi dr g) j lo.length)
      refine ⟨meetD j a b, ?_, j, a, b, rfl, hj, a2, b2, by omega⟩
      rw [decide_eq_true q, if_pos rfl, dryL_len, r_sums (by rw [dryL_len]; exact hp) j _ hle, R.bind_ok, pd_dry Y, a1, R.bind_ok, r_sums (by rw [flL_len Y]; exact hp) j _ hle, R.bind_ok, pd_fl Y, show room + mn (ff hi dr g) j lo.length - room = mn (ff hi dr g) j lo.length by omega, b1]
      rfl
    · refine .inl ⟨(), ?_, fun s hs => ?_⟩
      · rw [decide_eq_false q]
        rfl
      · by_cases r : s = j
        · subst r; omega
        · exact hq s (by omega)
  have hlen : (enumI (prs room lo hi dr g)).length = lo.length := by
    unfold enumI
    rw [List.length_zipWith, List.length_range, prs_len]
    omega
  rw [hlen, Nat.zero_add] at E
  unfold sf_squeeze
  rw [r_check_band Y room hr, R.bind_ok, r_dry Y, R.bind_ok, r_flood Y, R.bind_ok, r_pairs Y, R.bind_ok]
  constructor
  · rintro ⟨h1, h2, h3⟩
    rw [decide_eq_false (by omega), if_neg (by decide), decide_eq_false (by omega), if_neg (by decide)]
    rcases E with ⟨_, e, _⟩ | ⟨v, e, s, j, k, _, h4, h5, h6, h7⟩
    · rw [e]; rfl
    · have a := h3 s h4
      have b := mx_ge (d := df lo dr) (i := z0) s h5
      have c := mn_le (ff hi dr g) s h6
      omega
  · intro h
    by_cases q1 : 0 < (dryL lo dr).sum
    · exact .inl ⟨by rw [decide_eq_true q1]; rfl, by omega⟩
    · refine .inr ?_
      by_cases q2 : (flL hi dr g).sum < 0
      · exact .inl ⟨by rw [decide_eq_false q1, if_neg (by decide), decide_eq_true q2]; rfl, by omega, by omega⟩
      · refine .inr ?_
        rcases E with ⟨_, _, h3⟩ | ⟨v, e, s, j, k, e2, h4, h5, h6, h7⟩
        · exact absurd ⟨by omega, by omega, h3⟩ h
        · refine ⟨s, j, k, ?_, by omega, by omega, h4, h5, h6, h7⟩
          rw [decide_eq_false q1, if_neg (by decide), decide_eq_false q2, if_neg (by decide), e, e2]
          rfl
/-- the band's own laws -/
theorem prs_st {room : Int} (h : okB room lo hi dr g) (s : Nat) : mx (df lo dr) z0 (s + 1) lo.length ≤ mx (df lo dr) z0 s lo.length + pd lo s - pd dr s ∧ room + mn (ff hi dr g) s lo.length + pd hi s - pd dr s - g ≤ room + mn (ff hi dr g) (s + 1) lo.length := by
  have a := mx_st Y.p1 (by rw [lack_dry Y]; exact h.1) s
  have b := mn_st Y.p2 (by rw [lack_fl Y]; exact h.2.1) s
  unfold df at a ⊢
  unfold ff at b ⊢
  omega
theorem mx_mod1 (s : Nat) : mx (df lo dr) z0 (s % lo.length) lo.length = mx (df lo dr) z0 s lo.length := by
  have : ∀ k, mx (df lo dr) z0 (s % lo.length + k * lo.length) lo.length = mx (df lo dr) z0 (s % lo.length) lo.length := fun k => by
    induction k with
    | zero => simp
    | succ k ih => rw [Nat.succ_mul, ← Nat.add_assoc, mx_p Y.p1, ih]
  have e := Nat.mod_add_div s lo.length
  rw [Nat.mul_comm] at e
  rw [← this (s / lo.length), e]
theorem mn_mod1 (s : Nat) : mn (ff hi dr g) (s % lo.length) lo.length = mn (ff hi dr g) s lo.length := by
  have : ∀ k, mn (ff hi dr g) (s % lo.length + k * lo.length) lo.length = mn (ff hi dr g) (s % lo.length) lo.length := fun k => by
    induction k with
    | zero => simp
    | succ k ih => rw [Nat.succ_mul, ← Nat.add_assoc, mn_p Y.p2, ih]
  have e := Nat.mod_add_div s lo.length
  rw [Nat.mul_comm] at e
  rw [← this (s / lo.length), e]
theorem prs_in {room : Int} (h : okB room lo hi dr g) (s : Nat) : 0 ≤ mx (df lo dr) z0 s lo.length ∧ mx (df lo dr) z0 s lo.length ≤ room + mn (ff hi dr g) s lo.length ∧ room + mn (ff hi dr g) s lo.length ≤ room := by
  have a := mx_nn (d := df lo dr) (i := z0) s lo.length
  have b := mn_np (ff hi dr g) s lo.length
  have c := h.2.2 (s % lo.length) (Nat.mod_lt _ Y.pos)
  rw [mx_mod1 Y, mn_mod1 Y] at c
  omega
end
end Mp

set_option Elab.async false
set_option linter.all false
set_option maxRecDepth 100000
set_option maxHeartbeats 400000
/-! Vg34: k34: the judges of a band. -/
namespace Mp
open Ym
open PySem (Str)
def isI : D → Bool
  | .int _ => true
  | _ => false
theorem r_law_number (d : D) : sf__law_number d = .ok (isI d) := by cases d <;> rfl
def inRg (lo hi : Int) : D → Bool
  | .int v => decide (lo ≤ v) && decide (v ≤ hi)
  | _ => false
theorem r_within (d : D) (lo hi : Int) : sf_is_within d lo hi = .ok (inRg lo hi d) := by
  cases d <;> first | rfl | (rw [r_is_within]; rfl)
def rowI : D → Option (List D)
  | .lst xs => some xs
  | .tup xs => some xs
  | _ => none
theorem rowI_t {d : D} (h : rowI d = none) : List.any [Ty.list, Ty.tuple] (isTy d) = false := by cases d <;> first | rfl | cases h
theorem rowI_s {d : D} {xs : List D} (h : rowI d = some xs) : List.any [Ty.list, Ty.tuple] (isTy d) = true ∧ lenR d = .ok (xs.length : Int) ∧ items d = .ok xs := by cases d <;> cases h <;> exact ⟨rfl, rfl, rfl⟩
theorem r_is_row' {d : D} : sf_is_row d = .ok (List.any [Ty.list, Ty.tuple] (isTy d)) := rfl
theorem enumI_fst {α : Type} (xs : List α) : (enumI xs).map Prod.fst = upI 0 xs.length := by
  apply List.ext_getElem?
  intro j
  unfold enumI upI
  rw [List.getElem?_map, List.getElem?_zipWith, List.getElem?_map]
  by_cases h : j < xs.length
  · rw [List.getElem?_range h, List.getElem?_eq_getElem h]
    simp
  · rw [List.getElem?_eq_none (l := List.range xs.length) (by simp; omega)]
    rfl
theorem enumI_all {α : Type} (xs : List α) (p : Int → Bool) : (enumI xs).all (fun z => p z.1) = (upI 0 xs.length).all p := by
  rw [← enumI_fst, List.all_map]
  rfl
theorem ix0 {d p0 : D} {r : List D} (h : rowI d = some (p0 :: r)) : ixR d 0 = .ok p0 := by
  unfold ixR
  rw [(rowI_s h).2.2, R.bind_ok]
  simp [atI, ixN]
theorem ix1 {d p0 p1 : D} {r : List D} (h : rowI d = some (p0 :: p1 :: r)) : ixR d 1 = .ok p1 := by
  unfold ixR
  rw [(rowI_s h).2.2, R.bind_ok]
  have : (1 : Int) < r.length + 1 + 1 := by omega
  simp [atI, ixN, this]
theorem ixk {d x : D} {ds : List D} (h : rowI d = some ds) {k : Nat} (hk : ds[k]? = some x) : ixR d (k : Int) = .ok x := by
  unfold ixR
  rw [(rowI_s h).2.2, R.bind_ok]
  have := (List.getElem?_eq_some_iff.mp hk).1
  unfold atI ixN
  rw [if_pos (by omega), if_pos (by omega)]
  show orBad (ds[((k : Nat) : Int).toNat]?) = _
  rw [Int.toNat_natCast, hk]
  rfl
theorem eqR_ok {a b : D} (ha : okD a = true) (hb : okD b = true) : eqR a b = .ok (eqD a b) := R.chk_t ⟨ha, hb⟩ _
/-- a pair of the band -/
def prI (room : Int) (d : D) : Option (Int × Int) := match rowI d with
  | some [.int a, .int b] => if 0 ≤ a ∧ a ≤ b ∧ b ≤ room then some (a, b) else none
  | _ => none
theorem prI_s {room : Int} {d : D} {p : Int × Int} (h : prI room d = some p) : rowI d = some [.int p.1, .int p.2] ∧ 0 ≤ p.1 ∧ p.1 ≤ p.2 ∧ p.2 ≤ room := by
  unfold prI at h
  split at h
  · rename_i a b e
    split at h
    · rename_i q
      cases h
      exact ⟨e, q⟩
    · cases h
  · cases h
theorem prI_it {room : Int} {d : D} {p : Int × Int} (h : prI room d = some p) : itF2 d = some (D.int p.1, D.int p.2) := by
  have := (prI_s h).1
  cases d <;> cases this <;> rfl
theorem isI_ex {d : D} (h : isI d = true) : ∃ a, d = .int a := by cases d <;> first | exact ⟨_, rfl⟩ | cases h
theorem isI_no {d : D} (h : isI d = false) (lo hi : Int) : inRg lo hi d = false := by cases d <;> first | rfl | cases h
theorem inRg_i (lo hi v : Int) : inRg lo hi (.int v) = (decide (lo ≤ v) && decide (v ≤ hi)) := rfl
theorem prI_no1 {room : Int} {d p0 p1 : D} (h : rowI d = some [p0, p1]) (hn : isI p0 = false ∨ isI p1 = false) : prI room d = none := by
  unfold prI
  rw [h]
  split
  · rename_i a b e
    cases e
    rcases hn with q | q <;> cases q
  · rfl
theorem prI_len {room : Int} {d : D} {ds : List D} (h : rowI d = some ds) (hn : ds.length ≠ 2) : prI room d = none := by
  unfold prI
  rw [h]
  split
  · rename_i a b e
    cases e
    exact absurd rfl hn
  · rfl
theorem r_is_pair (room : Int) (d : D) : sf_is_pair room d = .ok (prI room d).isSome := by
  unfold sf_is_pair
  rw [r_is_row', R.bind_ok]
  cases hrow : rowI d with
  | none =>
    rw [rowI_t hrow]
    unfold prI
    rw [hrow]
    rfl
  | some ds =>
    obtain ⟨h1, h2, h3⟩ := rowI_s hrow
    rw [h1, h2]
    match ds, hrow with
    | [], hrow => rw [prI_len hrow (by simp)]; rfl
    | [p0], hrow => rw [prI_len hrow (by simp)]; rfl
    | p0 :: p1 :: p2 :: r, hrow =>
      have n3 : ¬ (((p0 :: p1 :: p2 :: r).length : Int) = 2) := by simp; omega
      rw [prI_len hrow (by simp)]
      simp only [R.bind_ok, Bool.not_true, Bool.false_eq_true, if_false, decide_eq_false n3]
      rfl
    | [p0, p1], hrow =>
      have e2 : itF2 d = some (p0, p1) := by cases d <;> cases hrow <;> rfl
      have n2 : (([p0, p1].length : Nat) : Int) = 2 := rfl
      rw [e2]
      simp only [n2, decide_true, Bool.not_true, Bool.false_eq_true, if_false, R.bind_ok, orBad_some, r_within]
      cases c0 : isI p0 with
      | false =>
        rw [isI_no c0, prI_no1 hrow (.inl c0)]
        rfl
      | true =>
        obtain ⟨a, rfl⟩ := isI_ex c0
        rw [unI_int, orBad_some, R.bind_ok]
        cases c1 : isI p1 with
        | false =>
          rw [isI_no c1, prI_no1 hrow (.inr c1)]
          cases inRg 0 room (.int a) <;> rfl
        | true =>
          obtain ⟨b, rfl⟩ := isI_ex c1
          unfold prI
          rw [hrow]
          show _ = R.ok (if 0 ≤ a ∧ a ≤ b ∧ b ≤ room then some (a, b) else none).isSome
          rw [inRg_i, inRg_i]
          by_cases q : 0 ≤ a ∧ a ≤ b ∧ b ≤ room
          · rw [if_pos q, decide_eq_true q.1, decide_eq_true (show a ≤ room by omega), decide_eq_true q.2.1, decide_eq_true q.2.2]
            rfl
          · rw [if_neg q]
            by_cases q1 : 0 ≤ a ∧ a ≤ room
            · rw [decide_eq_true q1.1, decide_eq_true q1.2]
              by_cases q2 : a ≤ b
              · rw [decide_eq_true q2, decide_eq_false (show ¬ b ≤ room by omega)]; rfl
              · rw [decide_eq_false q2]; rfl
            · by_cases q2 : 0 ≤ a
              · rw [decide_eq_true q2, decide_eq_false (show ¬ a ≤ room by omega)]; rfl
              · rw [decide_eq_false q2]; rfl
theorem r_lp_pair (room : Int) (d : D) : lp__law_is_band_0 room d = .ok (if (prI room d).isSome then .nx () else .rt false) := by
  unfold lp__law_is_band_0
  cases hrow : rowI d with
  | none =>
    rw [rowI_t hrow]
    unfold prI
    rw [hrow]
    rfl
  | some ds =>
    obtain ⟨h1, h2, h3⟩ := rowI_s hrow
    rw [h1, h2]
    match ds, hrow with
    | [], hrow => rw [prI_len hrow (by simp)]; rfl
    | [p0], hrow => rw [prI_len hrow (by simp)]; rfl
    | p0 :: p1 :: p2 :: r, hrow =>
      have n3 : ¬ (((p0 :: p1 :: p2 :: r).length : Int) = 2) := by simp; omega
      rw [prI_len hrow (by simp)]
      simp only [R.bind_ok, Bool.not_true, Bool.false_eq_true, if_false, decide_eq_false n3]
      rfl
    | [p0, p1], hrow =>
      have n2 : (([p0, p1].length : Nat) : Int) = 2 := rfl
      simp only [n2, decide_true, Bool.not_true, Bool.false_eq_true, if_false, R.bind_ok, ix0 hrow, ix1 hrow, r_law_number]
      cases c0 : isI p0 with
      | false =>
        rw [prI_no1 hrow (.inl c0)]
        rfl
      | true =>
        obtain ⟨a, rfl⟩ := isI_ex c0
        cases c1 : isI p1 with
        | false =>
          rw [prI_no1 hrow (.inr c1)]
          rfl
        | true =>
          obtain ⟨b, rfl⟩ := isI_ex c1
          have e : prI room d = if 0 ≤ a ∧ a ≤ b ∧ b ≤ room then some (a, b) else none := by
            unfold prI
            rw [hrow]
          rw [e]
          simp only [unI_int, orBad_some, R.bind_ok, Bool.not_true, Bool.false_eq_true, if_false]
          by_cases q1 : a < 0
          · rw [if_neg (show ¬ (0 ≤ a ∧ a ≤ b ∧ b ≤ room) by omega), decide_eq_true q1]; rfl
          · rw [decide_eq_false q1]
            by_cases q2 : b < a
            · rw [if_neg (show ¬ (0 ≤ a ∧ a ≤ b ∧ b ≤ room) by omega), decide_eq_true q2]; rfl
            · rw [decide_eq_false q2]
              by_cases q3 : room < b
              · rw [if_neg (show ¬ (0 ≤ a ∧ a ≤ b ∧ b ≤ room) by omega), decide_eq_true q3]; rfl
              · rw [if_pos (show (0 ≤ a ∧ a ≤ b ∧ b ≤ room) by omega), decide_eq_false q3]; rfl
/-- all items are pairs: the pairs -/
theorem prs_of {room : Int} : ∀ {ds : List D}, ds.all (fun d => (prI room d).isSome) = true → ∃ ps : List (Int × Int), ps.length = ds.length ∧ ∀ (k : Nat) (x : D), ds[k]? = some x → ∃ p, ps[k]? = some p ∧ prI room x = some p
  | [], _ => ⟨[], rfl, fun _ _ h => by simp at h⟩
  | d :: ds, h => by
    rw [List.all_cons, Bool.and_eq_true] at h
    obtain ⟨ps, e, q⟩ := prs_of h.2
    obtain ⟨p, hp⟩ := Option.isSome_iff_exists.mp h.1
    refine ⟨p :: ps, by rw [List.length_cons, e, List.length_cons], fun k x hx => ?_⟩
    cases k with
    | zero => cases hx; exact ⟨p, rfl, hp⟩
    | succ k => exact q k x hx
def pp (ps : List (Int × Int)) (t : Nat) : Int × Int := ps.getD (t % ps.length) (0, 0)
def goodB (lo hi dr : List Int) (g : Int) (ps : List (Int × Int)) (k : Int) : Bool := decide ((pp ps (k.toNat + 1)).1 ≤ (pp ps k.toNat).1 + pd lo k.toNat - pd dr k.toNat) && decide ((pp ps k.toNat).2 + pd hi k.toNat - pd dr k.toNat - g ≤ (pp ps (k.toNat + 1)).2)
section
variable {lo hi dr : List Int} {g : Int} (Y : Bd lo hi dr g)
include Y
theorem r_bands (room : Int) (hr : 1 ≤ room ∧ room ≤ 1000) (table : D) : ∃ b : Bool, sf__law_is_band room lo hi dr g table = .ok b ∧ sf_shows_band room (eL eI lo) (eL eI hi) (eL eI dr) g table = .ok b ∧
    (∀ ps : List (Int × Int), table = eL (eP2 eI eI) ps → ps.length = lo.length → (∀ p ∈ ps, 0 ≤ p.1 ∧ p.1 ≤ p.2 ∧ p.2 ≤ room) → (∀ k, k < lo.length → goodB lo hi dr g ps k = true) → b = true) := by
  have hle := Y.le
  have hp := Y.pos
  have hhl := Y.hl
  have hdl := Y.dl
  unfold sf__law_is_band sf_shows_band
  rw [r_check_band Y room hr, R.bind_ok, r_is_row', R.bind_ok]
  cases hrow : rowI table with
  | none =>
    rw [rowI_t hrow]
    exact ⟨false, rfl, rfl, fun ps e => by subst e; cases hrow⟩
  | some ds =>
    obtain ⟨h1, h2, h3⟩ := rowI_s hrow
    rw [h1, h2]
    by_cases hl : ds.length = lo.length
    · have f1 : forO (fun pair z5' => lp__law_is_band_0 room pair) ds () = .ok (if ds.all (fun d => (prI room d).isSome) then .nx () else .rt false) := forO_all ds fun d _ => r_lp_pair room d
      have f2 : forO (fun pair z8' => lp_shows_band_0 room pair) ds () = .ok (if ds.all (fun d => (prI room d).isSome) then .nx () else .rt false) := forO_all ds fun d _ => by
        unfold lp_shows_band_0
        rw [r_is_pair, R.bind_ok]
        cases (prI room d).isSome <;> rfl
      simp only [hl, h3, R.bind_ok, decide_true, Bool.not_true, Bool.false_eq_true, if_false]
      show ∃ b, (forO (fun pair z5' => lp__law_is_band_0 room pair) ds () >>= _) = _ ∧ (forO (fun pair z8' => lp_shows_band_0 room pair) ds () >>= _) = _ ∧ _
      rw [f1, f2, R.bind_ok, R.bind_ok]
      cases ha : ds.all (fun d => (prI room d).isSome) with
      | false =>
        refine ⟨false, rfl, rfl, fun ps e _ hps _ => ?_⟩
        exfalso
        subst e
        cases hrow
        rw [List.all_eq_false] at ha
        obtain ⟨d, hd, hn⟩ := ha
        obtain ⟨p, hpm, rfl⟩ := List.mem_map.mp hd
        apply hn
        have := hps p hpm
        show (if 0 ≤ p.1 ∧ p.1 ≤ p.2 ∧ p.2 ≤ room then some (p.1, p.2) else none).isSome = true
        rw [if_pos this]
        rfl
      | true =>
        obtain ⟨ps, el, hps⟩ := prs_of ha
        have hpl : ps.length = lo.length := by omega
        -- the item at k
        have at1 : ∀ k : Nat, k < lo.length → ∃ x, ds[k]? = some x ∧ prI room x = some (pp ps k) := fun k hk => by
          have e : ds[k]? = some ds[k] := List.getElem?_eq_getElem (by omega)
          obtain ⟨p, e1, e2⟩ := hps k _ e
          refine ⟨_, e, ?_⟩
          rw [e2]
          unfold pp
          rw [Nat.mod_eq_of_lt (by omega), List.getD_eq_getElem?_getD, e1]
          rfl
        have fm : ∀ j : Nat, fmodR ((j : Int) + 1) (lo.length : Int) = .ok (mdI (j + 1) lo.length) := fun j => fm_i Y.y j 1
        have pm : ∀ j, pp ps ((j + 1) % lo.length) = pp ps (j + 1) := fun j => by unfold pp; rw [hpl, Nat.mod_mod]
        have g1 : forO (fun k_ z43' => lp__law_is_band_1 lo hi dr g table k_) (upI 0 lo.length) () = .ok (if (upI 0 lo.length).all (goodB lo hi dr g ps) then .nx () else .rt false) := forO_all _ fun k hk => by
          have := upI_mem.mp hk
          obtain ⟨j, rfl⟩ : ∃ j : Nat, k = j := ⟨k.toNat, by omega⟩
          obtain ⟨x, x1, x2⟩ := at1 j (by omega)
          obtain ⟨y, y1, y2⟩ := at1 ((j + 1) % lo.length) (Nat.mod_lt _ hp)
          rw [pm] at y2
          obtain ⟨x3, x4, x5, x6⟩ := prI_s x2
          obtain ⟨y3, y4, y5, y6⟩ := prI_s y2
          have hhj := Y.bh j
          have low3 : ∀ l f : Int, lp__law_is_band_3 dr g j y (.int l) f = .ok (if decide ((pp ps (j + 1)).1 ≤ l + f - pd dr j) && decide (l + f - pd dr j - g ≤ (pp ps (j + 1)).2) then .nx () else .rt false) := fun l f => by
            unfold lp__law_is_band_3
            rw [unI_int, orBad_some, R.bind_ok, atR_pd' (by omega), R.bind_ok, R.bind_ok, ix0 y3, R.bind_ok, unI_int, orBad_some, R.bind_ok, ix1 y3]
            by_cases q1 : l + f - pd dr j < (pp ps (j + 1)).1
            · rw [decide_eq_true q1, decide_eq_false (show ¬ (pp ps (j + 1)).1 ≤ l + f - pd dr j by omega)]; rfl
            · rw [decide_eq_false q1, decide_eq_true (show (pp ps (j + 1)).1 ≤ l + f - pd dr j by omega)]
              by_cases q2 : (pp ps (j + 1)).2 < l + f - pd dr j - g
              · rw [decide_eq_false (show ¬ l + f - pd dr j - g ≤ (pp ps (j + 1)).2 by omega)]
                simp [q2]
              · rw [decide_eq_true (show l + f - pd dr j - g ≤ (pp ps (j + 1)).2 by omega)]
                simp [q2]
          have low2 : ∀ l : Int, lp__law_is_band_2 lo hi dr g j y (.int l) = .ok (if decide ((pp ps (j + 1)).1 ≤ l + pd lo j - pd dr j) && decide (l + pd hi j - pd dr j - g ≤ (pp ps (j + 1)).2) then .nx () else .rt false) := fun l => by
            unfold lp__law_is_band_2
            rw [atR_pd' (by omega), R.bind_ok, atR_pd' (by omega), R.bind_ok]
            have := forO_all (f := fun flow z53' => lp__law_is_band_3 dr g j y (.int l) flow) (p := fun f => decide ((pp ps (j + 1)).1 ≤ l + f - pd dr j) && decide (l + f - pd dr j - g ≤ (pp ps (j + 1)).2)) (v := false) [pd lo j, pd hi j] fun f _ => low3 l f
            rw [this, R.bind_ok]
            have e : ([pd lo j, pd hi j].all fun f => decide ((pp ps (j + 1)).1 ≤ l + f - pd dr j) && decide (l + f - pd dr j - g ≤ (pp ps (j + 1)).2)) = (decide ((pp ps (j + 1)).1 ≤ l + pd lo j - pd dr j) && decide (l + pd hi j - pd dr j - g ≤ (pp ps (j + 1)).2)) := by
              rw [Bool.eq_iff_iff]
              simp
              omega
            rw [e]
            split <;> rfl
          unfold lp__law_is_band_1
          rw [fm, R.bind_ok]
          unfold mdI
          rw [ixk hrow y1, R.bind_ok, ixk hrow x1, R.bind_ok, (rowI_s x3).2.2, R.bind_ok]
          have := forO_all (f := fun level z49' => lp__law_is_band_2 lo hi dr g j y level) (p := fun d => match d with | .int l => decide ((pp ps (j + 1)).1 ≤ l + pd lo j - pd dr j) && decide (l + pd hi j - pd dr j - g ≤ (pp ps (j + 1)).2) | _ => false) (v := false) [.int (pp ps j).1, .int (pp ps j).2] fun d hd => by
            rcases List.mem_cons.mp hd with rfl | hd
            · exact low2 _
            · rw [List.mem_singleton.mp hd]
              exact low2 _
          rw [this, R.bind_ok]
          have e : ([D.int (pp ps j).1, .int (pp ps j).2].all fun d => match d with | .int l => decide ((pp ps (j + 1)).1 ≤ l + pd lo j - pd dr j) && decide (l + pd hi j - pd dr j - g ≤ (pp ps (j + 1)).2) | _ => false) = goodB lo hi dr g ps j := by
            unfold goodB
            rw [Bool.eq_iff_iff, Int.toNat_natCast]
            simp
            omega
          rw [e]
          split <;> rfl
        have g2 : forO (fun z14' z15' => lp_shows_band_1 g table lo hi dr z14') (enumI ds) () = .ok (if (upI 0 lo.length).all (goodB lo hi dr g ps) then .nx () else .rt false) := by
          have := forO_all (f := fun z14' z15' => lp_shows_band_1 g table lo hi dr z14') (p := fun z => goodB lo hi dr g ps z.1) (v := false) (enumI ds) fun z hz => by
            obtain ⟨j, e1, e2⟩ := enumI_mem hz
            have hj := (List.getElem?_eq_some_iff.mp e2).1
            obtain ⟨x, x1, x2⟩ := at1 j (by omega)
            obtain ⟨y, y1, y2⟩ := at1 ((j + 1) % lo.length) (Nat.mod_lt _ hp)
            rw [pm] at y2
            have ex : z.2 = x := by rw [x1] at e2; exact (Option.some.inj e2).symm
            obtain ⟨x3, _⟩ := prI_s x2
            unfold lp_shows_band_1 goodB
            rw [e1, ex, fm, R.bind_ok]
            unfold mdI
            rw [ixk hrow y1, R.bind_ok, prI_it y2, orBad_some, R.bind_ok, ix0 x3, R.bind_ok, unI_int, orBad_some, R.bind_ok, atR_pd' (by omega), R.bind_ok, atR_pd' (by omega), R.bind_ok, unI_int, orBad_some, R.bind_ok, ix1 x3, R.bind_ok, unI_int, orBad_some, R.bind_ok, atR_pd' (by omega), R.bind_ok, R.bind_ok, unI_int, orBad_some, R.bind_ok, Int.toNat_natCast]
            by_cases q1 : (pp ps j).1 + pd lo j - pd dr j < (pp ps (j + 1)).1
            · rw [decide_eq_true q1, decide_eq_false (show ¬ (pp ps (j + 1)).1 ≤ (pp ps j).1 + pd lo j - pd dr j by omega)]; rfl
            · rw [decide_eq_false q1, decide_eq_true (show (pp ps (j + 1)).1 ≤ (pp ps j).1 + pd lo j - pd dr j by omega)]
              by_cases q2 : (pp ps (j + 1)).2 < (pp ps j).2 + pd hi j - pd dr j - g
              · rw [decide_eq_true q2, decide_eq_false (show ¬ (pp ps j).2 + pd hi j - pd dr j - g ≤ (pp ps (j + 1)).2 by omega)]; rfl
              · rw [decide_eq_false q2, decide_eq_true (show (pp ps j).2 + pd hi j - pd dr j - g ≤ (pp ps (j + 1)).2 by omega)]; rfl
          rw [this, enumI_all, hl]
        simp only [if_true, LO.k_nx]
        rw [rng_n Y.y, R.bind_ok, g1, g2]
        refine ⟨(upI 0 lo.length).all (goodB lo hi dr g ps), ?_, ?_, fun qs e hq hqs hg => ?_⟩
        · cases (upI 0 lo.length).all (goodB lo hi dr g ps) <;> rfl
        · cases (upI 0 lo.length).all (goodB lo hi dr g ps) <;> rfl
        · subst e
          cases hrow
          have : qs = ps := by
            apply List.ext_getElem?
            intro k
            by_cases hk : k < qs.length
            · obtain ⟨p, e1, e2⟩ := hps k ((eP2 eI eI) qs[k]) (by rw [List.getElem?_map, List.getElem?_eq_getElem hk]; rfl)
              have e3 := (prI_s e2).1
              rw [e1, List.getElem?_eq_getElem hk]
              have e4 : some [D.int (qs[k]).1, D.int (qs[k]).2] = some [D.int p.1, D.int p.2] := e3
              simp at e4
              rw [Prod.ext_iff.mpr e4]
            · rw [List.getElem?_eq_none (by omega), List.getElem?_eq_none (by omega)]
          subst this
          rw [List.all_eq_true]
          intro k hk
          have := upI_mem.mp hk
          obtain ⟨j, rfl⟩ : ∃ j : Nat, k = j := ⟨k.toNat, by omega⟩
          exact hg j (by omega)
    · have hl'' : ¬ ((ds.length : Int) = (lo.length : Int)) := by omega
      refine ⟨false, ?_, ?_, fun ps e hq => ?_⟩
      · simp [hl'']
      · simp [hl'']
      · subst e
        cases hrow
        rw [List.length_map] at hl
        exact absurd hq hl
end
end Mp

set_option Elab.async false
set_option linter.all false
set_option maxRecDepth 100000
set_option maxHeartbeats 400000
/-! Vh34: k34: widest and kept. -/
namespace Mp
open Ym
open PySem (Str)
theorem r_flow (cell a b : Int) (h : a ≤ b) : ∃ f, sf__law_flow cell a b = .ok f ∧ a ≤ f ∧ f ≤ b := by
  have p1 := fmod_nn (cell.fdiv 3) (show 0 < b - a + 1 by omega)
  have p2 := fmod_lt (cell.fdiv 3) (show 0 < b - a + 1 by omega)
  have q1 := fmod_nn cell (show (0 : Int) < 3 by omega)
  have q2 := fmod_lt cell (show (0 : Int) < 3 by omega)
  unfold sf__law_flow
  rw [fmodR_ok (by omega), R.bind_ok]
  have : cell.fmod 3 = 0 ∨ cell.fmod 3 = 1 ∨ cell.fmod 3 = 2 := by omega
  rcases this with e | e | e
  · rw [e]; exact ⟨a, rfl, by omega, by omega⟩
  · rw [e]; exact ⟨b, rfl, by omega, by omega⟩
  · rw [e]; exact ⟨_, rfl, by omega, by omega⟩
theorem r_release (g : Int) (hg : 0 ≤ g ∧ g ≤ 1000) (A B rest : Int) (hab : A ≤ B) : sf__law_release g (A, B) rest = .ok (if max 0 (rest - B) ≤ g ∧ A ≤ rest - max 0 (rest - B) then max 0 (rest - B) else -1) := by
  have E := forO_upinv (f := fun release z3' => lp__law_release_0 (A, B) rest release) (fun j (_ : Unit) => ∀ r : Int, 0 ≤ r → r < j → ¬ (A ≤ rest - r ∧ rest - r ≤ B)) (fun v => 0 ≤ v ∧ v ≤ g ∧ A ≤ rest - v ∧ rest - v ≤ B ∧ ∀ r : Int, 0 ≤ r → r < v → ¬ (A ≤ rest - r ∧ rest - r ≤ B)) (g + 1).toNat 0 (s := ()) (fun _ h1 h2 => absurd h2 (by omega)) fun j _ hj h => by
    show (∃ s', lp__law_release_0 (A, B) rest (0 + j) = _ ∧ _) ∨ ∃ v, lp__law_release_0 (A, B) rest (0 + j) = _ ∧ _
    rw [Int.zero_add]
    unfold lp__law_release_0
    by_cases q : A ≤ rest - j ∧ rest - j ≤ B
    · exact .inr ⟨j, by rw [decide_eq_true q.1, decide_eq_true q.2]; rfl, by omega, by omega, q.1, q.2, h⟩
    · refine .inl ⟨(), ?_, fun r h1 h2 => ?_⟩
      · by_cases q1 : A ≤ rest - j
        · rw [decide_eq_true q1, decide_eq_false fun z => q ⟨q1, z⟩]; rfl
        · rw [decide_eq_false q1]; rfl
      · by_cases e : r = j
        · subst e; exact q
        · exact h r h1 (by omega)
  unfold sf__law_release
  rw [rngR_ok (by omega), R.bind_ok]
  rcases E with ⟨_, e, h⟩ | ⟨v, e, h1, h2, h3, h4, h5⟩
  · rw [e, R.bind_ok, LO.k_nx]
    rw [if_neg]
    intro ⟨q1, q2⟩
    exact h (max 0 (rest - B)) (by omega) (by omega) ⟨q2, by omega⟩
  · rw [e, R.bind_ok, LO.k_rt]
    have : v = max 0 (rest - B) := by
      apply Classical.byContradiction
      intro z
      by_cases q : v < max 0 (rest - B)
      · omega
      · exact h5 (max 0 (rest - B)) (by omega) (by omega) ⟨by omega, by omega⟩
    rw [if_pos ⟨by omega, by omega⟩, this]
section
variable {lo hi dr : List Int} {g : Int} (Y : Bd lo hi dr g)
include Y
theorem fmY (a b : Nat) : fmodR ((a : Int) + (b : Int)) (lo.length : Int) = .ok (mdI (a + b) lo.length) := fm_i Y.y a b
theorem at_lo (t : Nat) : atR lo (mdI t lo.length) = .ok (pd lo t) := atR_pd rfl Y.pos t
theorem at_hi (t : Nat) : atR hi (mdI t lo.length) = .ok (pd hi t) := atR_pd Y.hl Y.pos t
theorem at_dr (t : Nat) : atR dr (mdI t lo.length) = .ok (pd dr t) := atR_pd Y.dl Y.pos t
theorem r_dries (s : Nat) (h : 0 < mx (df lo dr) z0 s lo.length) : sf__law_dries lo dr s (mx (df lo dr) z0 s lo.length - 1) = .ok true := by
  obtain ⟨l, hl⟩ : ∃ l, mx (df lo dr) z0 s lo.length - 1 = l := ⟨_, rfl⟩
  have E := forO_upinv (f := fun turn level => lp__law_dries_0 lo dr s turn level) (fun j lev => lev = l - lack (df lo dr) z0 s j ∧ ∀ i, 1 ≤ i → i ≤ j → 0 ≤ l - lack (df lo dr) z0 s i) (fun v => v = true) lo.length 0 (s := l) ⟨by simp [lack], fun i h1 h2 => absurd h1 (by omega)⟩ fun j lev hj ⟨e, hi⟩ => by
    show (∃ s', lp__law_dries_0 lo dr s (0 + j) lev = _ ∧ _) ∨ ∃ v, lp__law_dries_0 lo dr s (0 + j) lev = _ ∧ _
    rw [Int.zero_add]
    unfold lp__law_dries_0
    rw [fmY Y, R.bind_ok, at_lo Y, R.bind_ok, at_dr Y, R.bind_ok, R.bind_ok]
    have e2 : lev + pd lo (s + j) - pd dr (s + j) = l - lack (df lo dr) z0 s (j + 1) := by
      rw [lack, e]
      unfold df z0
      omega
    rw [e2]
    by_cases q : l - lack (df lo dr) z0 s (j + 1) < 0
    · exact .inr ⟨true, by rw [decide_eq_true q]; rfl, rfl⟩
    · refine .inl ⟨_, by rw [decide_eq_false q]; rfl, rfl, fun i h1 h2 => ?_⟩
      by_cases r : i = j + 1
      · subst r; omega
      · exact hi i h1 (by omega)
  rw [hl]
  unfold sf__law_dries
  rw [rng_n Y.y, R.bind_ok]
  rcases E with ⟨_, e, _, h2⟩ | ⟨v, e, rfl⟩
  · obtain ⟨j, h3, h4⟩ := mx_is (d := df lo dr) (i := z0) s lo.length
    cases j with
    | zero => rw [h4] at h; exact absurd h (by simp [lack])
    | succ j =>
      have := h2 (j + 1) (by omega) h3
      omega
  · rw [e]; rfl
theorem r_floods (room : Int) (s : Nat) (h : room + mn (ff hi dr g) s lo.length < room) : sf__law_floods room hi dr g s (room + mn (ff hi dr g) s lo.length + 1) = .ok true := by
  obtain ⟨l, hl⟩ : ∃ l, room + mn (ff hi dr g) s lo.length + 1 = l := ⟨_, rfl⟩
  have hhl := Y.hl
  have E := forO_upinv (f := fun turn level => lp__law_floods_0 room hi dr g s turn level) (fun j lev => lev = l - lack (ff hi dr g) z0 s j ∧ ∀ i, 1 ≤ i → i ≤ j → l - lack (ff hi dr g) z0 s i ≤ room) (fun v => v = true) lo.length 0 (s := l) ⟨by simp [lack], fun i h1 h2 => absurd h1 (by omega)⟩ fun j lev hj ⟨e, hi'⟩ => by
    show (∃ s', lp__law_floods_0 room hi dr g s (0 + j) lev = _ ∧ _) ∨ ∃ v, lp__law_floods_0 room hi dr g s (0 + j) lev = _ ∧ _
    rw [Int.zero_add]
    unfold lp__law_floods_0
    rw [hhl, fmY Y, R.bind_ok, at_hi Y, R.bind_ok, at_dr Y, R.bind_ok, R.bind_ok]
    have e2 : lev + pd hi (s + j) - pd dr (s + j) - g = l - lack (ff hi dr g) z0 s (j + 1) := by
      rw [lack, e]
      unfold ff z0
      omega
    rw [e2]
    by_cases q : room < l - lack (ff hi dr g) z0 s (j + 1)
    · exact .inr ⟨true, by rw [decide_eq_true q]; rfl, rfl⟩
    · refine .inl ⟨_, by rw [decide_eq_false q]; rfl, rfl, fun i h1 h2 => ?_⟩
      by_cases r : i = j + 1
      · subst r; omega
      · exact hi' i h1 (by omega)
  rw [hl]
  unfold sf__law_floods
  rw [hhl, rng_n Y.y, R.bind_ok]
  rcases E with ⟨_, e, _, h2⟩ | ⟨v, e, rfl⟩
  · obtain ⟨j, h3, h4⟩ := mn_is (ff hi dr g) s lo.length
    cases j with
    | zero =>
      have : lack (ff hi dr g) z0 s 0 = 0 := rfl
      omega
    | succ j =>
      have := h2 (j + 1) (by omega) h3
      omega
  · rw [e]; rfl
theorem at_prs (room : Int) {k : Nat} (hk : k < lo.length) : atR (prs room lo hi dr g) (k : Int) = .ok (mx (df lo dr) z0 k lo.length, room + mn (ff hi dr g) k lo.length) := by
  refine atR_get (by omega) ?_
  rw [Int.toNat_natCast]
  unfold prs
  rw [List.getElem?_map, List.getElem?_range hk]
  rfl
theorem at_prm (room : Int) (t : Nat) : atR (prs room lo hi dr g) (mdI t lo.length) = .ok (mx (df lo dr) z0 t lo.length, room + mn (ff hi dr g) t lo.length) := by
  unfold mdI
  rw [at_prs Y room (Nat.mod_lt _ Y.pos), mx_mod1 Y, mn_mod1 Y]
theorem pp_prs (room : Int) (t : Nat) : pp (prs room lo hi dr g) t = (mx (df lo dr) z0 t lo.length, room + mn (ff hi dr g) t lo.length) := by
  unfold pp
  rw [prs_len, List.getD_eq_getElem?_getD]
  unfold prs
  rw [List.getElem?_map, List.getElem?_range (Nat.mod_lt _ Y.pos)]
  show (_, _) = _
  rw [mx_mod1 Y, mn_mod1 Y]
theorem prs_good {room : Int} (h : okB room lo hi dr g) (k : Nat) : goodB lo hi dr g (prs room lo hi dr g) k = true := by
  have := prs_st Y h k
  unfold goodB
  rw [pp_prs Y, pp_prs Y, Int.toNat_natCast]
  simp only [decide_eq_true this.1, decide_eq_true this.2, Bool.and_self]
theorem prs_all {room : Int} (h : okB room lo hi dr g) : ∀ p ∈ prs room lo hi dr g, 0 ≤ p.1 ∧ p.1 ≤ p.2 ∧ p.2 ≤ room := fun p hp => by
  obtain ⟨s, hs, rfl⟩ := List.mem_map.mp hp
  exact prs_in Y h s
theorem r_widest (room : Int) (hr : 1 ≤ room ∧ room ≤ 1000) (h : okB room lo hi dr g) : sf__law_widest room lo hi dr g (some (prs room lo hi dr g)) = .ok true := by
  obtain ⟨b, e1, _, e3⟩ := r_bands Y room hr (eL (eP2 eI eI) (prs room lo hi dr g))
  have hb := e3 _ rfl prs_len (prs_all Y h) fun k _ => prs_good Y h k
  subst hb
  have e1' : sf__law_is_band room lo hi dr g ((eO (eL (eP2 eI eI))) (some (prs room lo hi dr g))) = .ok true := e1
  have f : forO (fun k_ z5' => lp__law_widest_0 room lo hi dr g (some (prs room lo hi dr g)) k_) (upI 0 lo.length) () = .ok (.nx ()) := by
    have := forO_all (f := fun k_ z5' => lp__law_widest_0 room lo hi dr g (some (prs room lo hi dr g)) k_) (p := fun _ => true) (v := false) (upI 0 lo.length) fun k hk => by
      have := upI_mem.mp hk
      obtain ⟨j, rfl⟩ : ∃ j : Nat, k = j := ⟨k.toNat, by omega⟩
      unfold lp__law_widest_0
      simp only [orBad_some, R.bind_ok, at_prs Y room (show j < lo.length by omega), Bool.not_true, Bool.false_eq_true, if_false]
      have c1 : (if (decide (0 < mx (df lo dr) z0 j lo.length)) = true then sf__law_dries lo dr j (mx (df lo dr) z0 j lo.length - 1) >>= fun z10' => R.ok (!z10') else R.ok false : R Bool) = .ok false := by
        by_cases q : 0 < mx (df lo dr) z0 j lo.length
        · rw [r_dries Y j q, decide_eq_true q]; rfl
        · rw [decide_eq_false q]; rfl
      have c2 : (if (decide (room + mn (ff hi dr g) j lo.length < room)) = true then sf__law_floods room hi dr g j (room + mn (ff hi dr g) j lo.length + 1) >>= fun z16' => R.ok (!z16') else R.ok false : R Bool) = .ok false := by
        by_cases q : room + mn (ff hi dr g) j lo.length < room
        · rw [r_floods Y room j q, decide_eq_true q]; rfl
        · rw [decide_eq_false q]; rfl
      rw [c1, R.bind_ok, if_neg (by decide), c2]
      rfl
    rw [this]
    simp
  unfold sf__law_widest
  rw [e1']
  show ((rngR (lo.length : Int) >>= _) : R Bool) = _
  rw [rng_n Y.y, R.bind_ok, f]
  rfl
theorem r_least_release (room : Int) (hr : 1 ≤ room ∧ room ≤ 1000) (h : okB room lo hi dr g) (a : Nat) (ha : a < lo.length) (level flow : Int) (hl : 0 ≤ level ∧ level ≤ room) (hf : pd lo a ≤ flow ∧ flow ≤ pd hi a) :
    sf_least_release room (eL eI lo) (eL eI hi) (eL eI dr) g a level flow = .ok (if max 0 (level + flow - pd dr a - (room + mn (ff hi dr g) (a + 1) lo.length)) ≤ g ∧ mx (df lo dr) z0 (a + 1) lo.length ≤ level + flow - pd dr a - max 0 (level + flow - pd dr a - (room + mn (ff hi dr g) (a + 1) lo.length)) then some (max 0 (level + flow - pd dr a - (room + mn (ff hi dr g) (a + 1) lo.length))) else none) := by
  have hhl := Y.hl
  have hdl := Y.dl
  have f1 : fmodR ((a : Int) + 1) (lo.length : Int) = .ok (mdI (a + 1) lo.length) := fmY Y a 1
  unfold sf_least_release
  rw [r_check_band Y room hr, R.bind_ok]
  dsimp only
  rw [r_check_moment _ _ _ _ (by omega) (by omega) hl.1 hl.2, R.bind_ok, atR_pd' ha, R.bind_ok, atR_pd' (by omega), R.bind_ok, r_check_number _ _ _ _ hf, R.bind_ok, (r_band_of Y room).1 h, R.bind_ok, optK_some, f1, R.bind_ok, at_prm Y, R.bind_ok, atR_pd' (by omega), R.bind_ok, R.bind_ok, R.bind_ok]
  obtain ⟨B, hB⟩ : ∃ B, room + mn (ff hi dr g) (a + 1) lo.length = B := ⟨_, rfl⟩
  obtain ⟨A, hA⟩ : ∃ A, mx (df lo dr) z0 (a + 1) lo.length = A := ⟨_, rfl⟩
  obtain ⟨rest, hrest⟩ : ∃ rest, level + flow - pd dr a = rest := ⟨_, rfl⟩
  obtain ⟨r, hrr⟩ : ∃ r, max 0 (rest - B) = r := ⟨_, rfl⟩
  simp only [hB, hA, hrest, hrr]
  by_cases q1 : r ≤ g
  · rw [decide_eq_false (show ¬ g < r by omega)]
    by_cases q2 : A ≤ rest - r
    · rw [decide_eq_false (show ¬ rest - r < A by omega), if_pos (show r ≤ g ∧ A ≤ rest - r from ⟨q1, q2⟩)]; rfl
    · rw [decide_eq_true (show rest - r < A by omega), if_neg (show ¬ (r ≤ g ∧ A ≤ rest - r) from fun z => q2 z.2)]; rfl
  · rw [decide_eq_true (show g < r by omega), if_neg (show ¬ (r ≤ g ∧ A ≤ rest - r) from fun z => q1 z.1)]; rfl
theorem r_kept (room : Int) (hr : 1 ≤ room ∧ room ≤ 1000) (h : okB room lo hi dr g) (cells : List Int) (hcl : cells.length = 63) : sf__law_kept room lo hi dr g (some (prs room lo hi dr g)) cells = .ok true := by
  have hhl := Y.hl
  have hdl := Y.dl
  have hp := Y.pos
  have E := fun (s : Int × Int) => forO_upinv (s := s) (f := fun step_ (z11' : Int × Int) => lp__law_kept_0 room lo hi dr g (some (prs room lo hi dr g)) cells step_ z11'.1 z11'.2) (fun j s => 0 ≤ s.2 ∧ s.2 ≤ room ∧ ∃ a : Nat, s.1 = a ∧ a < lo.length ∧ (0 < j → mx (df lo dr) z0 a lo.length ≤ s.2 ∧ s.2 ≤ room + mn (ff hi dr g) a lo.length)) (fun v => v = true) 17 0
  have E2 : ∀ s : Int × Int, (0 ≤ s.2 ∧ s.2 ≤ room ∧ ∃ a : Nat, s.1 = a ∧ a < lo.length) → ∃ s', forO (fun step_ (z11' : Int × Int) => lp__law_kept_0 room lo hi dr g (some (prs room lo hi dr g)) cells step_ z11'.1 z11'.2) (upI 0 17) s = .ok (.nx s') ∨ forO (fun step_ (z11' : Int × Int) => lp__law_kept_0 room lo hi dr g (some (prs room lo hi dr g)) cells step_ z11'.1 z11'.2) (upI 0 17) s = .ok (.rt true) := fun s hs => by
    have := E s ⟨hs.1, hs.2.1, by obtain ⟨a, e, ha⟩ := hs.2.2; exact ⟨a, e, ha, fun z => absurd z (by omega)⟩⟩ fun j s hj ⟨l0, l1, a, ea, ha, hin⟩ => by
      refine .inl ?_
      show ∃ s', lp__law_kept_0 room lo hi dr g (some (prs room lo hi dr g)) cells (0 + j) s.1 s.2 = _ ∧ _
      rw [Int.zero_add, ea]
      have hb := Y.bh a
      obtain ⟨f, ef, f0, f1⟩ := r_flow (gi cells (30 + j)) (pd lo a) (pd hi a) hb.1
      have fm1 : fmodR ((a : Int) + 1) (lo.length : Int) = .ok (mdI (a + 1) lo.length) := fmY Y a 1
      obtain ⟨i1, i2, i3⟩ := prs_in Y h (a + 1)
      have st := prs_st Y h a
      have el := r_least_release Y room hr h a ha s.2 f ⟨l0, l1⟩ ⟨f0, f1⟩
      have er := r_release g Y.bg (mx (df lo dr) z0 (a + 1) lo.length) (room + mn (ff hi dr g) (a + 1) lo.length) (s.2 + f - pd dr a) i2
      have ex : mdI (a + 1) lo.length = (((a + 1) % lo.length : Nat) : Int) := rfl
      have em := mx_mod1 Y (a + 1)
      have en := mn_mod1 Y (a + 1)
      have el2 := Nat.mod_lt (a + 1) hp
      have g0 := Y.bg
      unfold lp__law_kept_0
      rw [atR_gi (by omega) (by omega), R.bind_ok, atR_pd' ha, R.bind_ok, atR_pd' (by omega), R.bind_ok, ef, R.bind_ok, atR_pd' (by omega), R.bind_ok, R.bind_ok, orBad_some, R.bind_ok, fm1, R.bind_ok, at_prm Y, R.bind_ok, er, R.bind_ok, el, R.bind_ok]
      generalize hB : room + mn (ff hi dr g) (a + 1) lo.length = B at *
      generalize hA : mx (df lo dr) z0 (a + 1) lo.length = A at *
      generalize hR : s.2 + f - pd dr a = rest at *
      obtain ⟨r, hrr⟩ : ∃ r, max 0 (rest - B) = r := ⟨_, rfl⟩
      rw [hrr]
      by_cases q : r ≤ g ∧ A ≤ rest - r
      · have nn : ¬ r = -1 := by omega
        have n0 : 0 ≤ r := by omega
        have n1 : sf__law_number (eO eI (some r)) = .ok true := rfl
        have n2 : eqR (eO eI (some r)) (D.int r) = .ok true := by
          show eqR (D.int r) (D.int r) = _
          rw [eqR_ok rfl rfl]
          simp [eqD]
        rw [if_pos q, if_pos q]
        refine ⟨(mdI (a + 1) lo.length, rest - r), ?_, ?_⟩
        · simp only [nn, n0, n1, n2, decide_true, decide_false, Bool.false_and, Bool.and_false, Bool.false_eq_true, if_false, if_true, R.bind_ok, Bool.not_true, fm1]
        · refine ⟨by show 0 ≤ rest - r; omega, by show rest - r ≤ room; omega, (a + 1) % lo.length, rfl, el2, fun _ => ?_⟩
          rw [em, en]
          show A ≤ rest - r ∧ rest - r ≤ _
          omega
      · have hj0 : j = 0 := by
          apply Classical.byContradiction
          intro z
          have := hin (by omega)
          exact q ⟨by omega, by omega⟩
        subst hj0
        have c29 : ∃ v, atR [A, B] (Int.fmod (gi cells 29) 2) = .ok v ∧ A ≤ v ∧ v ≤ B := by
          have q1 := fmod_nn (gi cells 29) (show (0 : Int) < 2 by omega)
          have q2 := fmod_lt (gi cells 29) (show (0 : Int) < 2 by omega)
          have : (gi cells 29).fmod 2 = 0 ∨ (gi cells 29).fmod 2 = 1 := by omega
          rcases this with e | e
          · rw [e]; exact ⟨A, rfl, by omega, by omega⟩
          · rw [e]; exact ⟨B, rfl, by omega, by omega⟩
        obtain ⟨v, ev, v1, v2⟩ := c29
        have ap := at_prm Y room (a + 1)
        rw [hA, hB] at ap
        rw [if_neg q, if_neg q]
        refine ⟨(mdI (a + 1) lo.length, v), ?_, ?_⟩
        · have nn : ¬ (0 : Int) ≤ -1 := by omega
          have n2 : ¬ (0 : Int) < ((0 : Nat) : Int) := by omega
          simp only [nn, n2, Option.isNone, decide_true, decide_false, Bool.false_and, Bool.and_false, Bool.false_eq_true, if_false, if_true, R.bind_ok, Bool.not_true, fm1, orBad_some, ap]
          rw [atR_gi (by omega) (by omega), R.bind_ok, ev]
          rfl
        · refine ⟨by show 0 ≤ v; omega, by show v ≤ room; omega, (a + 1) % lo.length, rfl, el2, fun _ => ?_⟩
          rw [em, en]
          show A ≤ v ∧ v ≤ _
          omega
    rcases this with ⟨s', e, _⟩ | ⟨v, e, rfl⟩
    · exact ⟨s', .inl e⟩
    · exact ⟨s, .inr e⟩
  have p1 := fmod_nn (gi cells 28) (show (0 : Int) < (lo.length : Int) by omega)
  have p2 := fmod_lt (gi cells 28) (show (0 : Int) < (lo.length : Int) by omega)
  obtain ⟨a, ha⟩ : ∃ a : Nat, (gi cells 28).fmod lo.length = a := ⟨((gi cells 28).fmod lo.length).toNat, by omega⟩
  have r1 := fmod_nn (gi cells 29) (show (0 : Int) < room + 1 by omega)
  have r2 := fmod_lt (gi cells 29) (show (0 : Int) < room + 1 by omega)
  obtain ⟨i1, i2, i3⟩ := prs_in Y h a
  unfold sf__law_kept
  rw [atR_gi (by omega) (by omega), R.bind_ok, fmodR_ok (by omega), R.bind_ok, orBad_some, R.bind_ok, ha, at_prs Y room (by omega), R.bind_ok, atR_gi (by omega) (by omega), R.bind_ok, fmodR_ok (by omega), R.bind_ok, R.bind_ok, R.bind_ok]
  have L : ∃ v, atR ([(gi cells 29).fmod (room + 1), mx (df lo dr) z0 a lo.length, room + mn (ff hi dr g) a lo.length, max 0 (mx (df lo dr) z0 a lo.length - 1), min room (room + mn (ff hi dr g) a lo.length + 1)] : List Int) (Int.fmod (Int.fdiv (gi cells 28) 24) 5) = .ok v ∧ 0 ≤ v ∧ v ≤ room := by
    have q1 := fmod_nn (Int.fdiv (gi cells 28) 24) (show (0 : Int) < 5 by omega)
    have q2 := fmod_lt (Int.fdiv (gi cells 28) 24) (show (0 : Int) < 5 by omega)
    generalize Int.fmod (Int.fdiv (gi cells 28) 24) 5 = w at q1 q2
    have : w = 0 ∨ w = 1 ∨ w = 2 ∨ w = 3 ∨ w = 4 := by omega
    rcases this with rfl | rfl | rfl | rfl | rfl
    · exact ⟨_, rfl, by omega, by omega⟩
    · exact ⟨_, rfl, by omega, by omega⟩
    · exact ⟨_, rfl, by omega, by omega⟩
    · exact ⟨_, rfl, by omega, by omega⟩
    · exact ⟨_, rfl, by omega, by omega⟩
  obtain ⟨v, ev, v0, v1⟩ := L
  rw [ev, R.bind_ok]
  obtain ⟨s', e | e⟩ := E2 (a, v) ⟨v0, v1, a, rfl, by omega⟩
  · rw [e]; rfl
  · rw [e]; rfl
end
end Mp

set_option Elab.async false
set_option linter.all false
set_option maxRecDepth 100000
set_option maxHeartbeats 400000
/-! Vi34: k34: the judges of a paper. -/
namespace Mp
open Ym
open PySem (Str)
theorem ok_dry : okD (D.str (Str.ofString "dry")) = true := by decide +kernel
theorem ok_flood : okD (D.str (Str.ofString "flood")) = true := by decide +kernel
theorem ok_meet : okD (D.str (Str.ofString "meet")) = true := by decide +kernel
theorem ss_last (f : Nat → Int) (s m : Nat) : atR (ss f s m) (-1) = .ok (lack f z0 s m) := by
  have e1 : ss f s m = (List.range m).map (fun j => lack f z0 s j) ++ [lack f z0 s m] := by
    unfold ss
    rw [List.range_succ, List.map_append]
    rfl
  rw [e1, atR_last]
theorem r_lp_sq (n : Int) (d : D) : lp__law_is_squeeze_0 n d = .ok (if inRg 0 n d then .nx () else .rt false) := by
  unfold lp__law_is_squeeze_0
  rw [r_law_number, R.bind_ok]
  cases c : isI d with
  | false => rw [isI_no c]; rfl
  | true =>
    obtain ⟨a, rfl⟩ := isI_ex c
    rw [inRg_i]
    simp only [unI_int, orBad_some, R.bind_ok, Bool.not_true, Bool.false_eq_true, if_false]
    by_cases q1 : a < 0
    · rw [decide_eq_true q1, decide_eq_false (show ¬ 0 ≤ a by omega)]; rfl
    · rw [decide_eq_false q1, decide_eq_true (show 0 ≤ a by omega)]
      by_cases q2 : n < a
      · rw [decide_eq_false (show ¬ a ≤ n by omega)]; simp [q2]
      · rw [decide_eq_true (show a ≤ n by omega)]; simp [q2]
theorem slD_row {d p0 : D} {r : List D} (h : rowI d = some (p0 :: r)) : ∃ d', slD d (some 1) none = .ok d' ∧ items d' = .ok r := by
  have c : cut (p0 :: r) (some 1) none = r := by
    unfold cut sIx
    have : ¬ (1 : Int) < 0 := by omega
    simp only [if_neg this]
    rw [Nat.min_eq_left (by simp)]
    simp
  cases d <;> cases h
  · exact ⟨_, rfl, by rw [c]; rfl⟩
  · exact ⟨_, rfl, by rw [c]; rfl⟩
theorem eq_int (a b : Int) : eqR (D.int a) (D.int b) = .ok (decide (a = b)) := by
  rw [eqR_ok rfl rfl]
  congr 1
section
variable {lo hi dr : List Int} {g : Int} (Y : Bd lo hi dr g)
include Y
theorem lost_loop {paper : D} {s : Nat} (h : ixR paper 1 = .ok (.int s)) (j : Nat) : forR (fun turn lost => lp__law_is_squeeze_1 lo dr paper (lo.length : Int) turn lost) (upI 0 j) 0 = .ok (lack (df lo dr) z0 s j) :=
  forR_range (f := fun turn lost => lp__law_is_squeeze_1 lo dr paper (lo.length : Int) turn lost) (fun j => lack (df lo dr) z0 s j) j 0 rfl fun i _ => by
    show lp__law_is_squeeze_1 lo dr paper (lo.length : Int) (0 + i) (lack (df lo dr) z0 s i) = _
    rw [Int.zero_add]
    unfold lp__law_is_squeeze_1
    rw [h, R.bind_ok, unI_int, orBad_some, R.bind_ok, fmY Y, R.bind_ok, at_dr Y, R.bind_ok, at_lo Y, R.bind_ok, R.bind_ok, lack]
    congr 1
    unfold df z0
    omega
theorem spill_loop {paper : D} {s : Nat} (h : ixR paper 1 = .ok (.int s)) (j : Nat) : forR (fun turn spilled => lp__law_is_squeeze_2 hi dr g paper (lo.length : Int) turn spilled) (upI 0 j) 0 = .ok (lack (ff hi dr g) z0 s j) :=
  forR_range (f := fun turn spilled => lp__law_is_squeeze_2 hi dr g paper (lo.length : Int) turn spilled) (fun j => lack (ff hi dr g) z0 s j) j 0 rfl fun i _ => by
    show lp__law_is_squeeze_2 hi dr g paper (lo.length : Int) (0 + i) (lack (ff hi dr g) z0 s i) = _
    rw [Int.zero_add]
    unfold lp__law_is_squeeze_2
    rw [h, R.bind_ok, unI_int, orBad_some, R.bind_ok, fmY Y, R.bind_ok, at_dr Y, R.bind_ok, at_hi Y, R.bind_ok, R.bind_ok, lack]
    congr 1
    unfold ff z0
    omega
theorem mul_g : mulR g (lo.length : Int) = .ok (g * lo.length) := R.chk_t (by have := Y.bg; unfold cmulB; omega) _
theorem r_paper (room : Int) (hr : 1 ≤ room ∧ room ≤ 1000) (paper : D) (hok : ∀ ds, rowI paper = some ds → ∀ d ∈ ds, okD d = true) : ∃ b : Bool, sf__law_is_squeeze room lo hi dr g paper = .ok b ∧ sf_shows_squeeze room (eL eI lo) (eL eI hi) (eL eI dr) g paper = .ok b ∧
    ((∃ s j k : Nat, rowI paper = some [D.str (Str.ofString "meet"), D.int s, D.int j, D.int k] ∧ s < lo.length ∧ j ≤ lo.length ∧ k ≤ lo.length ∧ room + lack (ff hi dr g) z0 s k < lack (df lo dr) z0 s j) → b = true) := by
  have hle := Y.le
  have hp := Y.pos
  have hhl := Y.hl
  have hdl := Y.dl
  have s1 : (decide (0 < (dryL lo dr).sum)) = decide (lo.sum < dr.sum) := by
    rw [sum_dry Y, decide_eq_decide]; omega
  have s2 : (decide ((flL hi dr g).sum < 0)) = decide (dr.sum + g * lo.length < hi.sum) := by
    rw [sum_fl Y, decide_eq_decide]; omega
  unfold sf__law_is_squeeze sf_shows_squeeze
  simp only [r_check_band Y room hr, R.bind_ok, r_dry Y, r_flood Y, r_is_row', s1, s2]
  cases hrow : rowI paper with
  | none =>
    rw [rowI_t hrow]
    exact ⟨false, rfl, rfl, fun ⟨_, _, _, e, _⟩ => by cases e⟩
  | some ds =>
    obtain ⟨h1, h2, h3⟩ := rowI_s hrow
    rw [h1, h2]
    cases ds with
    | nil => exact ⟨false, rfl, rfl, fun ⟨_, _, _, e, _⟩ => by cases e⟩
    | cons p0 r =>
      have o0 := hok _ hrow p0 List.mem_cons_self
      have n0 : ¬ (((p0 :: r).length : Int) = 0) := by simp; omega
      rw [ix0 hrow]
      simp only [R.bind_ok, decide_eq_false n0, Bool.not_true, Bool.false_eq_true, if_false, eqR_ok o0 ok_dry, eqR_ok o0 ok_flood, eqR_ok o0 ok_meet]
      cases hs : isTy p0 .str with
      | false =>
        have y1 : ∀ x, eqD p0 (D.str x) = false := fun x => by cases p0 <;> first | rfl | cases hs
        refine ⟨false, by simp, by simp [y1], fun ⟨_, _, _, e, _⟩ => ?_⟩
        cases e
        cases hs
      | true =>
        simp only [Bool.not_true, Bool.false_eq_true, if_false]
        have m1 : ∀ x, p0 = D.str (Str.ofString "meet") → eqD p0 (D.str (Str.ofString "dry")) = x → x = false := fun x e h => by
          subst e; rw [← h]; decide +kernel
        have m2 : ∀ x, p0 = D.str (Str.ofString "meet") → eqD p0 (D.str (Str.ofString "flood")) = x → x = false := fun x e h => by
          subst e; rw [← h]; decide +kernel
        have m3 : ∀ x, p0 = D.str (Str.ofString "meet") → eqD p0 (D.str (Str.ofString "meet")) = x → x = true := fun x e h => by
          subst e; rw [← h]; decide +kernel
        generalize eqD p0 (D.str (Str.ofString "dry")) = y at m1
        generalize eqD p0 (D.str (Str.ofString "flood")) = rr at m2
        generalize eqD p0 (D.str (Str.ofString "meet")) = mm at m3
        cases y with
        | true => exact ⟨_, rfl, rfl, fun ⟨_, _, _, e, _⟩ => by cases e; cases m1 _ rfl rfl⟩
        | false =>
          cases rr with
          | true =>
            refine ⟨(decide (((p0 :: r).length : Int) = 1)) && (decide (dr.sum + g * lo.length < hi.sum)), ?_, rfl, fun ⟨_, _, _, e, _⟩ => by cases e; cases m2 _ rfl rfl⟩
            simp only [Bool.false_eq_true, if_false, if_true, mul_g Y, R.bind_ok]
            cases decide (((p0 :: r).length : Int) = 1) <;> rfl
          | false =>
            cases mm with
            | false => exact ⟨false, rfl, rfl, fun ⟨_, _, _, e, _⟩ => by cases e; cases m3 _ rfl rfl⟩
            | true =>
              simp only [Bool.not_true, Bool.false_eq_true, if_false]
              match r, hrow, h2 with
              | [], hrow, h2 => exact ⟨false, rfl, rfl, fun ⟨_, _, _, e, _⟩ => by cases e⟩
              | [p1], hrow, h2 => exact ⟨false, rfl, rfl, fun ⟨_, _, _, e, _⟩ => by cases e⟩
              | [p1, p2], hrow, h2 => exact ⟨false, rfl, rfl, fun ⟨_, _, _, e, _⟩ => by cases e⟩
              | p1 :: p2 :: p3 :: p4 :: r, hrow, h2 =>
                have n3 : ¬ (((p0 :: p1 :: p2 :: p3 :: p4 :: r).length : Int) = 4) := by simp; omega
                simp only [R.bind_ok, decide_eq_false n3]
                exact ⟨false, rfl, rfl, fun ⟨_, _, _, e, _⟩ => by cases e⟩
              | [p1, p2, p3], hrow, h2 =>
                have e3 : itF4 paper = some (p0, p1, p2, p3) := by cases paper <;> cases hrow <;> rfl
                have k3 : (([p0, p1, p2, p3].length : Nat) : Int) = 4 := rfl
                have i1 := ixk hrow (k := 1) rfl
                have i2 := ixk hrow (k := 2) rfl
                have i3 := ixk hrow (k := 3) rfl
                obtain ⟨d', sl1, sl2⟩ := slD_row hrow
                have f1 : forO (fun one z20' => lp__law_is_squeeze_0 (lo.length : Int) one) [p1, p2, p3] () = .ok (if [p1, p2, p3].all (inRg 0 (lo.length : Int)) then .nx () else .rt false) := forO_all _ fun d _ => r_lp_sq _ d
                have i1' : ixR paper 1 = .ok p1 := i1
                have i2' : ixR paper 2 = .ok p2 := i2
                have i3' : ixR paper 3 = .ok p3 := i3
                rw [e3]
                simp only [k3, decide_true, Bool.not_true, Bool.false_eq_true, if_false, R.bind_ok, sl1, sl2, f1, i1', i2', i3', orBad_some, r_within, dryL_len]
                by_cases q : inRg 0 ((lo.length : Int) - 1) p1 = true ∧ inRg 0 (lo.length : Int) p2 = true ∧ inRg 0 (lo.length : Int) p3 = true
                · obtain ⟨q1, q2, q3⟩ := q
                  have ii : ∀ {d : D} {n : Int}, inRg 0 n d = true → ∃ a : Nat, d = .int a ∧ (a : Int) ≤ n := fun {d n} h => by
                    cases d <;> first | cases h | skip
                    rename_i v
                    rw [inRg_i, Bool.and_eq_true] at h
                    have a := of_decide_eq_true h.1
                    have b := of_decide_eq_true h.2
                    exact ⟨v.toNat, by rw [Int.toNat_of_nonneg a], by omega⟩
                  obtain ⟨s, rfl, hs'⟩ := ii q1
                  obtain ⟨j, rfl, hj'⟩ := ii q2
                  obtain ⟨k, rfl, hk'⟩ := ii q3
                  refine ⟨decide (room + lack (ff hi dr g) z0 s k < lack (df lo dr) z0 s j), ?_, ?_, ?_⟩
                  · have q4 : [D.int s, D.int j, D.int k].all (inRg 0 (lo.length : Int)) = true := by
                      simp [inRg_i]; omega
                    have q5 : ¬ (s : Int) = (lo.length : Int) := by omega
                    rw [q4]
                    simp only [if_true, LO.k_nx, eq_int, R.bind_ok, decide_eq_false q5, Bool.false_eq_true, if_false, unI_int, orBad_some]
                    rw [rngR_ok (by omega), R.bind_ok, Int.toNat_natCast, lost_loop Y i1', R.bind_ok, rngR_ok (by omega), R.bind_ok, Int.toNat_natCast, spill_loop Y i1']
                    rfl
                  · rw [q1, q2, q3]
                    simp only [Bool.not_true, Bool.false_eq_true, if_false, R.bind_ok, unI_int, orBad_some]
                    rw [r_sums (by rw [dryL_len]; exact hp) s j (by omega), R.bind_ok, ss_last, R.bind_ok, r_sums (by rw [flL_len Y]; exact hp) s k (by omega), R.bind_ok, ss_last, pd_dry Y, pd_fl Y]
                    rfl
                  · rintro ⟨s', j', k', e, _, _, _, h⟩
                    simp at e
                    obtain ⟨_, a, b, c⟩ := e
                    have a' : s' = s := by omega
                    have b' : j' = j := by omega
                    have c' : k' = k := by omega
                    subst a' b' c'
                    exact decide_eq_true h
                · refine ⟨false, ?_, ?_, ?_⟩
                  · by_cases q4 : [p1, p2, p3].all (inRg 0 (lo.length : Int)) = true
                    · rw [q4]
                      simp only [List.all_cons, List.all_nil, Bool.and_true, Bool.and_eq_true] at q4
                      obtain ⟨w1, w2, w3⟩ := q4
                      have c1 : isI p1 = true := by
                        cases c : isI p1 with
                        | true => rfl
                        | false => rw [isI_no c] at w1; cases w1
                      obtain ⟨a, rfl⟩ := isI_ex c1
                      rw [inRg_i, Bool.and_eq_true] at w1
                      have w4 := of_decide_eq_true w1.1
                      have w5 := of_decide_eq_true w1.2
                      have w6 : a = (lo.length : Int) := by
                        apply Classical.byContradiction
                        intro z
                        refine q ⟨?_, w2, w3⟩
                        rw [inRg_i, decide_eq_true w4, decide_eq_true (show a ≤ (lo.length : Int) - 1 by omega)]
                        rfl
                      simp only [if_true, LO.k_nx, eq_int, R.bind_ok, w6, decide_true]
                    · rw [Bool.not_eq_true] at q4
                      rw [q4]
                      rfl
                  · cases c1 : inRg 0 ((lo.length : Int) - 1) p1 with
                    | false => rfl
                    | true =>
                      cases c2 : inRg 0 (lo.length : Int) p2 with
                      | false => rfl
                      | true =>
                        cases c3 : inRg 0 (lo.length : Int) p3 with
                        | false => rfl
                        | true => exact absurd ⟨c1, c2, c3⟩ q
                  · rintro ⟨s', j', k', e, a1, a2, a3, h⟩
                    exfalso
                    cases e
                    apply q
                    simp [inRg_i]
                    omega
theorem r_judged (room : Int) (hr : 1 ≤ room ∧ room ≤ 1000) (ts ps : List D) (hpp : ∀ p ∈ ps, ∀ ds, rowI p = some ds → ∀ d ∈ ds, okD d = true) : sf__law_judged room lo hi dr g ts ps = .ok true := by
  have f1 : forO (fun table z2' => lp__law_judged_0 room lo hi dr g table) ts () = .ok (if ts.all (fun _ => true) then .nx () else .rt false) := forO_all ts fun table _ => by
    obtain ⟨b, e1, e2, _⟩ := r_bands Y room hr table
    unfold lp__law_judged_0
    rw [e1, R.bind_ok, e2]
    simp
  have f2 : forO (fun paper z9' => lp__law_judged_1 room lo hi dr g paper) ps () = .ok (if ps.all (fun _ => true) then .nx () else .rt false) := forO_all ps fun paper hp => by
    obtain ⟨b, e1, e2, _⟩ := r_paper Y room hr paper (hpp paper hp)
    unfold lp__law_judged_1
    rw [e1, R.bind_ok, e2]
    simp
  unfold sf__law_judged
  rw [f1]
  simp only [List.all_eq_true, implies_true, if_true, R.bind_ok, LO.k_nx]
  rw [f2]
  simp
end
end Mp

set_option Elab.async false
set_option linter.all false
set_option maxRecDepth 100000
set_option maxHeartbeats 1000000
/-! Vj34: k34: the law's flows, gate, need, tables and papers. -/
namespace Mp
open Ym
open PySem (Str)
theorem cut_len {α : Type} (xs : List α) (l h : Option Int) : (cut xs l h).length ≤ xs.length := by
  unfold cut
  rw [List.length_take, List.length_drop]
  omega
theorem r_bandsL (room : Int) (base : List (Int × Int)) (hb : base.length ≤ 24) (p : Nat) (hp : p < base.length) : ∃ ts, sf__law_bands room base p = .ok ts := by
  obtain ⟨z, ez⟩ : ∃ z, atR base (p : Int) = .ok z := ⟨base[p], atR_get (by omega) (by rw [Int.toNat_natCast, List.getElem?_eq_getElem hp])⟩
  obtain ⟨y, ey⟩ : ∃ y, atR base 0 = .ok y := ⟨base[0], atR_get (by omega) (by rw [Int.toNat_zero, List.getElem?_eq_getElem (by omega)])⟩
  have c1 := cut_len base none (some (p : Int))
  have c2 := cut_len base (some ((p : Int) + 1)) none
  have c3 := cut_len base (some 1) none
  have c4 := cut_len base none (some 1)
  have fin : ∀ (os : List D) (ts0 : List D), os.length = 17 → ts0.length = 13 → ∃ ts, (forR (fun other tables => lp__law_bands_0 base p other tables) os ts0 >>= fun tables => R.ok tables) = .ok ts := fun os ts0 ho h0 => by
    obtain ⟨ts, e, _⟩ := forR_inv (f := fun other tables => lp__law_bands_0 base p other tables) (fun j (ts : List D) => ts.length = 13 + j) os 0 ts0 h0 fun j x s hx hs => by
      have hj := (List.getElem?_eq_some_iff.mp hx).1
      refine ⟨s ++ [eL eD (((cut base none (some (p : Int))).map (eP2 eI eI) ++ [x]) ++ (cut base (some ((p : Int) + 1)) none).map (eP2 eI eI))], ?_, ?_⟩
      · unfold lp__law_bands_0
        rw [catR_ok (by rw [List.length_map]; simp; omega), R.bind_ok, catR_ok (by rw [List.length_append, List.length_map, List.length_map]; simp; omega), R.bind_ok, appR_ok (by omega)]
        rfl
      · rw [List.length_append, hs]
        simp
        omega
    rw [e]
    exact ⟨ts, rfl⟩
  unfold sf__law_bands
  rw [ez, R.bind_ok, lcR_map (g := fun (z : Int × Int) => [z.1, z.2]) (by omega) fun x _ => rfl, R.bind_ok, ey, R.bind_ok, catR_ok (by simp; omega), R.bind_ok, catR_ok (by omega), R.bind_ok, R.bind_ok, lcR_map (g := fun (_ : Int × Int) => ((0 : Int), room)) (by omega) fun x _ => rfl, R.bind_ok, lcR_map (g := fun (z : Int × Int) => (z.1, z.1)) (by omega) fun x _ => rfl, R.bind_ok, catR_ok (by simp), R.bind_ok, R.bind_ok, catR_ok (by simp), R.bind_ok, catR_ok (by simp), R.bind_ok]
  exact fin _ _ (by simp) (by simp)
def OkP (d : D) : Prop := ∀ ds, rowI d = some ds → ∀ x ∈ ds, okD x = true
theorem okp_t {ds : List D} (h : ∀ x ∈ ds, okD x = true) : OkP (.tup ds) := fun _ e x hx => by cases e; exact h x hx
theorem okp_l {ds : List D} (h : ∀ x ∈ ds, okD x = true) : OkP (.lst ds) := fun _ e x hx => by cases e; exact h x hx
theorem okp_n {d : D} (h : rowI d = none) : OkP d := fun _ e => by rw [h] at e; cases e
theorem ok_i (i : Int) : okD (.int i) = true := rfl
theorem ok_b (b : Bool) : okD (.bl b) = true := rfl
theorem ok_n : okD .non = true := rfl
theorem ok_li (i : Int) : okD (.lst [.int i]) = true := rfl
theorem ok_wet : okD (D.str (Str.ofString "wet")) = true := by decide +kernel
theorem ok_meets : okD (D.str (Str.ofString "meets")) = true := by decide +kernel
theorem ok_0 : okD (D.str (Str.ofString "0")) = true := by decide +kernel
theorem ok_ldry : okD (D.lst [D.str (Str.ofString "dry")]) = true := by decide +kernel
theorem r_squeezes (n : Nat) (h0 : 0 < n) (a b c : Int) (o : Int) : ∃ ps, sf__law_squeezes n (.int a) (.int b) (.int c) o = .ok ps ∧ ∀ p ∈ ps, OkP p := by
  have hn : ((n : Nat) : Int) ≠ 0 := by omega
  refine ⟨_, by
    unfold sf__law_squeezes
    simp only [unI_int, orBad_some, R.bind_ok]
    rw [catR_ok (by simp), R.bind_ok, catR_ok (by simp), R.bind_ok, fmodR_ok hn, R.bind_ok, catR_ok (by simp), R.bind_ok, catR_ok (by simp), R.bind_ok, catR_ok (by simp), R.bind_ok, catR_ok (by simp), R.bind_ok, catR_ok (by simp), R.bind_ok, catR_ok (by simp)]
    rfl, ?_⟩
  have s1 := ok_dry
  have s2 := ok_flood
  have s3 := ok_meet
  have s4 := ok_wet
  have s5 := ok_meets
  have s6 := ok_0
  have s7 := ok_ldry
  simp only [List.forall_mem_append, List.forall_mem_cons, List.not_mem_nil, false_implies, implies_true, and_true]
  repeat' apply And.intro
  all_goals
    first
    | exact okp_n rfl
    | (refine okp_t ?_; simp [s1, s2, s3, s4, s5, s6, s7, ok_i, ok_b, ok_n, ok_li] <;> first | exact s7 | rfl | exact ⟨s3, rfl, rfl, rfl⟩)
    | (refine okp_l ?_; simp [s1, s2, s3, s4, s5, s6, s7, ok_i, ok_b, ok_n, ok_li] <;> first | exact s7 | rfl | exact ⟨s3, rfl, rfl, rfl⟩)
end Mp

set_option Elab.async false
set_option linter.all false
set_option maxRecDepth 100000
set_option maxHeartbeats 1000000
/-! Vk34: k34: the law's flows, gate and need. -/
namespace Mp
open Ym
open PySem (Str)
theorem gi_pd {xs : List Int} {t : Nat} : gi xs ((t % xs.length : Nat) : Int) = pd xs t := by
  unfold gi pd
  rw [Int.toNat_natCast]
def DOk (m : Nat) (r : R (List Int)) : Prop := ∃ dr, r = .ok dr ∧ dr.length = m ∧ Rg dr
theorem DOk.ok {m : Nat} {dr : List Int} (h : dr.length = m) (g : Rg dr) : DOk m (.ok dr) := ⟨dr, rfl, h, g⟩
theorem r_flows (cells : List Int) (hcl : cells.length = 63) (m : Nat) (hm0 : 0 < m) (hm : m ≤ 24) (top wide way : Int) (ht0 : 0 ≤ top) (ht : top ≤ 1000) (hw : 0 ≤ wide) : ∃ lo hi dr, sf__law_flows cells m top wide way = .ok (lo, hi, dr) ∧ lo.length = m ∧ ∀ g, 0 ≤ g → g ≤ 1000 → Bd lo hi dr g := by
  have hr : rngR (m : Int) = .ok (upI 0 m) := by rw [rngR_ok (by omega)]; simp
  obtain ⟨lo, e1, l1, r1⟩ := lcR_all (f := fun z2' => atR cells (1 + z2') >>= fun z3' => fmodR z3' (top + 1) >>= fun z4' => R.ok z4') (P := fun v => 0 ≤ v ∧ v ≤ 1000) (xs := upI 0 m) (by rw [upI_length]; omega) fun x hx => by
    have := upI_mem.mp hx
    refine ⟨_, ?_, fmod_nn (gi cells (1 + x)) (show 0 < top + 1 by omega), ?_⟩
    · rw [atR_gi (by omega) (by omega), R.bind_ok, fmodR_ok (by omega)]
      rfl
    · have := fmod_lt (gi cells (1 + x)) (show 0 < top + 1 by omega)
      omega
  rw [upI_length] at l1
  have e2 : lcR (fun z7' => atR lo z7' >>= fun z8' => atR cells (1 + z7') >>= fun z9' => fmodR (Int.fdiv z9' 1001) (wide + 1) >>= fun z10' => R.ok (min 1000 (z8' + z10'))) (upI 0 m) = .ok ((upI 0 m).map fun z => min 1000 (gi lo z + Int.fmod (Int.fdiv (gi cells (1 + z)) 1001) (wide + 1))) := lcR_map (by rw [upI_length]; omega) fun x hx => by
    have := upI_mem.mp hx
    rw [atR_gi (by omega) (by omega), R.bind_ok, atR_gi (by omega) (by omega), R.bind_ok, fmodR_ok (by omega)]
    rfl
  obtain ⟨hi, ehi⟩ : ∃ hi, ((upI 0 m).map fun z => min 1000 (gi lo z + Int.fmod (Int.fdiv (gi cells (1 + z)) 1001) (wide + 1))) = hi := ⟨_, rfl⟩
  have lhi : hi.length = m := by rw [← ehi, List.length_map, upI_length]
  have bh : ∀ t, pd lo t ≤ pd hi t ∧ pd hi t ≤ 1000 := fun t => by
    have ht : t % m < m := Nat.mod_lt _ hm0
    have e : pd hi t = min 1000 (pd lo t + Int.fmod (Int.fdiv (gi cells (1 + ((t % m : Nat) : Int))) 1001) (wide + 1)) := by
      have g1 : gi lo ((t % m : Nat) : Int) = pd lo t := by rw [← l1]; exact gi_pd
      have pe : pd hi t = hi.getD (t % hi.length) 0 := rfl
      rw [pe, lhi, List.getD_eq_getElem?_getD, ← ehi, List.getElem?_map]
      unfold upI
      rw [List.getElem?_map, List.getElem?_range ht]
      show min 1000 (gi lo (0 + ((t % m : Nat) : Int)) + Int.fmod (Int.fdiv (gi cells (1 + (0 + ((t % m : Nat) : Int)))) 1001) (wide + 1)) = _
      rw [Int.zero_add, g1]
    have a := r1 _ (pd_mem (xs := lo) (by omega) t)
    have b := fmod_nn (Int.fdiv (gi cells (1 + ((t % m : Nat) : Int))) 1001) (show 0 < wide + 1 by omega)
    omega
  obtain ⟨d0, e3, l3, r3⟩ := lcR_all (f := fun z13' => atR cells (1 + z13') >>= fun z14' => fmodR (Int.fdiv z14' 1002001) (top + 1) >>= fun z15' => R.ok z15') (P := fun v => 0 ≤ v ∧ v ≤ 1000) (xs := upI 0 m) (by rw [upI_length]; omega) fun x hx => by
    have := upI_mem.mp hx
    refine ⟨_, ?_, fmod_nn (Int.fdiv (gi cells (1 + x)) 1002001) (show 0 < top + 1 by omega), ?_⟩
    · rw [atR_gi (by omega) (by omega), R.bind_ok, fmodR_ok (by omega)]
      rfl
    · have := fmod_lt (Int.fdiv (gi cells (1 + x)) 1002001) (show 0 < top + 1 by omega)
      omega
  rw [upI_length] at l3
  unfold sf__law_flows
  rw [hr, R.bind_ok, e1, R.bind_ok, R.bind_ok, e2, ehi, R.bind_ok, R.bind_ok, e3, R.bind_ok, atR_gi (by omega) (by omega), R.bind_ok, fmodR_ok (by omega), R.bind_ok]
  have p1 := fmod_nn (gi cells 25) (show (0 : Int) < m by omega)
  have p2 := fmod_lt (gi cells 25) (show (0 : Int) < m by omega)
  generalize Int.fmod (gi cells 25) m = turn at p1 p2
  have D1 : DOk m (if ((decide (way = 1)) || (decide (way = 2))) then catR (cut lo (some turn) none) (cut lo none (some turn)) >>= fun draws => R.ok draws else R.ok d0) := by
    split
    · rw [cut_lo p1 (by omega), cut_hi p1 (by omega), catR_ok (by rw [List.length_drop, List.length_take]; omega)]
      refine .ok (by rw [List.length_append, List.length_drop, List.length_take]; omega) fun x hx => ?_
      rcases List.mem_append.mp hx with q | q
      · exact r1 x (List.mem_of_mem_drop q)
      · exact r1 x (List.mem_of_mem_take q)
    · exact .ok l3 r3
  obtain ⟨d1, f1, k1, g1⟩ := D1
  have D2 : DOk m (if (decide (way = 3)) then R.ok (upI 0 m) >>= fun z20' => lcR (fun z21' => atR lo z21' >>= fun z22' => atR d1 z21' >>= fun z23' => R.ok (min z22' z23')) z20' >>= fun draws => R.ok draws else R.ok d1) := by
    split
    · obtain ⟨ys, e, l, q⟩ := lcR_all (f := fun z21' => atR lo z21' >>= fun z22' => atR d1 z21' >>= fun z23' => R.ok (min z22' z23')) (P := fun v => 0 ≤ v ∧ v ≤ 1000) (xs := upI 0 m) (by rw [upI_length]; omega) fun x hx => by
        have := upI_mem.mp hx
        have a := Rg.gi r1 (i := x) (by omega) (by omega)
        have b := Rg.gi g1 (i := x) (by omega) (by omega)
        refine ⟨_, ?_, show 0 ≤ min (gi lo x) (gi d1 x) by omega, by omega⟩
        rw [atR_gi (by omega) (by omega), R.bind_ok, atR_gi (by omega) (by omega)]
        rfl
      rw [R.bind_ok, e]
      exact .ok (by rw [l, upI_length]) q
    · exact .ok k1 g1
  obtain ⟨d2, f2, k2, g2⟩ := D2
  rw [f1, R.bind_ok, f2]
  exact ⟨lo, hi, d2, rfl, l1, fun g h0 h1 => ⟨by omega, by omega, by omega, by omega, r1, g2, bh, ⟨h0, h1⟩⟩⟩
section
variable {lo hi dr : List Int} {g : Int} (Y : Bd lo hi dr g)
include Y
theorem r_gate (cell way : Int) (h0 : 0 ≤ way) (h1 : way < 8) : ∃ v, sf__law_gate cell hi dr way = .ok v ∧ 0 ≤ v ∧ v ≤ 1000 := by
  have hd := Y.dl
  have hle := Y.le
  have hp := Y.pos
  have c0 := fmod_nn cell (show (0 : Int) < 1001 by omega)
  unfold sf__law_gate
  rw [fdivR_ok (by omega) (by omega), R.bind_ok, R.bind_ok]
  generalize Int.fdiv (hi.sum - dr.sum + dr.length - 1) dr.length = q
  have : way = 0 ∨ way = 1 ∨ way = 2 ∨ way = 3 ∨ way = 4 ∨ way = 5 ∨ way = 6 ∨ way = 7 := by omega
  rcases this with rfl | rfl | rfl | rfl | rfl | rfl | rfl | rfl
  all_goals exact ⟨_, rfl, by omega, by omega⟩
omit Y in
theorem r_most (xs : List Int) (h0 : 0 < xs.length) (h1 : xs.length ≤ 24) (s : Nat) : ∃ v, sf__law_most xs s = .ok v := by
  obtain ⟨s', e, _⟩ := forR_upinv (f := fun turn (z3' : Int × Int) => lp__law_most_0 xs s turn z3'.1 z3'.2) (fun _ _ => True) xs.length 0 (s := (0, 0)) trivial fun j st _ _ => by
    have e3 : fmodR ((s : Int) + (0 + (j : Int))) (xs.length : Int) = .ok (mdI (s + j) xs.length) := by
      rw [Int.zero_add]
      unfold mdI
      rw [fmodR_ok (by omega), ← fmod_cast]
      congr 1
    show ∃ s', lp__law_most_0 xs s (0 + j) st.1 st.2 = _ ∧ _
    unfold lp__law_most_0
    rw [e3, R.bind_ok, atR_pd rfl h0]
    exact ⟨_, rfl, trivial⟩
  unfold sf__law_most
  rw [R.bind_ok, R.bind_ok, rngR_ok (by omega), R.bind_ok, show ((xs.length : Nat) : Int).toNat = xs.length by omega, e]
  exact ⟨_, rfl⟩
theorem r_need : ∃ v, sf__law_need lo hi dr g = .ok v := by
  have hd := Y.dl
  have hh := Y.hl
  have hle := Y.le
  have hp := Y.pos
  obtain ⟨a, ea, la, _⟩ := lcR_all (f := fun z2' => atR dr z2' >>= fun z3' => atR lo z2' >>= fun z4' => R.ok (z3' - z4')) (P := fun _ => True) (xs := upI 0 lo.length) (by rw [upI_length]; omega) fun x hx => by
    have := upI_mem.mp hx
    rw [atR_gi (by omega) (by omega), R.bind_ok, atR_gi (by omega) (by omega)]
    exact ⟨_, rfl, trivial⟩
  obtain ⟨b, eb, lb, _⟩ := lcR_all (f := fun z7' => atR hi z7' >>= fun z8' => atR dr z7' >>= fun z9' => R.ok ((z8' - z9') - g)) (P := fun _ => True) (xs := upI 0 lo.length) (by rw [upI_length]; omega) fun x hx => by
    have := upI_mem.mp hx
    rw [atR_gi (by omega) (by omega), R.bind_ok, atR_gi (by omega) (by omega)]
    exact ⟨_, rfl, trivial⟩
  rw [upI_length] at la lb
  obtain ⟨c, ec, lc, _⟩ := lcR_all (f := fun z12' => sf__law_most a z12' >>= fun z13' => sf__law_most b z12' >>= fun z14' => R.ok (z13' + z14')) (P := fun _ => True) (xs := upI 0 lo.length) (by rw [upI_length]; omega) fun x hx => by
    have := upI_mem.mp hx
    obtain ⟨j, rfl⟩ : ∃ j : Nat, x = j := ⟨x.toNat, by omega⟩
    obtain ⟨v, ev⟩ := r_most a (by omega) (by omega) j
    obtain ⟨w, ew⟩ := r_most b (by omega) (by omega) j
    rw [ev, R.bind_ok, ew]
    exact ⟨_, rfl, trivial⟩
  rw [upI_length] at lc
  obtain ⟨M, eM⟩ := maxR_ex (xs := c) (by omega)
  unfold sf__law_need
  rw [rng_n Y.y, R.bind_ok, ea, R.bind_ok, R.bind_ok, eb, R.bind_ok, R.bind_ok, ec, R.bind_ok, eM]
  exact ⟨_, rfl⟩
theorem sq_dry (room : Int) (h : lo.sum < dr.sum) : sf__law_is_squeeze room lo hi dr g (D.tup [D.str (Str.ofString "dry")]) = .ok true := by
  have e : eqR (D.str (Str.ofString "dry")) (D.str (Str.ofString "dry")) = .ok true := by
    rw [eqR_ok ok_dry ok_dry]
    exact congrArg R.ok (by decide +kernel)
  have i0 : ixR (D.tup [D.str (Str.ofString "dry")]) 0 = .ok (D.str (Str.ofString "dry")) := ix0 rfl
  unfold sf__law_is_squeeze
  simp only [i0, e, R.bind_ok, lenR_tup]
  simp [h, List.any, isTy]
theorem sq_flood (room : Int) (h : dr.sum + g * lo.length < hi.sum) : sf__law_is_squeeze room lo hi dr g (D.tup [D.str (Str.ofString "flood")]) = .ok true := by
  have e1 : eqR (D.str (Str.ofString "flood")) (D.str (Str.ofString "dry")) = .ok false := by
    rw [eqR_ok ok_flood ok_dry]
    exact congrArg R.ok (by decide +kernel)
  have e : eqR (D.str (Str.ofString "flood")) (D.str (Str.ofString "flood")) = .ok true := by
    rw [eqR_ok ok_flood ok_flood]
    exact congrArg R.ok (by decide +kernel)
  have i0 : ixR (D.tup [D.str (Str.ofString "flood")]) 0 = .ok (D.str (Str.ofString "flood")) := ix0 rfl
  unfold sf__law_is_squeeze
  simp only [i0, e, e1, R.bind_ok, lenR_tup]
  simp [h, List.any, isTy, mul_g Y]
theorem r_lr_none (room : Int) (hr : 1 ≤ room ∧ room ≤ 1000) (h : ¬ okB room lo hi dr g) (p : Nat) (hp : p < lo.length) : sf_least_release room (eL eI lo) (eL eI hi) (eL eI dr) g p room (pd lo p) = .ok none := by
  have hhl := Y.hl
  have hb := Y.bh p
  unfold sf_least_release
  rw [r_check_band Y room hr, R.bind_ok]
  dsimp only
  rw [r_check_moment _ _ _ _ (by omega) (by omega) (by omega) (by omega), R.bind_ok, atR_pd' hp, R.bind_ok, atR_pd' (by omega), R.bind_ok, r_check_number _ _ _ _ ⟨by omega, by omega⟩, R.bind_ok, (r_band_of Y room).2 h, R.bind_ok, optK_none]
end
end Mp

set_option Elab.async false
set_option linter.all false
set_option maxRecDepth 100000
set_option maxHeartbeats 1000000
/-! Vl34: k34: the law. -/
namespace Mp
open Ym
open PySem (Str)
theorem step {σ : Type} {X : R (LO σ Bool)} {f : σ → R Bool} {s : σ} (h : X = .ok (.nx s)) (h2 : f s = .ok true) : (X >>= fun r => LO.k r f R.ok) = .ok true := by
  rw [h]
  exact h2
theorem pl_pairs (xs : List (Int × Int)) : eqR (eO (eL (eP2 eI eI)) (some xs)) (eL (eP2 eI eI) xs) = .ok true := by
  have h := (Pl.L (Pl.P2 Pl.I Pl.I)).ok (by decide) xs
  show eqR (eL (eP2 eI eI) xs) (eL (eP2 eI eI) xs) = _
  rw [eqR_ok h h, (Pl.L (Pl.P2 Pl.I Pl.I)).eq]
  simp
theorem ok_tdry : okD (D.tup [D.str (Str.ofString "dry")]) = true := by decide +kernel
theorem ok_tflood : okD (D.tup [D.str (Str.ofString "flood")]) = true := by decide +kernel
theorem eq_tdry : eqR (D.tup [D.str (Str.ofString "dry")]) (eP1 eS (Str.ofString "dry")) = .ok true := by
  show eqR (D.tup [D.str (Str.ofString "dry")]) (D.tup [D.str (Str.ofString "dry")]) = _
  rw [eqR_ok ok_tdry ok_tdry]
  exact congrArg R.ok (by decide +kernel)
theorem eq_tflood : eqR (D.tup [D.str (Str.ofString "flood")]) (eP1 eS (Str.ofString "flood")) = .ok true := by
  show eqR (D.tup [D.str (Str.ofString "flood")]) (D.tup [D.str (Str.ofString "flood")]) = _
  rw [eqR_ok ok_tflood ok_tflood]
  exact congrArg R.ok (by decide +kernel)
theorem eq_dm : eqR (D.str (Str.ofString "dry")) (D.str (Str.ofString "meet")) = .ok false := by
  rw [eqR_ok ok_dry ok_meet]
  exact congrArg R.ok (by decide +kernel)
theorem eq_fm : eqR (D.str (Str.ofString "flood")) (D.str (Str.ofString "meet")) = .ok false := by
  rw [eqR_ok ok_flood ok_meet]
  exact congrArg R.ok (by decide +kernel)
theorem eq_mm : eqR (D.str (Str.ofString "meet")) (D.str (Str.ofString "meet")) = .ok true := by
  rw [eqR_ok ok_meet ok_meet]
  exact congrArg R.ok (by decide +kernel)
theorem r_law (ns : List Int) : sf_law ns = .ok true := by
  obtain ⟨cs, ec, hcl, hc⟩ := r_cells ns
  unfold sf_law
  rw [ec, R.bind_ok, atR_gi (by omega) (by omega), R.bind_ok, R.bind_ok]
  have m0 := fmod_nn (gi cs 0) (show (0 : Int) < 24 by omega)
  have m1 := fmod_lt (gi cs 0) (show (0 : Int) < 24 by omega)
  obtain ⟨m, hm⟩ : ∃ m : Nat, 1 + (gi cs 0).fmod 24 = m := ⟨(1 + (gi cs 0).fmod 24).toNat, by omega⟩
  obtain ⟨top, et, ht⟩ := at4_ex 3 10 60 1000 (((gi cs 0).fdiv 24).fmod 4) (fmod_nn _ (by omega)) (fmod_lt _ (by omega))
  obtain ⟨wide, ew, hw⟩ := at4_ex 0 2 9 300 (((gi cs 0).fdiv 96).fmod 4) (fmod_nn _ (by omega)) (fmod_lt _ (by omega))
  obtain ⟨lo, hi, dr, ey, hl, YY⟩ := r_flows cs hcl m (by omega) (by omega) top wide (((gi cs 0).fdiv 384).fmod 5) (by omega) (by omega) (by omega)
  obtain ⟨g, eg, g0, g1⟩ := r_gate (YY 0 (by omega) (by omega)) (gi cs 26) (((gi cs 0).fdiv 1920).fmod 8) (fmod_nn _ (by omega)) (fmod_lt _ (by omega))
  have Y := YY g g0 g1
  obtain ⟨need, en⟩ := r_need Y
  obtain ⟨rt, er, hr⟩ := at4_ex (1 + (gi cs 27).fmod 1000) need (need - 1) (need + 1) (((gi cs 0).fdiv 15360).fmod 4) (fmod_nn _ (by omega)) (fmod_lt _ (by omega))
  rw [hm, et, R.bind_ok, ew, R.bind_ok, ey, R.bind_ok, atR_gi (by omega) (by omega), R.bind_ok]
  dsimp only
  rw [eg, R.bind_ok, en, R.bind_ok, atR_gi (by omega) (by omega), R.bind_ok, er, R.bind_ok, R.bind_ok, R.bind_ok]
  obtain ⟨room, hroom⟩ : ∃ room, max 1 (min 1000 rt) = room := ⟨_, rfl⟩
  have hrm : 1 ≤ room ∧ room ≤ 1000 := by omega
  rw [hroom]
  have z0 : atR [lo, hi, dr] 0 = .ok lo := rfl
  have z1 : atR [lo, hi, dr] 1 = .ok hi := rfl
  have z2 : atR [lo, hi, dr] 2 = .ok dr := rfl
  have hle := Y.le
  obtain ⟨p, hp⟩ : ∃ p : Nat, (gi cs 47).fmod m = p := ⟨((gi cs 47).fmod m).toNat, by have := fmod_nn (gi cs 47) (show (0 : Int) < (m : Int) by omega); omega⟩
  have p2 := fmod_lt (gi cs 47) (show (0 : Int) < (m : Int) by omega)
  rw [hp] at p2
  obtain ⟨q, hq⟩ : ∃ q : Nat, (gi cs 50).fmod m = q := ⟨((gi cs 50).fmod m).toNat, by have := fmod_nn (gi cs 50) (show (0 : Int) < (m : Int) by omega); omega⟩
  have q2 := fmod_lt (gi cs 50) (show (0 : Int) < (m : Int) by omega)
  rw [hq] at q2
  have tail : ∀ (base : List (Int × Int)) (a b c : Int), base.length = lo.length →
      (atR cs 50 >>= fun z51' => fmodR z51' m >>= fun z52' => sf__law_bands room base z52' >>= fun tables => atR ([(D.str (Str.ofString "meet")), D.int a, D.int b, D.int c] : List D) 1 >>= fun z54' => atR ([(D.str (Str.ofString "meet")), D.int a, D.int b, D.int c] : List D) 2 >>= fun z55' => atR ([(D.str (Str.ofString "meet")), D.int a, D.int b, D.int c] : List D) 3 >>= fun z56' => atR cs 51 >>= fun z57' => fmodR z57' m >>= fun z58' => sf__law_squeezes m z54' z55' z56' z58' >>= fun papers => sf__law_judged room lo hi dr g tables papers >>= fun z60' => R.ok z60') = .ok true := fun base a b c hb => by
    obtain ⟨ts, e1⟩ := r_bandsL room base (by omega) q (by omega)
    obtain ⟨ps, e2, hps⟩ := r_squeezes m (by omega) a b c ((gi cs 51).fmod m)
    have w1 : atR ([(D.str (Str.ofString "meet")), D.int a, D.int b, D.int c] : List D) 1 = .ok (D.int a) := rfl
    have w2 : atR ([(D.str (Str.ofString "meet")), D.int a, D.int b, D.int c] : List D) 2 = .ok (D.int b) := rfl
    have w3 : atR ([(D.str (Str.ofString "meet")), D.int a, D.int b, D.int c] : List D) 3 = .ok (D.int c) := rfl
    rw [atR_gi (by omega) (by omega), R.bind_ok, fmodR_ok (by omega), R.bind_ok, hq, e1, R.bind_ok, w1, R.bind_ok, w2, R.bind_ok, w3, R.bind_ok, atR_gi (by omega) (by omega), R.bind_ok, fmodR_ok (by omega), R.bind_ok, e2, R.bind_ok, r_judged Y room hrm ts ps (fun p hp => hps p hp)]
    rfl
  have rb := r_band Y room hrm
  have rs := r_squeeze Y room hrm
  have lcb : lcR (fun _ => R.ok ((0 : Int), room)) lo = .ok (lo.map fun _ => (0, room)) := lcR_map (by omega) fun _ _ => rfl
  have c47 : atR cs 47 = .ok (gi cs 47) := atR_gi (by omega) (by omega)
  have c48 : atR cs 48 = .ok (gi cs 48) := atR_gi (by omega) (by omega)
  have c49 : atR cs 49 = .ok (gi cs 49) := atR_gi (by omega) (by omega)
  have fm1 : fmodR (gi cs 47) m = .ok p := by rw [fmodR_ok (by omega), hp]
  have fm2 : fmodR (gi cs 48) ((m : Int) + 1) = .ok ((gi cs 48).fmod (m + 1)) := fmodR_ok (by omega)
  have fm3 : fmodR (gi cs 49) ((m : Int) + 1) = .ok ((gi cs 49).fmod (m + 1)) := fmodR_ok (by omega)
  generalize (gi cs 48).fmod (m + 1) = j0 at fm2
  generalize (gi cs 49).fmod (m + 1) = k0 at fm3
  rw [z0, R.bind_ok, z1, R.bind_ok, z2, R.bind_ok]
  by_cases hB : okB room lo hi dr g
  · have e1 := rb.1 hB
    have e2 := rs.1 hB
    have pl : (prs room lo hi dr g).length = lo.length := prs_len
    have hp0 := Y.pos
    rw [e1, R.bind_ok, R.bind_ok, R.bind_ok, R.bind_ok, e2, R.bind_ok]
    have n1 : isNo D.non = true := rfl
    have n2 : (some (prs room lo hi dr g)).isNone = false := rfl
    rw [n1, n2, if_neg (by simp), lcb, R.bind_ok, c47, R.bind_ok, fm1, R.bind_ok, c48, R.bind_ok, fm2, R.bind_ok, c49, R.bind_ok, fm3, R.bind_ok, R.bind_ok, if_pos rfl]
    refine step (s := (some (prs room lo hi dr g), prs room lo hi dr g, _)) ?_ (tail _ (p : Int) j0 k0 pl)
    rw [r_widest Y room hrm hB, R.bind_ok, if_neg (by decide), r_kept Y room hrm hB cs hcl, R.bind_ok, if_neg (by decide), orBad_some, R.bind_ok, R.bind_ok, setR_ok (by omega) (by omega), R.bind_ok, appR_ok (by rw [List.length_set]; omega), R.bind_ok]
    have n3 : isTy (eO (eL (eP2 eI eI)) (some (prs room lo hi dr g))) .list = true := rfl
    rw [R.bind_ok, n3, pl_pairs]
    rfl
  · have e1 := rb.2 hB
    rw [e1, R.bind_ok, R.bind_ok, R.bind_ok, R.bind_ok]
    -- what comes behind each of the three papers
    have lp := r_lr_none Y room hrm hB
    have n2 : (none : Option (List (Int × Int))).isNone = true := rfl
    have mg : mulR g (m : Int) = .ok (g * m) := by rw [← hl]; exact mul_g Y
    rcases rs.2 hB with ⟨e2, h1⟩ | ⟨e2, h1, h2⟩ | ⟨s, j, k, e2, h1, h2, h3, h4, h5, h6⟩
    · have n1 : isNo (D.tup [D.str (Str.ofString "dry")]) = false := rfl
      have i0 : ixR (D.tup [D.str (Str.ofString "dry")]) 0 = .ok (D.str (Str.ofString "dry")) := ix0 rfl
      have w1 : atR ([(D.str (Str.ofString "meet")), D.int p, D.int j0, D.int k0] : List D) 1 = .ok (D.int p) := rfl
      rw [e2, R.bind_ok, n1, n2, if_neg (by simp), lcb, R.bind_ok, c47, R.bind_ok, fm1, R.bind_ok, c48, R.bind_ok, fm2, R.bind_ok, c49, R.bind_ok, fm3, R.bind_ok, R.bind_ok, if_neg (by decide)]
      refine step (s := (none, lo.map fun _ => (0, room), _)) ?_ (tail _ (p : Int) j0 k0 (by simp))
      rw [isTy_tup_tuple, sq_dry Y room h1, R.bind_ok, decide_eq_true h1, eq_tdry, R.bind_ok, mg, R.bind_ok, R.bind_ok, decide_eq_false (show ¬ dr.sum ≤ lo.sum by omega), i0, R.bind_ok, eq_dm, R.bind_ok]
      simp only [Bool.not_true, Bool.false_eq_true, if_false, if_true, R.bind_ok, w1, unI_int, orBad_some, atR_pd' (show p < lo.length by omega), lp p (by omega), Option.isNone]
    · have n1 : isNo (D.tup [D.str (Str.ofString "flood")]) = false := rfl
      have i0 : ixR (D.tup [D.str (Str.ofString "flood")]) 0 = .ok (D.str (Str.ofString "flood")) := ix0 rfl
      have w1 : atR ([(D.str (Str.ofString "meet")), D.int p, D.int j0, D.int k0] : List D) 1 = .ok (D.int p) := rfl
      have h2' : dr.sum + g * m < hi.sum := by rw [← hl]; exact h2
      rw [e2, R.bind_ok, n1, n2, if_neg (by simp), lcb, R.bind_ok, c47, R.bind_ok, fm1, R.bind_ok, c48, R.bind_ok, fm2, R.bind_ok, c49, R.bind_ok, fm3, R.bind_ok, R.bind_ok, if_neg (by decide)]
      refine step (s := (none, lo.map fun _ => (0, room), _)) ?_ (tail _ (p : Int) j0 k0 (by simp))
      rw [isTy_tup_tuple, sq_flood Y room h2, R.bind_ok, decide_eq_false (show ¬ lo.sum < dr.sum by omega), mg, R.bind_ok, R.bind_ok, decide_eq_true h1, decide_eq_true h2', eq_tflood, R.bind_ok, i0, R.bind_ok, eq_fm, R.bind_ok]
      simp only [Bool.not_true, Bool.false_eq_true, if_false, if_true, R.bind_ok, w1, unI_int, orBad_some, atR_pd' (show p < lo.length by omega), lp p (by omega), Option.isNone]
    · have n1 : isNo (meetD s j k) = false := rfl
      have i0 : ixR (meetD s j k) 0 = .ok (D.str (Str.ofString "meet")) := ix0 rfl
      have it : items (meetD s j k) = .ok [(D.str (Str.ofString "meet")), D.int s, D.int j, D.int k] := rfl
      have w1 : atR ([(D.str (Str.ofString "meet")), D.int s, D.int j, D.int k] : List D) 1 = .ok (D.int s) := rfl
      have h2' : ¬ dr.sum + g * m < hi.sum := by rw [← hl]; exact h2
      have tt : isTy (meetD s j k) .tuple = true := rfl
      obtain ⟨b, s1, _, s3⟩ := r_paper Y room hrm (meetD s j k) fun ds e d hd => by
        cases e
        simp only [List.mem_cons, List.not_mem_nil, or_false] at hd
        rcases hd with rfl | rfl | rfl | rfl
        · exact ok_meet
        · rfl
        · rfl
        · rfl
      have hb := s3 ⟨s, j, k, rfl, h3, h4, h5, h6⟩
      subst hb
      rw [e2, R.bind_ok, n1, n2, if_neg (by simp), lcb, R.bind_ok, c47, R.bind_ok, fm1, R.bind_ok, c48, R.bind_ok, fm2, R.bind_ok, c49, R.bind_ok, fm3, R.bind_ok, R.bind_ok, if_neg (by decide)]
      refine step (s := (none, lo.map fun _ => (0, room), _)) ?_ (tail _ (s : Int) (j : Int) (k : Int) (by simp))
      rw [tt, s1, R.bind_ok, decide_eq_false (show ¬ lo.sum < dr.sum by omega), mg, R.bind_ok, R.bind_ok, decide_eq_true h1, decide_eq_false h2', i0, R.bind_ok, eq_mm, R.bind_ok]
      simp only [Bool.not_true, Bool.false_eq_true, if_false, if_true, R.bind_ok, it, w1, unI_int, orBad_some, atR_pd' (show s < lo.length by omega), lp s (by omega), Option.isNone]
end Mp

set_option Elab.async false
set_option linter.all false
set_option maxRecDepth 100000
set_option maxHeartbeats 4000000
namespace Mp
open PySem.Spec L2
/-! printed by gen.py from the linked text: the defs in the small language -/
open PySem
def top (i : Nat) : Stmt := PySem.Challenge.pw_longpound_k34_whole_band_or_squeeze.main.body.getD i (.Pass ⟨0, 0, 0, 0⟩)
def d_is_integer : Fd := ⟨"is_integer", top 5, ["value"], ["value"], b_is_integer⟩
theorem bd_is_integer : d_is_integer.bd := fun _ _ _ _ _ _ us hl => match us, hl with | [_], _ => rfl
def d_is_row : Fd := ⟨"is_row", top 6, ["value"], ["value"], b_is_row⟩
theorem bd_is_row : d_is_row.bd := fun _ _ _ _ _ _ us hl => match us, hl with | [_], _ => rfl
def d_is_within : Fd := ⟨"is_within", top 7, ["value", "low", "high"], ["value", "low", "high"], b_is_within⟩
theorem bd_is_within : d_is_within.bd := fun _ _ _ _ _ _ us hl => match us, hl with | [_, _, _], _ => rfl
def d_check_number : Fd := ⟨"check_number", top 8, ["name", "value", "low", "high"], ["name", "value", "low", "high"], b_check_number⟩
theorem bd_check_number : d_check_number.bd := fun _ _ _ _ _ _ us hl => match us, hl with | [_, _, _, _], _ => rfl
def d_check_integers : Fd := ⟨"check_integers", top 9, ["name", "values", "size", "low", "high", "place", "value"], ["name", "values", "size", "low", "high"], b_check_integers⟩
theorem bd_check_integers : d_check_integers.bd := fun _ _ _ _ _ _ us hl => match us, hl with | [_, _, _, _, _], _ => rfl
def d_check_room : Fd := ⟨"check_room", top 14, ["room"], ["room"], b_check_room⟩
theorem bd_check_room : d_check_room.bd := fun _ _ _ _ _ _ us hl => match us, hl with | [_], _ => rfl
def d_check_flows : Fd := ⟨"check_flows", top 15, ["name", "flows"], ["name", "flows"], b_check_flows⟩
theorem bd_check_flows : d_check_flows.bd := fun _ _ _ _ _ _ us hl => match us, hl with | [_, _], _ => rfl
def d_check_draws : Fd := ⟨"check_draws", top 16, ["draws", "periods"], ["draws", "periods"], b_check_draws⟩
theorem bd_check_draws : d_check_draws.bd := fun _ _ _ _ _ _ us hl => match us, hl with | [_, _], _ => rfl
def d_check_moment : Fd := ⟨"check_moment", top 17, ["room", "periods", "period", "level"], ["room", "periods", "period", "level"], b_check_moment⟩
theorem bd_check_moment : d_check_moment.bd := fun _ _ _ _ _ _ us hl => match us, hl with | [_, _, _, _], _ => rfl
def d_check_high : Fd := ⟨"check_high", top 20, ["high", "low", "period", "flow"], ["high", "low"], b_check_high⟩
theorem bd_check_high : d_check_high.bd := fun _ _ _ _ _ _ us hl => match us, hl with | [_, _], _ => rfl
def d_check_band : Fd := ⟨"check_band", top 21, ["room", "low", "high", "draws", "gate", "lows", "highs", "takes"], ["room", "low", "high", "draws", "gate"], b_check_band⟩
theorem bd_check_band : d_check_band.bd := fun _ _ _ _ _ _ us hl => match us, hl with | [_, _, _, _, _], _ => rfl
def d_dry_losses : Fd := ⟨"dry_losses", top 22, ["lows", "takes", "take", "flow"], ["lows", "takes"], b_dry_losses⟩
theorem bd_dry_losses : d_dry_losses.bd := fun _ _ _ _ _ _ us hl => match us, hl with | [_, _], _ => rfl
def d_flood_losses : Fd := ⟨"flood_losses", top 23, ["highs", "takes", "gate", "take", "flow"], ["highs", "takes", "gate"], b_flood_losses⟩
theorem bd_flood_losses : d_flood_losses.bd := fun _ _ _ _ _ _ us hl => match us, hl with | [_, _, _], _ => rfl
def d_sums_from : Fd := ⟨"sums_from", top 24, ["losses", "start", "length", "sums", "turn"], ["losses", "start", "length"], b_sums_from⟩
theorem bd_sums_from : d_sums_from.bd := fun _ _ _ _ _ _ us hl => match us, hl with | [_, _, _], _ => rfl
def d_pairs_of : Fd := ⟨"pairs_of", top 25, ["room", "dry", "flood", "periods", "pairs", "start", "least", "greatest"], ["room", "dry", "flood"], b_pairs_of⟩
theorem bd_pairs_of : d_pairs_of.bd := fun _ _ _ _ _ _ us hl => match us, hl with | [_, _, _], _ => rfl
def d_band_of : Fd := ⟨"band_of", top 26, ["room", "lows", "highs", "takes", "gate", "dry", "flood", "pairs", "least", "greatest"], ["room", "lows", "highs", "takes", "gate"], b_band_of⟩
theorem bd_band_of : d_band_of.bd := fun _ _ _ _ _ _ us hl => match us, hl with | [_, _, _, _, _], _ => rfl
def d_band : Fd := ⟨"band", top 27, ["room", "low", "high", "draws", "gate", "lows", "highs", "takes"], ["room", "low", "high", "draws", "gate"], b_band⟩
theorem bd_band : d_band.bd := fun _ _ _ _ _ _ us hl => match us, hl with | [_, _, _, _, _], _ => rfl
def d_is_pair : Fd := ⟨"is_pair", top 28, ["room", "pair", "least", "greatest"], ["room", "pair"], b_is_pair⟩
theorem bd_is_pair : d_is_pair.bd := fun _ _ _ _ _ _ us hl => match us, hl with | [_, _], _ => rfl
def d_shows_band : Fd := ⟨"shows_band", top 29, ["room", "low", "high", "draws", "gate", "table", "lows", "highs", "takes", "pair", "period", "least", "greatest"], ["room", "low", "high", "draws", "gate", "table"], b_shows_band⟩
theorem bd_shows_band : d_shows_band.bd := fun _ _ _ _ _ _ us hl => match us, hl with | [_, _, _, _, _, _], _ => rfl
def d_squeeze : Fd := ⟨"squeeze", top 30, ["room", "low", "high", "draws", "gate", "lows", "highs", "takes", "dry", "flood", "period", "pair", "least", "greatest", "dry_length", "flood_length"], ["room", "low", "high", "draws", "gate"], b_squeeze⟩
theorem bd_squeeze : d_squeeze.bd := fun _ _ _ _ _ _ us hl => match us, hl with | [_, _, _, _, _], _ => rfl
def d_shows_squeeze : Fd := ⟨"shows_squeeze", top 31, ["room", "low", "high", "draws", "gate", "paper", "lows", "highs", "takes", "dry", "flood", "kind", "period", "dry_length", "flood_length", "lost"], ["room", "low", "high", "draws", "gate", "paper"], b_shows_squeeze⟩
theorem bd_shows_squeeze : d_shows_squeeze.bd := fun _ _ _ _ _ _ us hl => match us, hl with | [_, _, _, _, _, _], _ => rfl
def d_least_release : Fd := ⟨"least_release", top 32, ["room", "low", "high", "draws", "gate", "period", "level", "inflow", "lows", "highs", "takes", "pairs", "least", "greatest", "rest", "release"], ["room", "low", "high", "draws", "gate", "period", "level", "inflow"], b_least_release⟩
theorem bd_least_release : d_least_release.bd := fun _ _ _ _ _ _ us hl => match us, hl with | [_, _, _, _, _, _, _, _], _ => rfl
def d__law_cells : Fd := ⟨"_law_cells", top 34, ["script", "cells", "seed", "k", "cell", "first", "second"], ["script"], b__law_cells⟩
theorem bd__law_cells : d__law_cells.bd := fun _ _ _ _ _ _ us hl => match us, hl with | [_], _ => rfl
def d__law_number : Fd := ⟨"_law_number", top 35, ["one"], ["one"], b__law_number⟩
theorem bd__law_number : d__law_number.bd := fun _ _ _ _ _ _ us hl => match us, hl with | [_], _ => rfl
def d__law_flows : Fd := ⟨"_law_flows", top 36, ["cells", "periods", "top", "wide", "way", "low", "high", "draws", "turn", "k"], ["cells", "periods", "top", "wide", "way"], b__law_flows⟩
theorem bd__law_flows : d__law_flows.bd := fun _ _ _ _ _ _ us hl => match us, hl with | [_, _, _, _, _], _ => rfl
def d__law_gate : Fd := ⟨"_law_gate", top 37, ["cell", "high", "draws", "way", "mean", "gate"], ["cell", "high", "draws", "way"], b__law_gate⟩
theorem bd__law_gate : d__law_gate.bd := fun _ _ _ _ _ _ us hl => match us, hl with | [_, _, _, _], _ => rfl
def d__law_most : Fd := ⟨"_law_most", top 38, ["losses", "start", "total", "most", "turn"], ["losses", "start"], b__law_most⟩
theorem bd__law_most : d__law_most.bd := fun _ _ _ _ _ _ us hl => match us, hl with | [_, _], _ => rfl
def d__law_need : Fd := ⟨"_law_need", top 39, ["low", "high", "draws", "gate", "dry", "flood", "k"], ["low", "high", "draws", "gate"], b__law_need⟩
theorem bd__law_need : d__law_need.bd := fun _ _ _ _ _ _ us hl => match us, hl with | [_, _, _, _], _ => rfl
def d__law_is_band : Fd := ⟨"_law_is_band", top 40, ["room", "low", "high", "draws", "gate", "table", "pair", "k", "then", "level", "flow", "rest"], ["room", "low", "high", "draws", "gate", "table"], b__law_is_band⟩
theorem bd__law_is_band : d__law_is_band.bd := fun _ _ _ _ _ _ us hl => match us, hl with | [_, _, _, _, _, _], _ => rfl
def d__law_is_squeeze : Fd := ⟨"_law_is_squeeze", top 41, ["room", "low", "high", "draws", "gate", "paper", "periods", "one", "lost", "turn", "at", "spilled"], ["room", "low", "high", "draws", "gate", "paper"], b__law_is_squeeze⟩
theorem bd__law_is_squeeze : d__law_is_squeeze.bd := fun _ _ _ _ _ _ us hl => match us, hl with | [_, _, _, _, _, _], _ => rfl
def d__law_dries : Fd := ⟨"_law_dries", top 42, ["low", "draws", "start", "level", "turn", "at"], ["low", "draws", "start", "level"], b__law_dries⟩
theorem bd__law_dries : d__law_dries.bd := fun _ _ _ _ _ _ us hl => match us, hl with | [_, _, _, _], _ => rfl
def d__law_floods : Fd := ⟨"_law_floods", top 43, ["room", "high", "draws", "gate", "start", "level", "turn", "at"], ["room", "high", "draws", "gate", "start", "level"], b__law_floods⟩
theorem bd__law_floods : d__law_floods.bd := fun _ _ _ _ _ _ us hl => match us, hl with | [_, _, _, _, _, _], _ => rfl
def d__law_widest : Fd := ⟨"_law_widest", top 44, ["room", "low", "high", "draws", "gate", "table", "k"], ["room", "low", "high", "draws", "gate", "table"], b__law_widest⟩
theorem bd__law_widest : d__law_widest.bd := fun _ _ _ _ _ _ us hl => match us, hl with | [_, _, _, _, _, _], _ => rfl
def d__law_bands : Fd := ⟨"_law_bands", top 45, ["room", "base", "at", "pair", "tables", "others", "other", "one"], ["room", "base", "at"], b__law_bands⟩
theorem bd__law_bands : d__law_bands.bd := fun _ _ _ _ _ _ us hl => match us, hl with | [_, _, _], _ => rfl
def d__law_squeezes : Fd := ⟨"_law_squeezes", top 46, ["size", "start", "dry", "spill", "other", "papers"], ["size", "start", "dry", "spill", "other"], b__law_squeezes⟩
theorem bd__law_squeezes : d__law_squeezes.bd := fun _ _ _ _ _ _ us hl => match us, hl with | [_, _, _, _, _], _ => rfl
def d__law_judged : Fd := ⟨"_law_judged", top 47, ["room", "low", "high", "draws", "gate", "tables", "papers", "table", "due", "told", "paper"], ["room", "low", "high", "draws", "gate", "tables", "papers"], b__law_judged⟩
theorem bd__law_judged : d__law_judged.bd := fun _ _ _ _ _ _ us hl => match us, hl with | [_, _, _, _, _, _, _], _ => rfl
def d__law_release : Fd := ⟨"_law_release", top 48, ["gate", "pair", "rest", "release"], ["gate", "pair", "rest"], b__law_release⟩
theorem bd__law_release : d__law_release.bd := fun _ _ _ _ _ _ us hl => match us, hl with | [_, _, _], _ => rfl
def d__law_flow : Fd := ⟨"_law_flow", top 49, ["cell", "least", "greatest"], ["cell", "least", "greatest"], b__law_flow⟩
theorem bd__law_flow : d__law_flow.bd := fun _ _ _ _ _ _ us hl => match us, hl with | [_, _, _], _ => rfl
def d__law_kept : Fd := ⟨"_law_kept", top 50, ["room", "low", "high", "draws", "gate", "table", "cells", "at", "pair", "levels", "level", "step", "flow", "rest", "then", "due", "told"], ["room", "low", "high", "draws", "gate", "table", "cells"], b__law_kept⟩
theorem bd__law_kept : d__law_kept.bd := fun _ _ _ _ _ _ us hl => match us, hl with | [_, _, _, _, _, _, _], _ => rfl
def d_law : Fd := ⟨"law", top 51, ["script", "cells", "head", "periods", "top", "wide", "low", "high", "draws", "gate", "need", "room", "passed", "table", "paper", "base", "meet", "flooded", "at", "tables", "papers", "flow"], ["script"], b_law⟩
theorem bd_law : d_law.bd := fun _ _ _ _ _ _ us hl => match us, hl with | [_], _ => rfl
def tab : List Fd := [d_is_integer, d_is_row, d_is_within, d_check_number, d_check_integers, d_check_room, d_check_flows, d_check_draws, d_check_moment, d_check_high, d_check_band, d_dry_losses, d_flood_losses, d_sums_from, d_pairs_of, d_band_of, d_band, d_is_pair, d_shows_band, d_squeeze, d_shows_squeeze, d_least_release, d__law_cells, d__law_number, d__law_flows, d__law_gate, d__law_most, d__law_need, d__law_is_band, d__law_is_squeeze, d__law_dries, d__law_floods, d__law_widest, d__law_bands, d__law_squeezes, d__law_judged, d__law_release, d__law_flow, d__law_kept, d_law]
def con : List (Str × Int) := [("MOST_PERIODS", 24), ("MOST_FLOW", 1000), ("MOST_ROOM", 1000), ("MOST_GATE", 1000)]
theorem bds : ∀ d ∈ tab, d.bd := List.forall_mem_cons.mpr ⟨bd_is_integer, List.forall_mem_cons.mpr ⟨bd_is_row, List.forall_mem_cons.mpr ⟨bd_is_within, List.forall_mem_cons.mpr ⟨bd_check_number, List.forall_mem_cons.mpr ⟨bd_check_integers, List.forall_mem_cons.mpr ⟨bd_check_room, List.forall_mem_cons.mpr ⟨bd_check_flows, List.forall_mem_cons.mpr ⟨bd_check_draws, List.forall_mem_cons.mpr ⟨bd_check_moment, List.forall_mem_cons.mpr ⟨bd_check_high, List.forall_mem_cons.mpr ⟨bd_check_band, List.forall_mem_cons.mpr ⟨bd_dry_losses, List.forall_mem_cons.mpr ⟨bd_flood_losses, List.forall_mem_cons.mpr ⟨bd_sums_from, List.forall_mem_cons.mpr ⟨bd_pairs_of, List.forall_mem_cons.mpr ⟨bd_band_of, List.forall_mem_cons.mpr ⟨bd_band, List.forall_mem_cons.mpr ⟨bd_is_pair, List.forall_mem_cons.mpr ⟨bd_shows_band, List.forall_mem_cons.mpr ⟨bd_squeeze, List.forall_mem_cons.mpr ⟨bd_shows_squeeze, List.forall_mem_cons.mpr ⟨bd_least_release, List.forall_mem_cons.mpr ⟨bd__law_cells, List.forall_mem_cons.mpr ⟨bd__law_number, List.forall_mem_cons.mpr ⟨bd__law_flows, List.forall_mem_cons.mpr ⟨bd__law_gate, List.forall_mem_cons.mpr ⟨bd__law_most, List.forall_mem_cons.mpr ⟨bd__law_need, List.forall_mem_cons.mpr ⟨bd__law_is_band, List.forall_mem_cons.mpr ⟨bd__law_is_squeeze, List.forall_mem_cons.mpr ⟨bd__law_dries, List.forall_mem_cons.mpr ⟨bd__law_floods, List.forall_mem_cons.mpr ⟨bd__law_widest, List.forall_mem_cons.mpr ⟨bd__law_bands, List.forall_mem_cons.mpr ⟨bd__law_squeezes, List.forall_mem_cons.mpr ⟨bd__law_judged, List.forall_mem_cons.mpr ⟨bd__law_release, List.forall_mem_cons.mpr ⟨bd__law_flow, List.forall_mem_cons.mpr ⟨bd__law_kept, List.forall_mem_cons.mpr ⟨bd_law, fun _ z => nomatch z⟩⟩⟩⟩⟩⟩⟩⟩⟩⟩⟩⟩⟩⟩⟩⟩⟩⟩⟩⟩⟩⟩⟩⟩⟩⟩⟩⟩⟩⟩⟩⟩⟩⟩⟩⟩⟩⟩⟩⟩
abbrev loose : List Str := (["CanalError", "TooMany", "BadRow", "is_integer", "is_row", "is_within", "check_number", "check_integers", "MOST_PERIODS", "MOST_FLOW", "MOST_ROOM", "check_room", "check_flows", "check_draws", "check_moment", "MOST_GATE", "check_high", "check_band", "dry_losses", "flood_losses", "sums_from", "pairs_of", "band_of", "band", "is_pair", "shows_band", "squeeze", "shows_squeeze", "least_release", "_law_cells"] : List Str) ++ (["_law_number", "_law_flows", "_law_gate", "_law_most", "_law_need", "_law_is_band", "_law_is_squeeze", "_law_dries", "_law_floods", "_law_widest", "_law_bands", "_law_squeezes", "_law_judged", "_law_release", "_law_flow", "_law_kept"] : List Str)
def lawTop : Nat := 51
def lawAt : Nat := 39
theorem tab_ok : tab.all (Fd.ok (tab.map Fd.name) con) = true := by decide +kernel
set_option maxHeartbeats 0
end Mp
namespace Mp
open PySem PySem.Spec PyProof.Rows L2
abbrev RR : PySem.W.OpenRow := PySem.W.OpenLaw.row PySem.Challenge.rw_longpound_k34_whole_band_or_squeeze
abbrev hk : PySem.W.Hook := He.hookD 4 (faOf tab con) (fnOf tab)
def ob (s : PySem.W.SharedT) : He.AlD := He.obsDG 4 (faOf tab con) (fnOf tab) (HandSHeadRun.getT s)
theorem ob_eq (s : PySem.W.SharedT) : ob s = hk.obs s.abs := He.obsDG_eq (HandSHeadRun.getT_eq s)
theorem runs (w : World) : HandSHeadRun.RunEq RR (PySem.W.view RR.prog [51]) hk ob 3000 Mp.loose w := by
  intro os
  kernel_rfl
end Mp
open PySem PySem.W PySem.Calls PyProof.Rows
theorem Mp.law_end (lawTrue : ∀ ns : List Int, ns.length ≤ 63 → ∃ k, Mp.pphi Mp.FU Mp.ptab 8 Mp.lawAt [.lst (ns.map Mp.D.int)] = .ok (.bl true, k)) : PySem.Challenge.rw_longpound_k34_whole_band_or_squeeze.Holds := by
  w_on; o_law
  refine HandSHeadRun.head_any (r := OpenLaw.row PySem.Challenge.rw_longpound_k34_whole_band_or_squeeze) (q := view (OpenLaw.row PySem.Challenge.rw_longpound_k34_whole_band_or_squeeze).prog [51]) (H := Mp.hk) (ob := Mp.ob) (M := 3000) (loose := Mp.loose) (d := HandSHeadRun.topDef (OpenLaw.row PySem.Challenge.rw_longpound_k34_whole_band_or_squeeze).prog 51) (kwd := []) Mp.ob_eq
    (by kernel_rfl) (fun s => by kernel_rfl) Mp.runs (by kernel_rfl) (by kernel_rfl) (by kernel_rfl) (by rfl) (by first | assumption | decide +kernel) (by decide +kernel) ⟨rfl, rfl, rfl, rfl, rfl, by decide +kernel⟩ ?hw ?hc
  case hw => w_witness2
  case hc =>
    refine L2.walk_ofE (l := PySem.Challenge.rw_longpound_k34_whole_band_or_squeeze) (n := 63) (k := 8) (x := "script") (CX := L2.CX0) rfl (by decide) (by kernel_rfl) ⟨rfl, by decide, by decide⟩ ?F (fun _ _ _ _ z => z)
    intro w mg fa h Y G hmg0
    obtain ⟨K, KX, c⟩ := Y
    have hmg : mg Mp.d_law.name = some (.ref fa) := by
      have e : (HandSHeadRun.topDef (OpenLaw.row PySem.Challenge.rw_longpound_k34_whole_band_or_squeeze).prog 51).name = ("law" : PySem.Str) := by kernel_rfl
      rw [← show ("law" : PySem.Str) = Mp.d_law.name from rfl, ← e]
      exact hmg0
    obtain ⟨fd, hb, hF⟩ := Mp.law_facts (P := (PySem.Challenge.rw_longpound_k34_whole_band_or_squeeze).prog) (w := w) KX G c Mp.bds Mp.tab_ok Mp.FU 8 Mp.lawAt (d := Mp.d_law) rfl hmg rfl
    exact ⟨K, fd, _, KX, hb, fun H a ns hl _ hS => Mp.law_sp (fun ns hn => by rw [Mp.phi_pphi]; exact lawTrue ns hn) hl hS, hF⟩
theorem Mp.law_true (ns : List Int) : ∃ k, Mp.pphi Mp.FU Mp.ptab 8 Mp.lawAt [.lst (ns.map Mp.D.int)] = .ok (.bl true, k) := by
  have h := Mp.S_law 0 ns
  unfold Mp.FnR at h
  rw [Mp.r_law ns] at h
  obtain ⟨z, e, e2, _⟩ := h
  obtain ⟨d, k⟩ := z
  cases e2
  rw [Nat.zero_add] at e
  exact ⟨k, e⟩

theorem PySem.Challenge.cw_longpound_k34_whole_band_or_squeeze_holds : PySem.Challenge.rw_longpound_k34_whole_band_or_squeeze.Holds := by
  exact Mp.law_end (fun ns _ => Mp.law_true ns)
