import PyProof.Rows.All
import Wide.All
import OpenK.AllK
import Wide.FinOn
import HandS.ForMost
import HandS.TupAny
import HandS.TupMul
import HandS.IsInst
import HandS.Walk
import HandS.Zip
import HandS.Flow
import HandS.Exc
import HandS.ExcOwn
import HandS.Style
import HandS.Text
import HandS.Rev
import HandS.More
import HandS.Wide
import KE.KRevSl
import KE.DataCmp
import KE.DataMinMax
import HandS.RevRange
import HandS.SortKw
import HandS.Dict
import KE.KDictKeyed
import KE.GoesEnum
import KE.GoesMore
import HandS.Deep
import HandS.WordsExc
import PySem.Challenge.RW_dwindleweb_k06_tables_mean_rows
set_option Elab.async false
set_option linter.all false
set_option maxRecDepth 1000000
/-! A small language of pure data and its weakest preconditions. -/
namespace DL
open PySem

/-- data: tuples whole, everything that may change by its address -/
inductive D where
  | non
  | bl (b : Bool)
  | int (i : Int)
  | str (x : Str)
  | tup (xs : List D)
  | ref (a : Nat)
  /-- a list that is only read -/
  | rl (xs : List D)
  deriving Inhabited

/-- what may stand at an address -/
inductive MO where
  | lst (xs : List D)
  /-- a dict -/
  | dct (es : List (D × D))

abbrev Mem := Nat → Option MO
def upd (M : Mem) (p : Nat) (o : MO) : Mem := fun a => if a = p then some o else M a
def drp (M : Mem) (p : Nat) : Mem := fun a => if a = p then none else M a
def Sub (M' M : Mem) : Prop := ∀ a o, M' a = some o → M a = some o

inductive Slot where
  | no
  | val (d : D)
  | own (p : Nat) (o : MO)
abbrev Env := List Slot

/-- an error: its class by name, its own fields -/
structure Xn where
  cls : String
  fs : List (String × D)

abbrev QE := D → Mem → Prop
abbrev QX := Xn → Mem → Prop
abbrev QL := List D → Mem → Prop
/-- what the defs do, by number -/
abbrev FS := Nat → List D → Mem → QE → QX → Prop

/-! ### data -/
mutual
def D.py : D → PyData
  | .non => .none
  | .bl b => .bool b
  | .int i => .int i
  | .str x => .str x
  | .tup xs => .tuple (D.pys xs)
  | .ref _ => .none
  | .rl _ => .none
def D.pys : List D → List PyData
  | [] => []
  | x :: xs => x.py :: D.pys xs
end
mutual
/-- no address in it, and at most n deep -/
def D.flat : Nat → D → Bool
  | _, .ref _ => false
  | _, .rl _ => false
  | 0, .tup _ => false
  | n + 1, .tup xs => D.flats n xs
  | _, .str x => PyData.strOk x
  | _, _ => true
def D.flats : Nat → List D → Bool
  | _, [] => true
  | n, x :: xs => D.flat n x && D.flats n xs
end
mutual
/-- Python's == of data without addresses -/
def D.eqv : D → D → Bool
  | .non, .non => true
  | .bl a, .bl b => a == b
  | .bl a, .int j => (if a then 1 else 0) == j
  | .int i, .bl b => i == (if b then 1 else 0)
  | .int i, .int j => decide (i = j)
  | .str x, .str y => decide (x = y)
  | .tup xs, .tup ys => D.eqvs xs ys
  | _, _ => false
def D.eqvs : List D → List D → Bool
  | [], [] => true
  | x :: xs, y :: ys => D.eqv x y && D.eqvs xs ys
  | _, _ => false
end

mutual
def D.beq : D → D → Bool
  | .non, .non => true
  | .bl a, .bl b => a == b
  | .int a, .int b => a == b
  | .str a, .str b => a == b
  | .tup xs, .tup ys => D.beqs xs ys
  | .ref a, .ref b => a == b
  | .rl xs, .rl ys => D.beqs xs ys
  | _, _ => false
def D.beqs : List D → List D → Bool
  | [], [] => true
  | x :: xs, y :: ys => D.beq x y && D.beqs xs ys
  | _, _ => false
end
mutual
theorem D.beq_eq : ∀ {x y : D}, D.beq x y = true → x = y
  | .non, y, h => by cases y <;> simp_all [D.beq]
  | .bl a, y, h => by cases y <;> simp_all [D.beq]
  | .int a, y, h => by cases y <;> simp_all [D.beq]
  | .str a, y, h => by cases y <;> simp_all [D.beq]
  | .ref a, y, h => by cases y <;> simp_all [D.beq]
  | .tup xs, y, h => by
    cases y with
    | tup ys => rw [D.beqs_eq (xs := xs) (ys := ys) (by simpa [D.beq] using h)]
    | _ => simp [D.beq] at h
  | .rl xs, y, h => by
    cases y with
    | rl ys => rw [D.beqs_eq (xs := xs) (ys := ys) (by simpa [D.beq] using h)]
    | _ => simp [D.beq] at h
theorem D.beqs_eq : ∀ {xs ys : List D}, D.beqs xs ys = true → xs = ys
  | [], [], _ => rfl
  | [], _ :: _, h => by simp [D.beqs] at h
  | _ :: _, [], h => by simp [D.beqs] at h
  | x :: xs, y :: ys, h => by
    have h' : D.beq x y = true ∧ D.beqs xs ys = true := by simpa [D.beqs] using h
    rw [D.beq_eq h'.1, D.beqs_eq h'.2]
end

mutual
/-- may stand within a tuple that is a key of a dict -/
def D.kt : Nat → D → Bool
  | _, .non => true
  | _, .int _ => true
  | n + 1, .tup xs => D.kts n xs
  | _, _ => false
def D.kts : Nat → List D → Bool
  | _, [] => true
  | n, x :: xs => D.kt n x && D.kts n xs
end
/-- keys that are no tuples -/
def D.plain : D → Bool
  | .int _ => true | .str _ => true | _ => false
def D.keyOk : D → Bool
  | .int _ => true | .str _ => true | .tup xs => D.kt 8 (.tup xs) | _ => false
/-- the key may be asked of this dict -/
def DkOk (es : List (D × D)) (k : D) : Prop := k.keyOk = true ∧ ∀ p ∈ es, p.1.keyOk = true ∧ p.1.plain = k.plain
def dget (es : List (D × D)) (k : D) : Option D := (es.find? fun p => D.beq p.1 k).map (·.2)
def dput (es : List (D × D)) (k v : D) : List (D × D) := if es.any (fun p => D.beq p.1 k) = true then es.map (fun p => if D.beq p.1 k = true then (p.1, v) else p) else es ++ [(k, v)]
inductive BOp where | add | sub | mul | fdiv | mod | pow | shl | shr | band | bor | bxor
inductive COp where | eq | ne | lt | le | gt | ge | isN | notN | inn | notin

def CMulD (i j : Int) : Prop := (-(2 ^ 64) < i ∧ i < 2 ^ 64) ∨ (-(2 ^ 64) < j ∧ j < 2 ^ 64)

/-- by what // may divide -/
def DivOk (j : Int) : Prop := 0 < j ∧ j.natAbs.log2 < 9000
theorem DivOk.of {j : Int} (h : 0 < j) (h2 : j < 2 ^ 100) : DivOk j := by
  have h3 : j.natAbs < 2 ^ 100 := by omega
  have h4 : j.natAbs.log2 < 100 := PySem.Flt.log2_lt_of (by decide) h3
  exact ⟨h, by omega⟩
def wBin : BOp → D → D → (D → Prop) → Prop
  | .add, .int i, .int j, Q => Q (.int (i + j))
  | .add, .str x, .str y, Q => x.length + y.length ≤ sizeLine ∧ Q (.str (x ++ y))
  | .add, .tup xs, .tup ys, Q => xs.length + ys.length ≤ sizeLine ∧ Q (.tup (xs ++ ys))
  | .sub, .int i, .int j, Q => Q (.int (i - j))
  | .mul, .int i, .int j, Q => CMulD i j ∧ Q (.int (i * j))
  | .mul, .tup xs, .int k, Q => (xs ≠ [] ∧ 2 ≤ k ∧ k ≤ 1000 ∧ xs.length ≤ 1000) ∧ Q (.tup (List.replicate k.toNat xs).flatten)
  | .fdiv, .int i, .int j, Q => DivOk j ∧ Q (.int (i / j))
  | .mod, .int i, .int j, Q => 0 < j ∧ Q (.int (i % j))
  | .pow, .int i, .int j, Q => (0 ≤ j ∧ j ≤ 1000000 ∧ i.natAbs < 2 ^ 64) ∧ Q (.int (i ^ j.toNat))
  | .shl, .int i, .int j, Q => (0 ≤ j ∧ j ≤ 1000000 ∧ i.natAbs < 2 ^ 64) ∧ Q (.int (i * 2 ^ j.toNat))
  | .shr, .int i, .int j, Q => 0 ≤ j ∧ Q (.int (i / 2 ^ j.toNat))
  | .band, .int i, .int j, Q => Q (.int (Builtin.bitAnd i j))
  | .bor, .int i, .int j, Q => Q (.int (Builtin.bitOr i j))
  | .bxor, .int i, .int j, Q => Q (.int (Builtin.bitXor i j))
  | _, _, _, _ => False

/-- x op= y -/
def wAug (o : BOp) (x y : D) (Q : D → Prop) : Prop := match x, o with
  | .int _, .fdiv => (match y with | .int j => j < 1073741824 | _ => False) ∧ wBin o x y Q
  | .int _, .add | .int _, .sub | .int _, .mul | .int _, .mod | .str _, .add => wBin o x y Q
  | _, _ => False
/-- one text stands within another -/
def inStr (x y : Str) : Bool := !(Builtin.Str.occurrences y x 0 y.length 1).isEmpty

def wCmp : COp → D → D → Mem → (Bool → Prop) → Prop
  | .eq, .str x, .str y, _, Q => Q (decide (x = y))
  | .ne, .str x, .str y, _, Q => Q (!decide (x = y))
  | .eq, .ref a, .ref b, M, Q => ∃ xs ys, M a = some (.lst xs) ∧ M b = some (.lst ys) ∧ (D.flats 58 xs = true ∧ D.flats 58 ys = true) ∧ Q (D.eqvs xs ys)
  | .ne, .ref a, .ref b, M, Q => ∃ xs ys, M a = some (.lst xs) ∧ M b = some (.lst ys) ∧ (D.flats 58 xs = true ∧ D.flats 58 ys = true) ∧ Q (!D.eqvs xs ys)
  | .eq, x, y, _, Q => (D.flat 60 x = true ∧ D.flat 60 y = true) ∧ Q (D.eqv x y)
  | .ne, x, y, _, Q => (D.flat 60 x = true ∧ D.flat 60 y = true) ∧ Q (!D.eqv x y)
  | .lt, .int i, .int j, _, Q => Q (decide (i < j))
  | .lt, .str x, .str y, _, Q => Q (decide (x.cps.toList < y.cps.toList))
  | .le, .int i, .int j, _, Q => Q (decide (i ≤ j))
  | .gt, .int i, .int j, _, Q => Q (decide (j < i))
  | .ge, .int i, .int j, _, Q => Q (decide (j ≤ i))
  | .isN, .bl a, .bl b, _, Q => Q (decide (a = b))
  | .notN, .bl a, .bl b, _, Q => Q (!decide (a = b))
  | .isN, .non, .non, _, Q => Q true
  | .isN, _, .non, _, Q => Q false
  | .notN, .non, .non, _, Q => Q false
  | .notN, _, .non, _, Q => Q true
  | .inn, .str x, .str y, _, Q => Q (inStr x y)
  | .notin, .str x, .str y, _, Q => Q (!inStr x y)
  | .inn, x, .tup ys, _, Q => (D.flat 60 x = true ∧ D.flats 60 ys = true) ∧ Q (ys.any fun y => D.eqv y x)
  | .notin, x, .tup ys, _, Q => (D.flat 60 x = true ∧ D.flats 60 ys = true) ∧ Q (!ys.any fun y => D.eqv y x)
  | .inn, x, .ref a, M, Q => ∃ ys, M a = some (.lst ys) ∧ (D.flat 60 x = true ∧ D.flats 60 ys = true) ∧ Q (ys.any fun y => D.eqv y x)
  | .notin, x, .ref a, M, Q => ∃ ys, M a = some (.lst ys) ∧ (D.flat 60 x = true ∧ D.flats 60 ys = true) ∧ Q (!ys.any fun y => D.eqv y x)
  | .lt, .tup xs, .tup ys, _, Q => (D.flat 60 (.tup xs) = true ∧ D.flat 60 (.tup ys) = true ∧ PySem.W.alike (D.py (.tup xs)) (D.py (.tup ys)) = true) ∧ Q (PySem.W.dataLt (D.py (.tup xs)) (D.py (.tup ys)))
  | _, _, _, _, _ => False

/-- truth -/
def wTru : D → Mem → (Bool → Prop) → Prop
  | .non, _, Q => Q false
  | .bl b, _, Q => Q b
  | .int i, _, Q => Q (i != 0)
  | .str x, _, Q => x.length ≤ sizeLine ∧ Q ((x.length : Int) != 0)
  | .tup xs, _, Q => Q (!xs.isEmpty)
  | .ref a, M, Q => ∃ xs, M a = some (.lst xs) ∧ Q (!xs.isEmpty)
  | .rl _, _, _ => False

def wIdx : D → D → Mem → (D → Prop) → Prop
  | .tup xs, .int i, _, Q => ∃ v, L2.atI xs i = some v ∧ Q v
  | .str z, .int i, _, Q => z.length ≤ sizeLine ∧ ∃ c, L2.atI z.cps.toList i = some c ∧ Q (.str ⟨#[c]⟩)
  | .ref a, .int i, M, Q => ∃ xs v, M a = some (.lst xs) ∧ L2.atI xs i = some v ∧ Q v
  | _, _, _, _ => False

def cutD (xs : List D) (lo hi : Option Int) : List D := (xs.drop (HT.sIx xs.length 0 lo)).take (HT.sIx xs.length xs.length hi - HT.sIx xs.length 0 lo)

inductive Ty where | int | bool | str | tuple | list
/-- isinstance(x, T) -/
def D.isa : D → Ty → Bool
  | .bl _, .int => true
  | .bl _, .bool => true
  | .int _, .int => true
  | .str _, .str => true
  | .tup _, .tuple => true
  | _, _ => false

/-- built-ins on values -/
inductive Blt where | len | int | bool | abs | max | min | tuple | isa (t : Ty) | str
def wBlt : Blt → List D → Mem → (D → Prop) → Prop
  | .len, [.tup xs], _, Q => Q (.int xs.length)
  | .len, [.str x], _, Q => x.length ≤ sizeLine ∧ Q (.int x.length)
  | .len, [.ref a], M, Q => ∃ xs, M a = some (.lst xs) ∧ Q (.int xs.length)
  | .int, [.int i], _, Q => Q (.int i)
  | .int, [.bl b], _, Q => Q (.int (if b then 1 else 0))
  | .bool, [.bl b], _, Q => Q (.bl b)
  | .bool, [.int i], _, Q => Q (.bl (i != 0))
  | .abs, [.int i], _, Q => Q (.int (if i < 0 then -i else i))
  | .max, [.int i, .int j], _, Q => Q (.int (max i j))
  | .max, [.int i, .int j, .int k], _, Q => Q (.int (max (max i j) k))
  | .min, [.int i, .int j], _, Q => Q (.int (min i j))
  | .max, [.tup xs], _, Q => ∃ ns : List Int, xs = ns.map D.int ∧ 0 < ns.length ∧ ∀ m, m ∈ ns → (∀ y, y ∈ ns → y ≤ m) → Q (.int m)
  | .min, [.tup xs], _, Q => ∃ ns : List Int, xs = ns.map D.int ∧ 0 < ns.length ∧ ∀ m, m ∈ ns → (∀ y, y ∈ ns → m ≤ y) → Q (.int m)
  | .tuple, [.tup xs], _, Q => Q (.tup xs)
  | .tuple, [.ref a], M, Q => ∃ xs, M a = some (.lst xs) ∧ Q (.tup xs)
  | .isa t, [.ref a], M, Q => (∃ xs, M a = some (.lst xs)) ∧ Q (.bl (match t with | .list => true | _ => false))
  | .isa _, [.rl _], _, _ => False
  | .isa t, [x], _, Q => Q (.bl (x.isa t))
  | .str, [.int i], _, Q => i.natAbs.log2 < 1920 ∧ Q (.str (toString i : String))
  | _, _, _, _ => False

/-- what takes a list at once -/
inductive LK where | tuple | all | any | len | sum | max | min
def allBl : List D → Option Bool
  | [] => some true
  | .bl b :: xs => (allBl xs).map fun c => b && c
  | _ => none
def anyBl : List D → Option Bool
  | [] => some false
  | .bl b :: xs => (anyBl xs).map fun c => b || c
  | _ => none
def sumD : List D → Option Int
  | [] => some 0
  | .int i :: xs => (sumD xs).map fun s => i + s
  | _ => none
def wLK : LK → List D → (D → Prop) → Prop
  | .tuple, xs, Q => Q (.tup xs)
  | .len, xs, Q => Q (.int xs.length)
  | .all, xs, Q => ∃ b, allBl xs = some b ∧ Q (.bl b)
  | .any, xs, Q => ∃ b, anyBl xs = some b ∧ Q (.bl b)
  | .sum, xs, Q => ∃ s, sumD xs = some s ∧ Q (.int s)
  | .max, xs, Q => ∃ ns : List Int, xs = ns.map D.int ∧ 0 < ns.length ∧ ∀ m, m ∈ ns → (∀ y, y ∈ ns → y ≤ m) → Q (.int m)
  | .min, xs, Q => ∃ ns : List Int, xs = ns.map D.int ∧ 0 < ns.length ∧ ∀ m, m ∈ ns → (∀ y, y ∈ ns → m ≤ y) → Q (.int m)
/-- sorted(xs) -/
def wSorted (xs : List D) (Q : List D → Prop) : Prop :=
  (∃ ns : List Int, xs = ns.map D.int ∧ ns.length < 64 ∧ ∀ ns' : List Int, ns'.Perm ns → ns'.Pairwise (· ≤ ·) → Q (ns'.map D.int)) ∨
  (∃ ns : List Str, xs = ns.map D.str ∧ ns.length < 64 ∧ ∀ ns' : List Str, ns'.Perm ns → PyProof.Rows.sortedS ns' = true → Q (ns'.map D.str))
/-- x[lo:hi] -/
def wSlc : D → Option Int → Option Int → Mem → (D → Mem → Prop) → Prop
  | .tup xs, l, h, M, Q => Q (.tup (cutD xs l h)) M
  | .str z, l, h, M, Q => z.length ≤ sizeLine ∧ Q (.str (L2.cutS z l h)) M
  | .ref a, l, h, M, Q => ∃ xs, M a = some (.lst xs) ∧ ∀ p, M p = none → Q (.ref p) (upd M p (.lst (cutD xs l h)))
  | _, _, _, _, _ => False

/-- methods -/
inductive Mth where | append | pop | popAt | reverse | extend | insert | split | join
def Mth.lst : Mth → Bool
  | .split => false
  | .join => false
  | _ => true
def wTy (m : Mth) (x : D) (M : Mem) : Prop := match m.lst with
  | true => ∃ a xs, x = .ref a ∧ M a = some (.lst xs)
  | false => ∃ s, x = .str s
def wMth : Mth → D → List D → Mem → QE → Prop
  | .append, .ref a, [y], M, Q => ∃ xs, M a = some (.lst xs) ∧ xs.length < sizeLine ∧ Q .non (upd M a (.lst (xs ++ [y])))
  | .pop, .ref a, [], M, Q => ∃ xs y, M a = some (.lst xs) ∧ xs.getLast? = some y ∧ Q y (upd M a (.lst xs.dropLast))
  | .popAt, .ref a, [.int i], M, Q => ∃ xs k y, M a = some (.lst xs) ∧ (-(2 ^ 63) ≤ i ∧ i < 2 ^ 63) ∧ L2.ixN xs.length i = some k ∧ xs[k]? = some y ∧ Q y (upd M a (.lst (xs.eraseIdx k)))
  | .reverse, .ref a, [], M, Q => ∃ xs, M a = some (.lst xs) ∧ Q .non (upd M a (.lst xs.reverse))
  | .extend, .ref a, [.ref b], M, Q => ∃ xs ys, M a = some (.lst xs) ∧ M b = some (.lst ys) ∧ xs.length + ys.length ≤ sizeLine ∧ Q .non (upd M a (.lst (xs ++ ys)))
  | .insert, .ref a, [.int i, y], M, Q => ∃ xs, M a = some (.lst xs) ∧ xs.length < sizeLine ∧ (0 ≤ i ∧ i < 2 ^ 63) ∧ Q .non (upd M a (.lst (xs.take i.toNat ++ [y] ++ xs.drop i.toNat)))
  | .split, .str a, [.str b], M, Q => (b.length == 0) = false ∧ a.length + 2 ≤ sizeLine ∧ ∀ p, M p = none → Q (.ref p) (upd M p (.lst ((Txt.split a b).map D.str)))
  | .join, .str a, [.ref b], M, Q => ∃ ys : List Str, M b = some (.lst (ys.map D.str)) ∧ (ys.map (·.length)).sum + ys.length * a.length ≤ 16777216 ∧ Q (.str (Txt.join a ys)) M
  | .join, .str a, [.tup xs], M, Q => ∃ ys : List Str, xs = ys.map D.str ∧ (ys.map (·.length)).sum + ys.length * a.length ≤ 16777216 ∧ Q (.str (Txt.join a ys)) M
  | _, _, _, _, _ => False

inductive Tg where | nm (i : Nat) | tp (is : List Nat) | np (i : Nat) (is : List Nat)
def setAll : Env → List Nat → List D → Env
  | env, i :: is, d :: ds => setAll (env.set i (.val d)) is ds
  | env, _, _ => env
def wTg : Tg → D → Env → (Env → Prop) → Prop
  | .nm i, d, env, Q => Q (env.set i (.val d))
  | .tp is, .tup xs, env, Q => xs.length = is.length ∧ Q (setAll env is xs)
  | .np i is, .tup [d, .tup xs], env, Q => xs.length = is.length ∧ Q (setAll (env.set i (.val d)) is xs)
  | _, _, _, _ => False
def Tg.slots : Tg → List Nat
  | .nm i => [i]
  | .tp is => is
  | .np i is => i :: is
def wipeE (env : Env) : List Nat → Env
  | [] => env
  | v :: vs => (wipeE env vs).set v .no

/-! ### the language -/
mutual
inductive IE where
  | var (i : Nat)
  | cst (d : D)
  | glb (x : String) (d : D)
  | bin (o : BOp) (a b : IE)
  | neg (a : IE)
  | cmp (o : COp) (a b : IE)
  | chn (o o' : COp) (a b c : IE)
  | and (a b : IE)
  | or (a b : IE)
  | not (a : IE)
  | ifx (c : IT) (a b : IE)
  | tup (es : IEs)
  | idx (a i : IE)
  | slc (a : IE) (lo hi : IO)
  | rev (a : IE)
  | revL (a : IE)
  | rev0 (a : IE)
  | tupRev (l : IL)
  | sorted (l : IL)
  | sortK (d : IE)
  | cat (a b : IE)
  | repL (a b : IE)
  | meth (m : Mth) (o : IE) (es : IEs)
  | dead
  | blt (b : Blt) (es : IEs)
  | lk (k : LK) (l : IL)
  | lidx (l : IL) (i : IE)
  | linn (neg : Bool) (x : IE) (l : IL)
  | mk (n : IN)
  | maxd (mn : Bool) (l : IL) (i : Int)
  | dnew
  | dget (d k : IE)
  | din (neg : Bool) (k d : IE)
  | dgetd (d k x : IE)
  | dget1 (d k : IE)
  | call (f : Nat) (as : IAs)
inductive IEs where
  | nil
  | cons (e : IE) (es : IEs)
/-- a test -/
inductive IT where
  | v (e : IE)
  | not (a : IT)
  | and (a b : IT)
  | or (a b : IT)
inductive IO where
  | no
  | at (e : IE)
inductive IAs where
  | nil
  | cons (e : IE) (as : IAs)
  | tmp (n : IN) (as : IAs)
  | lend (i : Nat) (as : IAs)
/-- a list that may be read -/
inductive IL where
  | new (n : IN)
  | own (i : Nat)
  | ref (e : IE)
/-- a new list -/
inductive IN where
  | disp (es : IEs)
  | comp (elt : IE) (tg : Tg) (it : II) (ifs : Option IT)
  | comp2 (elt : IE) (tg : Tg) (it : II) (tg1 : Tg) (it1 : II) (ifs1 : Option IT)
  | copy (l : IL)
  | copyT (e : IE)
  | slc (l : IL) (lo hi : IO)
/-- what is walked -/
inductive II where
  | dyn (e : IE)
  | new (n : IN)
  | own (i : Nat)
  | range (e : IE)
  | range2 (a b : IE)
  | zip (a b : IE)
  | enum (e : IE)
  | rev (e : IE)
  | revR (a b : IE)
end

inductive IS where
  | pass | brk | cnt
  | ret (e : IE)
  | retN
  | retO (i : Nat)
  | exp (e : IE)
  | asg (t : Tg) (e : IE)
  | asgN (i : Nat) (n : IN)
  | asgM (i : Nat) (n : IN)
  | par (i j : Nat) (a b : IE)
  | aug (i : Nat) (o : BOp) (e : IE)
  | app (i : Nat) (e : IE)
  | set (i : Nat) (k e : IE)
  | pop (i j : Nat)
  | mapp (l e : IE)
  | mset (l k e : IE)
  | maug (l k : IE) (o : BOp) (e : IE)
  | dset (d k e : IE)
  | ite (c : IT) (t e : List IS)
  | whl (c : IT) (b : List IS)
  | for_ (t : Tg) (it : II) (b : List IS)
  | dead

/-! ### loops -/
/-- a comprehension's turns: el gives the item, or nothing -/
def wCmpr (ok : Mem → Prop) (el : D → Mem → (Option D → Mem → Prop) → Prop) : List D → Mem → QL → Prop
  | [], M, Q => ok M ∧ Q [] M
  | x :: xs, M, Q => ok M ∧ el x M fun r M' => match r with
    | some y => wCmpr ok el xs M' fun ys M'' => Q (y :: ys) M''
    | none => wCmpr ok el xs M' Q

/-- the turns of a comprehension's first clause: el gives the items of a turn; n: the items so far -/
def wCmp2 (ok : Mem → Prop) (el : Nat → D → Mem → (List D → Mem → Prop) → Prop) : Nat → List D → Mem → QL → Prop
  | _, [], M, Q => ok M ∧ Q [] M
  | n, x :: xs, M, Q => ok M ∧ el n x M fun ys M' => wCmp2 ok el (n + ys.length) xs M' fun zs M'' => Q (ys ++ zs) M''

structure Kt where
  nx : Env → Mem → Prop
  rt : QE
  bk : Env → Mem → Prop
  ct : Env → Mem → Prop
  xc : Xn → Env → Mem → Prop

def wFor (ok : Env → Mem → Prop) (bd : D → Env → Mem → Kt → Prop) : List D → Env → Mem → Kt → Prop
  | [], env, M, K => ok env M ∧ K.nx env M
  | x :: xs, env, M, K => ok env M ∧ bd x env M { K with nx := fun e m => wFor ok bd xs e m K, ct := fun e m => wFor ok bd xs e m K, bk := K.nx }

def wWhl (c : Env → Mem → (Bool → Mem → Prop) → (Xn → Env → Mem → Prop) → Prop) (bd : Env → Mem → Kt → Prop) (env : Env) (M : Mem) (K : Kt) : Prop :=
  ∃ W : Nat → Env → Mem → Prop, (∃ m, W m env M) ∧ ∀ m env M, W m env M → c env M (fun b M1 => if b = true then
    bd env M1 { K with nx := fun e' M' => ∃ m', m' < m ∧ W m' e' M', ct := fun e' M' => ∃ m', m' < m ∧ W m' e' M', bk := K.nx } else K.nx env M1) K.xc

def drps (M : Mem) : List (Nat × Option MO) → Mem
  | [] => M
  | (p, _) :: r => drp (drps M r) p
def backs (M : Mem) : List (Nat × Option MO) → Prop
  | [] => True
  | (p, some o) :: r => drps M r p = some o ∧ backs M r
  | (_, none) :: r => backs M r

abbrev X0 : QX := fun _ _ => False

/-- the items of what is walked, and what has to stay so -/
def wIt : D → Mem → (List D → (Env → Mem → Prop) → Prop) → Prop
  | .tup xs, _, Q => Q xs fun _ _ => True
  | .rl xs, _, Q => Q xs fun _ _ => True
  | .str z, _, Q => Q (z.cps.toList.map fun c => .str ⟨#[c]⟩) fun _ _ => True
  | .ref a, M, Q => ∃ xs, M a = some (.lst xs) ∧ Q xs fun _ M' => M' a = some (.lst xs)
  | _, _, _ => False
def wZip : D → D → Mem → (List D → (Env → Mem → Prop) → Prop) → Prop
  | .tup xs, .tup ys, _, Q => Q (List.zipWith (fun u v => .tup [u, v]) xs ys) fun _ _ => True
  | .ref a, .ref b, M, Q => ∃ xs ys, M a = some (.lst xs) ∧ M b = some (.lst ys) ∧ Q (List.zipWith (fun u v => .tup [u, v]) xs ys) fun _ M' => M' a = some (.lst xs) ∧ M' b = some (.lst ys)
  | _, _, _, _ => False
def wEnum : D → Mem → (List D → (Env → Mem → Prop) → Prop) → Prop
  | .tup xs, _, Q => Q (xs.mapIdx fun i x => .tup [.int i, x]) fun _ _ => True
  | .ref a, M, Q => ∃ xs, M a = some (.lst xs) ∧ Q (xs.mapIdx fun i x => .tup [.int i, x]) fun _ M' => M' a = some (.lst xs)
  | _, _, _ => False
def wRevIt : D → Mem → (List D → (Env → Mem → Prop) → Prop) → Prop
  | .tup xs, _, Q => Q xs.reverse fun _ _ => True
  | .ref a, M, Q => ∃ xs, M a = some (.lst xs) ∧ Q xs.reverse fun _ M' => M' a = some (.lst xs)
  | _, _, _ => False
theorem wRevIt_mono {d : D} {M : Mem} {Q Q' : List D → (Env → Mem → Prop) → Prop} (h : ∀ a b, Q a b → Q' a b) (w : wRevIt d M Q) : wRevIt d M Q' := by
  cases d <;> simp only [wRevIt] at w ⊢ <;> first | exact h _ _ w | (obtain ⟨xs, e, q⟩ := w; exact ⟨xs, e, h _ _ q⟩)
theorem wMth_mono {m : Mth} {x : D} {ds : List D} {M : Mem} {Q Q' : QE} (h : ∀ a b, Q a b → Q' a b) (w : wMth m x ds M Q) : wMth m x ds M Q' := by
  unfold wMth at w ⊢
  split at w
  · obtain ⟨xs, h1, h2, q⟩ := w; exact ⟨xs, h1, h2, h _ _ q⟩
  · obtain ⟨xs, y, h1, h2, q⟩ := w; exact ⟨xs, y, h1, h2, h _ _ q⟩
  · obtain ⟨xs, k, y, h1, h2, h3, h4, q⟩ := w; exact ⟨xs, k, y, h1, h2, h3, h4, h _ _ q⟩
  · obtain ⟨xs, h1, q⟩ := w; exact ⟨xs, h1, h _ _ q⟩
  · obtain ⟨xs, ys, h1, h2, h3, q⟩ := w; exact ⟨xs, ys, h1, h2, h3, h _ _ q⟩
  · obtain ⟨xs, h1, h2, h3, q⟩ := w; exact ⟨xs, h1, h2, h3, h _ _ q⟩
  · obtain ⟨h1, h2, q⟩ := w; exact ⟨h1, h2, fun p hp => h _ _ (q p hp)⟩
  · obtain ⟨ys, h1, h2, q⟩ := w; exact ⟨ys, h1, h2, h _ _ q⟩
  · obtain ⟨ys, h1, h2, q⟩ := w; exact ⟨ys, h1, h2, h _ _ q⟩
  · exact w.elim
theorem wIt_mono {d : D} {M : Mem} {Q Q' : List D → (Env → Mem → Prop) → Prop} (h : ∀ a b, Q a b → Q' a b) (w : wIt d M Q) : wIt d M Q' := by
  cases d <;> simp only [wIt] at w ⊢ <;> first | exact h _ _ w | (obtain ⟨xs, e, q⟩ := w; exact ⟨xs, e, h _ _ q⟩)
theorem wZip_mono {d e : D} {M : Mem} {Q Q' : List D → (Env → Mem → Prop) → Prop} (h : ∀ a b, Q a b → Q' a b) (w : wZip d e M Q) : wZip d e M Q' := by
  cases d <;> cases e <;> simp only [wZip] at w ⊢ <;> first | exact h _ _ w | (obtain ⟨xs, ys, e, e2, q⟩ := w; exact ⟨xs, ys, e, e2, h _ _ q⟩)
theorem wEnum_mono {d : D} {M : Mem} {Q Q' : List D → (Env → Mem → Prop) → Prop} (h : ∀ a b, Q a b → Q' a b) (w : wEnum d M Q) : wEnum d M Q' := by
  cases d <;> simp only [wEnum] at w ⊢ <;> first | exact h _ _ w | (obtain ⟨xs, e, q⟩ := w; exact ⟨xs, e, h _ _ q⟩)
/-! ### weakest preconditions -/
section
variable (F : FS)
mutual
def wE : IE → Env → Mem → QE → QX → Prop
  | .var i, env, M, Q, _ => ∃ d, env[i]? = some (.val d) ∧ Q d M
  | .cst d, _, M, Q, _ => Q d M
  | .glb _ d, _, M, Q, _ => Q d M
  | .bin o a b, env, M, Q, E => wE a env M (fun x M1 => wE b env M1 (fun y M2 => wBin o x y fun z => Q z M2) E) E
  | .cat a b, env, M, Q, E => wE a env M (fun x M1 => wE b env M1 (fun y M2 => ∃ p q xs ys, x = .ref p ∧ y = .ref q ∧ M2 p = some (.lst xs) ∧ M2 q = some (.lst ys) ∧ xs.length + ys.length ≤ sizeLine ∧ ∀ r, M2 r = none → Q (.ref r) (upd M2 r (.lst (xs ++ ys)))) E) E
  | .repL a b, env, M, Q, E => wE a env M (fun x M1 => wE b env M1 (fun y M2 => ∃ p xs, ∃ k : Int, x = .ref p ∧ y = .int k ∧ M2 p = some (.lst xs) ∧ (-(2 ^ 63) ≤ k ∧ k < 2 ^ 63) ∧ xs.length * k.toNat ≤ sizeLine ∧ ∀ r, M2 r = none → Q (.ref r) (upd M2 r (.lst (List.replicate k.toNat xs).flatten))) E) E
  | .neg a, env, M, Q, E => wE a env M (fun x M1 => ∃ i, x = .int i ∧ Q (.int (-i)) M1) E
  | .cmp o a b, env, M, Q, E => wE a env M (fun x M1 => wE b env M1 (fun y M2 => wCmp o x y M2 fun z => Q (.bl z) M2) E) E
  | .chn o o' a b c, env, M, Q, E => wE a env M (fun x M1 => wE b env M1 (fun y M2 => wCmp o x y M2 fun k =>
      if k = true then wE c env M2 (fun z M3 => wCmp o' y z M3 fun k' => Q (.bl k') M3) E else Q (.bl false) M2) E) E
  | .and a b, env, M, Q, E => wE a env M (fun x M1 => ∃ k, x = .bl k ∧ if k = true then wE b env M1 Q E else Q (.bl false) M1) E
  | .or a b, env, M, Q, E => wE a env M (fun x M1 => ∃ k, x = .bl k ∧ if k = true then Q (.bl true) M1 else wE b env M1 Q E) E
  | .not a, env, M, Q, E => wE a env M (fun x M1 => ∃ k, x = .bl k ∧ Q (.bl (!k)) M1) E
  | .ifx c a b, env, M, Q, E => wT c env M (fun k M1 => if k = true then wE a env M1 Q E else wE b env M1 Q E) E
  | .tup es, env, M, Q, E => wEs es env M (fun ds M1 => ds.length ≤ sizeLine ∧ Q (.tup ds) M1) E
  | .idx a i, env, M, Q, E => wE a env M (fun x M1 => wE i env M1 (fun y M2 => wIdx x y M2 fun z => Q z M2) E) E
  | .slc a lo hi, env, M, Q, E => wE a env M (fun x M1 => wO lo env M1 (fun l M2 => wO hi env M2 (fun h M3 => wSlc x l h M3 Q) E) E) E
  | .rev a, env, M, Q, E => wE a env M (fun x M1 => ∃ xs, x = .tup xs ∧ Q (.tup xs.reverse) M1) E
  | .revL a, env, M, Q, E => wE a env M (fun x M1 => ∃ a xs, x = .ref a ∧ M1 a = some (.lst xs) ∧ ∀ p, M1 p = none → Q (.ref p) (upd M1 p (.lst xs.reverse))) E
  | .rev0 a, env, M, Q, E => wE a env M (fun x M1 => ∃ xs, x = .tup xs ∧ Q (.tup (xs.drop 1).reverse) M1) E
  | .tupRev l, env, M, Q, E => wL l env M (fun xs M1 => Q (.tup xs.reverse) M1) E
  | .sorted l, env, M, Q, E => wL l env M (fun xs M1 => wSorted xs fun ys => ∀ p, M1 p = none → Q (.ref p) (upd M1 p (.lst ys))) E
  | .sortK d, env, M, Q, E => wE d env M (fun x M1 => ∃ a es, ∃ ns : List Int, x = .ref a ∧ M1 a = some (.dct es) ∧ es.map (·.1) = ns.map D.int ∧ ns.length < 64 ∧ ∀ ns' : List Int, ns'.Perm ns → ns'.Pairwise (· ≤ ·) → ∀ p, M1 p = none → Q (.ref p) (upd M1 p (.lst (ns'.map D.int)))) E
  | .meth m o es, env, M, Q, E => wE o env M (fun x M1 => wTy m x M1 ∧ wEs es env M1 (fun ds M2 => wMth m x ds M2 Q) E) E
  | .dead, _, _, _, _ => False
  | .blt b es, env, M, Q, E => wEs es env M (fun ds M1 => wBlt b ds M1 fun z => Q z M1) E
  | .lk k l, env, M, Q, E => wL l env M (fun xs M1 => wLK k xs fun z => Q z M1) E
  | .lidx l i, env, M, Q, E => wL l env M (fun xs M1 => wE i env M1 (fun y M2 => ∃ j v, y = .int j ∧ L2.atI xs j = some v ∧ Q v M2) E) E
  | .linn n x l, env, M, Q, E => wE x env M (fun d M1 => wL l env M1 (fun xs M2 => D.flat 60 d = true ∧ D.flats 60 xs = true ∧ Q (.bl (n != xs.any fun y => D.eqv y d)) M2) E) E
  | .mk n, env, M, Q, E => wN n env M (fun xs M1 => ∀ p, M1 p = none → Q (.ref p) (upd M1 p (.lst xs))) E
  | .maxd mn l i, env, M, Q, E => wL l env M (fun xs M1 => ∃ ns : List Int, xs = ns.map D.int ∧ (ns = [] → Q (.int i) M1) ∧ ∀ m, m ∈ ns → (∀ y, y ∈ ns → if mn = true then m ≤ y else y ≤ m) → Q (.int m) M1) E
  | .dnew, _, M, Q, _ => ∀ p, M p = none → Q (.ref p) (upd M p (.dct []))
  | .dget d k, env, M, Q, E => wE d env M (fun x M1 => wE k env M1 (fun y M2 => ∃ a es v, x = .ref a ∧ M2 a = some (.dct es) ∧ DkOk es y ∧ dget es y = some v ∧ Q v M2) E) E
  | .din n k d, env, M, Q, E => wE k env M (fun y M1 => wE d env M1 (fun x M2 => ∃ a es, x = .ref a ∧ M2 a = some (.dct es) ∧ DkOk es y ∧ Q (.bl (n != (dget es y).isSome)) M2) E) E
  | .dgetd d k x, env, M, Q, E => wE d env M (fun o M1 => ∃ a es0, o = .ref a ∧ M1 a = some (.dct es0) ∧ wE k env M1 (fun y M2 => wE x env M2 (fun z M3 => ∃ es, M3 a = some (.dct es) ∧ DkOk es y ∧ Q ((dget es y).getD z) M3) E) E) E
  | .dget1 d k, env, M, Q, E => wE d env M (fun o M1 => ∃ a es0, o = .ref a ∧ M1 a = some (.dct es0) ∧ wE k env M1 (fun y M2 => ∃ es, M2 a = some (.dct es) ∧ DkOk es y ∧ Q ((dget es y).getD .non) M2) E) E
  | .call f as, env, M, Q, E => wAs as env M (fun ds ls M1 => F f ds M1 (fun d M2 => backs M2 ls ∧ Q d (drps M2 ls)) (fun x M2 => backs M2 ls ∧ E x (drps M2 ls))) E
def wEs : IEs → Env → Mem → QL → QX → Prop
  | .nil, _, M, Q, _ => Q [] M
  | .cons e es, env, M, Q, E => wE e env M (fun d M1 => wEs es env M1 (fun ds M2 => Q (d :: ds) M2) E) E
def wO : IO → Env → Mem → (Option Int → Mem → Prop) → QX → Prop
  | .no, _, M, Q, _ => Q none M
  | .at e, env, M, Q, E => wE e env M (fun d M1 => ∃ i, d = .int i ∧ Q (some i) M1) E
def wAs : IAs → Env → Mem → (List D → List (Nat × Option MO) → Mem → Prop) → QX → Prop
  | .nil, _, M, Q, _ => Q [] [] M
  | .cons e as, env, M, Q, E => wE e env M (fun d M1 => wAs as env M1 (fun ds ls M2 => Q (d :: ds) ls M2) E) E
  | .tmp n as, env, M, Q, E => wN n env M (fun xs M1 => ∀ p, M1 p = none → wAs as env (upd M1 p (.lst xs)) (fun ds ls M2 => Q (.ref p :: ds) ((p, none) :: ls) M2) X0) E
  | .lend i as, env, M, Q, E => ∃ p o, env[i]? = some (.own p o) ∧ wAs as (env.set i .no) (upd M p o) (fun ds ls M2 => Q (.ref p :: ds) ((p, some o) :: ls) M2) X0
def wL : IL → Env → Mem → QL → QX → Prop
  | .new n, env, M, Q, E => wN n env M Q E
  | .own i, env, M, Q, _ => ∃ p xs, env[i]? = some (.own p (.lst xs)) ∧ Q xs M
  | .ref e, env, M, Q, E => wE e env M (fun d M1 => ∃ a xs, d = .ref a ∧ M1 a = some (.lst xs) ∧ Q xs M1) E
def wN : IN → Env → Mem → QL → QX → Prop
  | .disp es, env, M, Q, E => wEs es env M (fun ds M1 => ds.length ≤ sizeLine ∧ Q ds M1) E
  | .comp elt tg it ifs, env, M, Q, E => wI it env M (fun xs ok M1 => xs.length ≤ sizeLine ∧
      wCmpr (ok env) (fun x M2 R => wTg tg x (wipeE env tg.slots) fun env' => wTs ifs env' M2 (fun b M3 => if b = true then wE elt env' M3 (fun y M4 => R (some y) M4) X0 else R none M3) X0) xs M1 Q) E
  | .comp2 elt tg it tg1 it1 ifs, env, M, Q, E => wI it env M (fun xs ok M1 =>
      wCmp2 (ok env) (fun n x M2 R => wTg tg x (wipeE env (tg.slots ++ tg1.slots)) fun env1 => wI it1 env1 M2 (fun ys ok1 M3 => n + ys.length ≤ sizeLine ∧
        wCmpr (ok1 env1) (fun y M4 R' => wTg tg1 y (wipeE env1 tg1.slots) fun env2 => wTs ifs env2 M4 (fun b M5 => if b = true then wE elt env2 M5 (fun z M6 => R' (some z) M6) X0 else R' none M5) X0) ys M3 R) X0) 0 xs M1 Q) E
  | .copy l, env, M, Q, E => wL l env M Q E
  | .copyT e, env, M, Q, E => wE e env M (fun d M1 => ∃ xs, d = .tup xs ∧ Q xs M1) E
  | .slc l lo hi, env, M, Q, E => wL l env M (fun xs M1 => wO lo env M1 (fun a M2 => wO hi env M2 (fun b M3 => Q (cutD xs a b) M3) X0) X0) E
def wI : II → Env → Mem → (List D → (Env → Mem → Prop) → Mem → Prop) → QX → Prop
  | .dyn e, env, M, Q, E => wE e env M (fun d M1 => wIt d M1 fun xs ok => Q xs ok M1) E
  | .new n, env, M, Q, E => wN n env M (fun xs M1 => Q xs (fun _ _ => True) M1) E
  | .own i, env, M, Q, _ => ∃ p xs, env[i]? = some (.own p (.lst xs)) ∧ Q xs (fun env' _ => env'[i]? = some (.own p (.lst xs))) M
  | .range e, env, M, Q, E => wE e env M (fun d M1 => ∃ n : Int, d = .int n ∧ (-(2 ^ 62) ≤ n ∧ n < 2 ^ 62) ∧ Q ((List.range n.toNat).map fun (i : Nat) => .int (i : Int)) (fun _ _ => True) M1) E
  | .range2 a b, env, M, Q, E => wE a env M (fun x M1 => wE b env M1 (fun y M2 => ∃ i j : Int, x = .int i ∧ y = .int j ∧ (-(2 ^ 62) ≤ i ∧ i < 2 ^ 62 ∧ -(2 ^ 62) ≤ j ∧ j < 2 ^ 62) ∧
      Q ((List.range (j - i).toNat).map fun (k : Nat) => .int (i + (k : Int))) (fun _ _ => True) M2) E) E
  | .zip a b, env, M, Q, E => wE a env M (fun x M1 => wE b env M1 (fun y M2 => wZip x y M2 fun zs ok => Q zs ok M2) E) E
  | .enum e, env, M, Q, E => wE e env M (fun d M1 => wEnum d M1 fun xs ok => Q xs ok M1) E
  | .rev e, env, M, Q, E => wE e env M (fun d M1 => wRevIt d M1 fun xs ok => Q xs ok M1) E
  | .revR a b, env, M, Q, E => wE a env M (fun x M1 => wE b env M1 (fun y M2 => ∃ i j : Int, x = .int i ∧ y = .int j ∧ (-(2 ^ 62) ≤ i ∧ i < 2 ^ 62 ∧ -(2 ^ 62) ≤ j ∧ j < 2 ^ 62) ∧
      Q ((List.range (j - i).toNat).map fun (k : Nat) => .int (i + (((j - i).toNat : Nat) : Int) - 1 - (k : Int))) (fun _ _ => True) M2) E) E
/-- as a test -/
def wT : IT → Env → Mem → (Bool → Mem → Prop) → QX → Prop
  | .not a, env, M, Q, E => wT a env M (fun k M1 => Q (!k) M1) E
  | .and a b, env, M, Q, E => wT a env M (fun k M1 => if k = true then wT b env M1 Q E else Q false M1) E
  | .or a b, env, M, Q, E => wT a env M (fun k M1 => if k = true then Q true M1 else wT b env M1 Q E) E
  | .v e, env, M, Q, E => wE e env M (fun d M1 => wTru d M1 fun k => Q k M1) E
def wTs : Option IT → Env → Mem → (Bool → Mem → Prop) → QX → Prop
  | none, _, M, Q, _ => Q true M
  | some e, env, M, Q, E => wT e env M Q E
end

mutual
def wS : IS → Env → Mem → Kt → Prop
  | .pass, env, M, K => K.nx env M
  | .brk, env, M, K => K.bk env M
  | .cnt, env, M, K => K.ct env M
  | .ret e, env, M, K => wE F e env M K.rt fun x m => K.xc x env m
  | .retN, _, M, K => K.rt .non M
  | .retO i, env, M, K => ∃ p o, env[i]? = some (.own p o) ∧ (M p = none → K.rt (.ref p) (upd M p o))
  | .exp e, env, M, K => wE F e env M (fun _ M1 => K.nx env M1) fun x m => K.xc x env m
  | .asg t e, env, M, K => wE F e env M (fun d M1 => wTg t d env fun env' => K.nx env' M1) fun x m => K.xc x env m
  | .asgN i n, env, M, K => wN F n env M (fun xs M1 => ∀ p, M1 p = none → K.nx (env.set i (.own p (.lst xs))) M1) fun x m => K.xc x env m
  | .asgM i n, env, M, K => wN F n env M (fun xs M1 => ∀ p, M1 p = none → K.nx (env.set i (.val (.ref p))) (upd M1 p (.lst xs))) fun x m => K.xc x env m
  | .par i j a b, env, M, K => wE F a env M (fun x M1 => wE F b env M1 (fun y M2 => K.nx ((env.set i (.val x)).set j (.val y)) M2) fun x m => K.xc x env m) fun x m => K.xc x env m
  | .aug i o e, env, M, K => ∃ x, env[i]? = some (.val x) ∧ wE F e env M (fun y M1 => wAug o x y fun z => K.nx (env.set i (.val z)) M1) fun x m => K.xc x env m
  | .app i e, env, M, K => ∃ p xs, env[i]? = some (.own p (.lst xs)) ∧ wE F e env M (fun d M1 => xs.length < sizeLine ∧ K.nx (env.set i (.own p (.lst (xs ++ [d])))) M1) fun x m => K.xc x env m
  | .set i k e, env, M, K => ∃ p xs, env[i]? = some (.own p (.lst xs)) ∧ wE F e env M (fun d M1 => wE F k env M1 (fun y M2 => ∃ j m, y = .int j ∧ L2.ixN xs.length j = some m ∧
      K.nx (env.set i (.own p (.lst (xs.set m d)))) M2) fun x m => K.xc x env m) fun x m => K.xc x env m
  | .pop i j, env, M, K => ∃ p xs y, env[j]? = some (.own p (.lst xs)) ∧ xs.getLast? = some y ∧ i ≠ j ∧ K.nx ((env.set j (.own p (.lst xs.dropLast))).set i (.val y)) M
  | .mapp l e, env, M, K => wE F l env M (fun x M1 => ∃ a ys, x = .ref a ∧ M1 a = some (.lst ys) ∧ wE F e env M1 (fun d M2 => ∃ xs, M2 a = some (.lst xs) ∧ xs.length < sizeLine ∧
      K.nx env (upd M2 a (.lst (xs ++ [d])))) fun x m => K.xc x env m) fun x m => K.xc x env m
  | .mset l k e, env, M, K => wE F e env M (fun d M1 => wE F l env M1 (fun x M2 => wE F k env M2 (fun y M3 => ∃ a xs j m, x = .ref a ∧ M3 a = some (.lst xs) ∧ y = .int j ∧ L2.ixN xs.length j = some m ∧
      K.nx env (upd M3 a (.lst (xs.set m d)))) fun x m => K.xc x env m) fun x m => K.xc x env m) fun x m => K.xc x env m
  | .maug l k o e, env, M, K => wE F l env M (fun x M1 => wE F k env M1 (fun y M2 => ∃ a xs j m v, x = .ref a ∧ M2 a = some (.lst xs) ∧ y = .int j ∧ L2.ixN xs.length j = some m ∧ xs[m]? = some v ∧
      wE F e env M2 (fun u M3 => wAug o v u fun z => ∃ xs', M3 a = some (.lst xs') ∧ xs'.length = xs.length ∧ K.nx env (upd M3 a (.lst (xs'.set m z)))) fun x m => K.xc x env m) fun x m => K.xc x env m) fun x m => K.xc x env m
  | .dset d k e, env, M, K => wE F e env M (fun v M1 => wE F d env M1 (fun x M2 => wE F k env M2 (fun y M3 => ∃ a es, x = .ref a ∧ M3 a = some (.dct es) ∧ DkOk es y ∧ es.length < sizeLine ∧
      K.nx env (upd M3 a (.dct (dput es y v)))) fun x m => K.xc x env m) fun x m => K.xc x env m) fun x m => K.xc x env m
  | .ite c t e, env, M, K => wT F c env M (fun b M1 => if b = true then wSs t env M1 K else wSs e env M1 K) fun x m => K.xc x env m
  | .whl c b, env, M, K => wWhl (fun e m Q E => wT F c e m Q fun x m' => E x e m') (wSs b) env M K
  | .for_ t it b, env, M, K => wI F it env M (fun xs ok M1 => wFor ok (fun x e m K' => wTg t x e fun e' => wSs b e' m K') xs env M1 K) fun x m => K.xc x env m
  | .dead, _, _, _ => False
def wSs : List IS → Env → Mem → Kt → Prop
  | [], env, M, K => K.nx env M
  | s :: ss, env, M, K => wS s env M { K with nx := fun e m => wSs ss e m K }
end
end

structure Fn where
  name : String
  arity : Nat
  slots : List String
  body : List IS

def wBody (F : FS) (fn : Fn) : List D → Mem → QE → QX → Prop := fun ds M Q E => ds.length = fn.arity ∧
  wSs F fn.body (ds.map Slot.val ++ List.replicate (fn.slots.length - ds.length) .no) M
    { nx := fun _ M' => ∃ M'', Sub M'' M' ∧ Q .non M'', rt := fun d M' => ∃ M'', Sub M'' M' ∧ Q d M'', bk := fun _ _ => False, ct := fun _ _ => False, xc := fun x _ M' => ∃ M'', Sub M'' M' ∧ E x M'' }

/-- the defs of a text, calls at most n deep -/
def wFn (P : List Fn) : Nat → FS
  | 0 => fun _ _ _ _ _ => False
  | n + 1 => fun f ds M Q E => ∃ fn, P[f]? = some fn ∧ wBody (wFn P n) fn ds M Q E

/-! ### more is wanted -/
structure FMono (F : FS) : Prop where
  mono : ∀ {f ds M} {Q Q' : QE} {E E' : QX}, (∀ d M, Q d M → Q' d M) → (∀ x M, E x M → E' x M) → F f ds M Q E → F f ds M Q' E'
theorem wBin_mono {o : BOp} {x y : D} {Q Q' : D → Prop} (h : ∀ d, Q d → Q' d) (w : wBin o x y Q) : wBin o x y Q' := by
  cases o <;> cases x <;> cases y <;> simp only [wBin] at w ⊢ <;> first | exact h _ w | exact ⟨w.1, h _ w.2⟩ | exact w
theorem wAug_mono {o : BOp} {x y : D} {Q Q' : D → Prop} (h : ∀ d, Q d → Q' d) (w : wAug o x y Q) : wAug o x y Q' := by
  unfold wAug at w ⊢
  split at w <;> first | exact wBin_mono h w | exact ⟨w.1, wBin_mono h w.2⟩ | exact w.elim
theorem wCmp_mono {o : COp} {x y : D} {M : Mem} {Q Q' : Bool → Prop} (h : ∀ d, Q d → Q' d) (w : wCmp o x y M Q) : wCmp o x y M Q' := by
  unfold wCmp at w ⊢
  split at w <;> first | exact h _ w | exact ⟨w.1, h _ w.2⟩ | (obtain ⟨ys, zs, e, e2, f, q⟩ := w; exact ⟨ys, zs, e, e2, f, h _ q⟩) | (obtain ⟨ys, e, f, q⟩ := w; exact ⟨ys, e, f, h _ q⟩) | exact w.elim | (rename_i hne; cases x <;> first | exact h _ w | exact absurd rfl hne | exact (hne rfl).elim) | skip
theorem wTru_mono {x : D} {M : Mem} {Q Q' : Bool → Prop} (h : ∀ d, Q d → Q' d) (w : wTru x M Q) : wTru x M Q' := by
  cases x <;> simp only [wTru] at w ⊢ <;> first | exact h _ w | exact ⟨w.1, h _ w.2⟩ | (obtain ⟨xs, e, q⟩ := w; exact ⟨xs, e, h _ q⟩)
theorem wIdx_mono {x y : D} {M : Mem} {Q Q' : D → Prop} (h : ∀ d, Q d → Q' d) (w : wIdx x y M Q) : wIdx x y M Q' := by
  unfold wIdx at w ⊢
  split at w
  · obtain ⟨v, e, q⟩ := w; exact ⟨v, e, h _ q⟩
  · obtain ⟨l, v, e, q⟩ := w; exact ⟨l, v, e, h _ q⟩
  · obtain ⟨xs, v, e, e2, q⟩ := w; exact ⟨xs, v, e, e2, h _ q⟩
  · exact w.elim
theorem wBlt_mono {b : Blt} {ds : List D} {M : Mem} {Q Q' : D → Prop} (h : ∀ d, Q d → Q' d) (w : wBlt b ds M Q) : wBlt b ds M Q' := by
  unfold wBlt at w ⊢
  split at w <;> first | exact h _ w | exact ⟨w.1, h _ w.2⟩ | (obtain ⟨ns, e, e2, q⟩ := w; exact ⟨ns, e, e2, fun m h1 h2 => h _ (q m h1 h2)⟩) | (obtain ⟨xs, e, q⟩ := w; exact ⟨xs, e, h _ q⟩) | exact w.elim | skip
theorem wLK_mono {k : LK} {xs : List D} {Q Q' : D → Prop} (h : ∀ d, Q d → Q' d) (w : wLK k xs Q) : wLK k xs Q' := by
  cases k <;> simp only [wLK] at w ⊢ <;> first | exact h _ w | (obtain ⟨b, e, q⟩ := w; exact ⟨b, e, h _ q⟩) | (obtain ⟨ns, e, e2, q⟩ := w; exact ⟨ns, e, e2, fun m h1 h2 => h _ (q m h1 h2)⟩)
theorem wSorted_mono {xs : List D} {Q Q' : List D → Prop} (h : ∀ d, Q d → Q' d) (w : wSorted xs Q) : wSorted xs Q' := by
  rcases w with ⟨ns, e, e2, q⟩ | ⟨ns, e, e2, q⟩
  · exact .inl ⟨ns, e, e2, fun a b c => h _ (q a b c)⟩
  · exact .inr ⟨ns, e, e2, fun a b c => h _ (q a b c)⟩
theorem wSlc_mono {x : D} {l u : Option Int} {M : Mem} {Q Q' : QE} (h : ∀ d M, Q d M → Q' d M) (w : wSlc x l u M Q) : wSlc x l u M Q' := by
  cases x <;> simp only [wSlc] at w ⊢ <;> first | exact h _ _ w | exact ⟨w.1, h _ _ w.2⟩ | (obtain ⟨xs, e, q⟩ := w; exact ⟨xs, e, fun p hp => h _ _ (q p hp)⟩)
theorem wTg_mono {t : Tg} {d : D} {env : Env} {Q Q' : Env → Prop} (h : ∀ e, Q e → Q' e) (w : wTg t d env Q) : wTg t d env Q' := by
  unfold wTg at w ⊢
  split at w <;> first | exact h _ w | exact ⟨w.1, h _ w.2⟩ | exact w.elim
theorem wCmpr_mono {ok : Mem → Prop} {el el' : D → Mem → (Option D → Mem → Prop) → Prop} (hel : ∀ x M R R', (∀ r M, R r M → R' r M) → el x M R → el' x M R') :
    ∀ {xs : List D} {M : Mem} {Q Q' : QL}, (∀ ys M, Q ys M → Q' ys M) → wCmpr ok el xs M Q → wCmpr ok el' xs M Q'
  | [], _, _, _, h, w => ⟨w.1, h _ _ w.2⟩
  | x :: xs, M, Q, Q', h, w => by
    refine ⟨w.1, hel _ _ _ _ (fun r M' q => ?_) w.2⟩
    cases r with
    | none => exact wCmpr_mono hel h q
    | some y => exact wCmpr_mono hel (fun ys M'' q' => h _ _ q') q
theorem wCmp2_mono {ok : Mem → Prop} {el el' : Nat → D → Mem → (List D → Mem → Prop) → Prop} (hel : ∀ n x M R R', (∀ r M, R r M → R' r M) → el n x M R → el' n x M R') :
    ∀ {xs : List D} {n : Nat} {M : Mem} {Q Q' : QL}, (∀ ys M, Q ys M → Q' ys M) → wCmp2 ok el n xs M Q → wCmp2 ok el' n xs M Q'
  | [], _, _, _, _, h, w => ⟨w.1, h _ _ w.2⟩
  | x :: xs, n, M, Q, Q', h, w => ⟨w.1, hel _ _ _ _ _ (fun r M' q => wCmp2_mono hel (fun ys M'' q' => h _ _ q') q) w.2⟩
theorem Kt_eta (K : Kt) : K = { nx := K.nx, rt := K.rt, bk := K.bk, ct := K.ct, xc := K.xc } := rfl
structure Kt.Le (K K' : Kt) : Prop where
  nx : ∀ e M, K.nx e M → K'.nx e M
  rt : ∀ e M, K.rt e M → K'.rt e M
  bk : ∀ e M, K.bk e M → K'.bk e M
  ct : ∀ e M, K.ct e M → K'.ct e M
  xc : ∀ x e M, K.xc x e M → K'.xc x e M
theorem wFor_mono {ok : Env → Mem → Prop} {bd : D → Env → Mem → Kt → Prop} (hb : ∀ x e M K K', Kt.Le K K' → bd x e M K → bd x e M K') :
    ∀ {xs : List D} {env : Env} {M : Mem} {K K' : Kt}, Kt.Le K K' → wFor ok bd xs env M K → wFor ok bd xs env M K'
  | [], _, _, _, _, h, w => ⟨w.1, h.nx _ _ w.2⟩
  | x :: xs, env, M, K, K', h, w => by
    refine ⟨w.1, hb _ _ _ _ _ ?_ w.2⟩
    exact ⟨fun _ _ q => wFor_mono hb h q, h.rt, h.nx, fun _ _ q => wFor_mono hb h q, h.xc⟩
section
variable {F : FS} (hF : FMono F)
include hF
mutual
theorem wE_mono : ∀ (e : IE) {env : Env} {M : Mem} {Q Q' : QE} {E E' : QX}, (∀ d M, Q d M → Q' d M) → (∀ x M, E x M → E' x M) → wE F e env M Q E → wE F e env M Q' E'
  | .var i, _, _, _, _, _, _, h, _, w => by obtain ⟨d, e, q⟩ := w; exact ⟨d, e, h _ _ q⟩
  | .cst d, _, _, _, _, _, _, h, _, w => h _ _ w
  | .glb _ d, _, _, _, _, _, _, h, _, w => h _ _ w
  | .bin o a b, _, _, _, _, _, _, h, hE, w => wE_mono a (fun _ _ q => wE_mono b (fun _ _ q => wBin_mono (fun _ q => h _ _ q) q) hE q) hE w
  | .cat a b, _, _, _, _, _, _, h, hE, w => wE_mono a (fun _ _ q => wE_mono b (fun _ _ q => by obtain ⟨p, q', xs, ys, e1, e2, e3, e4, e5, q⟩ := q; exact ⟨p, q', xs, ys, e1, e2, e3, e4, e5, fun r hr => h _ _ (q r hr)⟩) hE q) hE w
  | .repL a b, _, _, _, _, _, _, h, hE, w => wE_mono a (fun _ _ q => wE_mono b (fun _ _ q => by obtain ⟨p, xs, k, e1, e2, e3, e4, e5, q⟩ := q; exact ⟨p, xs, k, e1, e2, e3, e4, e5, fun r hr => h _ _ (q r hr)⟩) hE q) hE w
  | .neg a, _, _, _, _, _, _, h, hE, w => wE_mono a (fun _ _ q => by obtain ⟨i, e, q⟩ := q; exact ⟨i, e, h _ _ q⟩) hE w
  | .cmp o a b, _, _, _, _, _, _, h, hE, w => wE_mono a (fun _ _ q => wE_mono b (fun _ _ q => wCmp_mono (fun _ q => h _ _ q) q) hE q) hE w
  | .chn o o' a b c, _, _, _, _, _, _, h, hE, w => wE_mono a (fun _ _ q => wE_mono b (fun _ _ q => wCmp_mono (fun k q => by
      cases k with
      | true => exact wE_mono c (fun _ _ q => wCmp_mono (fun _ q => h _ _ q) q) hE q
      | false => exact h _ _ q) q) hE q) hE w
  | .and a b, _, _, _, _, _, _, h, hE, w => wE_mono a (fun _ _ q => by
      obtain ⟨k, e, q⟩ := q
      refine ⟨k, e, ?_⟩
      cases k with
      | true => exact wE_mono b h hE q
      | false => exact h _ _ q) hE w
  | .or a b, _, _, _, _, _, _, h, hE, w => wE_mono a (fun _ _ q => by
      obtain ⟨k, e, q⟩ := q
      refine ⟨k, e, ?_⟩
      cases k with
      | false => exact wE_mono b h hE q
      | true => exact h _ _ q) hE w
  | .not a, _, _, _, _, _, _, h, hE, w => wE_mono a (fun _ _ q => by obtain ⟨i, e, q⟩ := q; exact ⟨i, e, h _ _ q⟩) hE w
  | .ifx c a b, _, _, _, _, _, _, h, hE, w => wT_mono c (fun k _ q => by
      cases k with
      | true => exact wE_mono a h hE q
      | false => exact wE_mono b h hE q) hE w
  | .tup es, _, _, _, _, _, _, h, hE, w => wEs_mono es (fun _ _ q => ⟨q.1, h _ _ q.2⟩) hE w
  | .idx a i, _, _, _, _, _, _, h, hE, w => wE_mono a (fun _ _ q => wE_mono i (fun _ _ q => wIdx_mono (fun _ q => h _ _ q) q) hE q) hE w
  | .slc a lo hi, _, _, _, _, _, _, h, hE, w => wE_mono a (fun _ _ q => wO_mono lo (fun _ _ q => wO_mono hi (fun _ _ q => wSlc_mono h q) hE q) hE q) hE w
  | .rev a, _, _, _, _, _, _, h, hE, w => wE_mono a (fun _ _ q => by obtain ⟨xs, e, q⟩ := q; exact ⟨xs, e, h _ _ q⟩) hE w
  | .revL a, _, _, _, _, _, _, h, hE, w => wE_mono a (fun _ _ q => by obtain ⟨a, xs, e, e2, q⟩ := q; exact ⟨a, xs, e, e2, fun p hp => h _ _ (q p hp)⟩) hE w
  | .rev0 a, _, _, _, _, _, _, h, hE, w => wE_mono a (fun _ _ q => by obtain ⟨xs, e, q⟩ := q; exact ⟨xs, e, h _ _ q⟩) hE w
  | .tupRev l, _, _, _, _, _, _, h, hE, w => wL_mono l (fun _ _ q => h _ _ q) hE w
  | .sorted l, _, _, _, _, _, _, h, hE, w => wL_mono l (fun _ _ q => wSorted_mono (fun _ q p hp => h _ _ (q p hp)) q) hE w
  | .sortK d, _, _, _, _, _, _, h, hE, w => wE_mono d (fun _ _ q => by obtain ⟨a, es, ns, e1, e2, e3, e4, q⟩ := q; exact ⟨a, es, ns, e1, e2, e3, e4, fun ns' h1 h2 p hp => h _ _ (q ns' h1 h2 p hp)⟩) hE w
  | .meth m o es, _, _, _, _, _, _, h, hE, w => wE_mono o (fun _ _ q => ⟨q.1, wEs_mono es (fun _ _ q => wMth_mono h q) hE q.2⟩) hE w
  | .dead, _, _, _, _, _, _, _, _, w => w.elim
  | .blt b es, _, _, _, _, _, _, h, hE, w => wEs_mono es (fun _ _ q => wBlt_mono (fun _ q => h _ _ q) q) hE w
  | .lk k l, _, _, _, _, _, _, h, hE, w => wL_mono l (fun _ _ q => wLK_mono (fun _ q => h _ _ q) q) hE w
  | .lidx l i, _, _, _, _, _, _, h, hE, w => wL_mono l (fun _ _ q => wE_mono i (fun _ _ q => by obtain ⟨j, v, e, e2, q⟩ := q; exact ⟨j, v, e, e2, h _ _ q⟩) hE q) hE w
  | .linn n x l, _, _, _, _, _, _, h, hE, w => wE_mono x (fun _ _ q => wL_mono l (fun _ _ q => ⟨q.1, q.2.1, h _ _ q.2.2⟩) hE q) hE w
  | .mk n, _, _, _, _, _, _, h, hE, w => wN_mono n (fun _ _ q p hp => h _ _ (q p hp)) hE w
  | .maxd mn l i, _, _, _, _, _, _, h, hE, w => wL_mono l (fun _ _ q => by obtain ⟨ns, e, q1, q2⟩ := q; exact ⟨ns, e, fun z => h _ _ (q1 z), fun m a b => h _ _ (q2 m a b)⟩) hE w
  | .dnew, _, _, _, _, _, _, h, _, w => fun p hp => h _ _ (w p hp)
  | .dget d k, _, _, _, _, _, _, h, hE, w => wE_mono d (fun _ _ q => wE_mono k (fun _ _ q => by obtain ⟨a, es, v, e1, e2, e3, e4, q⟩ := q; exact ⟨a, es, v, e1, e2, e3, e4, h _ _ q⟩) hE q) hE w
  | .din n k d, _, _, _, _, _, _, h, hE, w => wE_mono k (fun _ _ q => wE_mono d (fun _ _ q => by obtain ⟨a, es, e1, e2, e3, q⟩ := q; exact ⟨a, es, e1, e2, e3, h _ _ q⟩) hE q) hE w
  | .dgetd d k x, _, _, _, _, _, _, h, hE, w => wE_mono d (fun _ _ q => by
      obtain ⟨a, es0, e1, e2, q⟩ := q
      exact ⟨a, es0, e1, e2, wE_mono k (fun _ _ q => wE_mono x (fun _ _ q => by obtain ⟨es, e3, e4, q⟩ := q; exact ⟨es, e3, e4, h _ _ q⟩) hE q) hE q⟩) hE w
  | .dget1 d k, _, _, _, _, _, _, h, hE, w => wE_mono d (fun _ _ q => by
      obtain ⟨a, es0, e1, e2, q⟩ := q
      exact ⟨a, es0, e1, e2, wE_mono k (fun _ _ q => by obtain ⟨es, e3, e4, q⟩ := q; exact ⟨es, e3, e4, h _ _ q⟩) hE q⟩) hE w
  | .call f as, _, _, _, _, _, _, h, hE, w => wAs_mono as (fun _ _ _ q => hF.mono (fun _ _ q => ⟨q.1, h _ _ q.2⟩) (fun _ _ q => ⟨q.1, hE _ _ q.2⟩) q) hE w
theorem wEs_mono : ∀ (es : IEs) {env : Env} {M : Mem} {Q Q' : QL} {E E' : QX}, (∀ d M, Q d M → Q' d M) → (∀ x M, E x M → E' x M) → wEs F es env M Q E → wEs F es env M Q' E'
  | .nil, _, _, _, _, _, _, h, _, w => h _ _ w
  | .cons e es, _, _, _, _, _, _, h, hE, w => wE_mono e (fun _ _ q => wEs_mono es (fun _ _ q => h _ _ q) hE q) hE w
theorem wO_mono : ∀ (o : IO) {env : Env} {M : Mem} {Q Q' : Option Int → Mem → Prop} {E E' : QX}, (∀ d M, Q d M → Q' d M) → (∀ x M, E x M → E' x M) → wO F o env M Q E → wO F o env M Q' E'
  | .no, _, _, _, _, _, _, h, _, w => h _ _ w
  | .at e, _, _, _, _, _, _, h, hE, w => wE_mono e (fun _ _ q => by obtain ⟨i, e, q⟩ := q; exact ⟨i, e, h _ _ q⟩) hE w
theorem wAs_mono : ∀ (as : IAs) {env : Env} {M : Mem} {Q Q' : List D → List (Nat × Option MO) → Mem → Prop} {E E' : QX}, (∀ d l M, Q d l M → Q' d l M) → (∀ x M, E x M → E' x M) → wAs F as env M Q E → wAs F as env M Q' E'
  | .nil, _, _, _, _, _, _, h, _, w => h _ _ _ w
  | .cons e as, _, _, _, _, _, _, h, hE, w => wE_mono e (fun _ _ q => wAs_mono as (fun _ _ _ q => h _ _ _ q) hE q) hE w
  | .tmp n as, _, _, _, _, _, _, h, hE, w => wN_mono n (fun _ _ q p hp => wAs_mono as (fun _ _ _ q => h _ _ _ q) (fun _ _ z => z) (q p hp)) hE w
  | .lend i as, _, _, _, _, _, _, h, hE, w => by
    obtain ⟨p, o, e, q⟩ := w
    exact ⟨p, o, e, wAs_mono as (fun _ _ _ q => h _ _ _ q) (fun _ _ z => z) q⟩
theorem wL_mono : ∀ (l : IL) {env : Env} {M : Mem} {Q Q' : QL} {E E' : QX}, (∀ d M, Q d M → Q' d M) → (∀ x M, E x M → E' x M) → wL F l env M Q E → wL F l env M Q' E'
  | .new n, _, _, _, _, _, _, h, hE, w => wN_mono n h hE w
  | .own i, _, _, _, _, _, _, h, _, w => by obtain ⟨p, xs, e, q⟩ := w; exact ⟨p, xs, e, h _ _ q⟩
  | .ref e, _, _, _, _, _, _, h, hE, w => wE_mono e (fun _ _ q => by obtain ⟨a, xs, e, e2, q⟩ := q; exact ⟨a, xs, e, e2, h _ _ q⟩) hE w
theorem wN_mono : ∀ (n : IN) {env : Env} {M : Mem} {Q Q' : QL} {E E' : QX}, (∀ d M, Q d M → Q' d M) → (∀ x M, E x M → E' x M) → wN F n env M Q E → wN F n env M Q' E'
  | .disp es, _, _, _, _, _, _, h, hE, w => wEs_mono es (fun _ _ q => ⟨q.1, h _ _ q.2⟩) hE w
  | .comp elt tg it ifs, _, _, _, _, _, _, h, hE, w => wI_mono it (fun _ _ _ q => ⟨q.1, wCmpr_mono (fun x M R R' hR q => wTg_mono (fun _ q => wTs_mono ifs (fun b _ q => by
      cases b with
      | true => exact wE_mono elt (fun _ _ q => hR _ _ q) (fun _ _ z => z) q
      | false => exact hR _ _ q) (fun _ _ z => z) q) q) h q.2⟩) hE w
  | .comp2 elt tg it tg1 it1 ifs, _, _, _, _, _, _, h, hE, w => wI_mono it (fun _ _ _ q => wCmp2_mono (fun n x M R R' hR q => wTg_mono (fun _ q => wI_mono it1 (fun _ _ _ q => ⟨q.1, wCmpr_mono (fun x M R R' hR q => wTg_mono (fun _ q => wTs_mono ifs (fun b _ q => by
      cases b with
      | true => exact wE_mono elt (fun _ _ q => hR _ _ q) (fun _ _ z => z) q
      | false => exact hR _ _ q) (fun _ _ z => z) q) q) hR q.2⟩) (fun _ _ z => z) q) q) h q) hE w
  | .copy l, _, _, _, _, _, _, h, hE, w => wL_mono l h hE w
  | .copyT e, _, _, _, _, _, _, h, hE, w => wE_mono e (fun _ _ q => by obtain ⟨xs, e, q⟩ := q; exact ⟨xs, e, h _ _ q⟩) hE w
  | .slc l lo hi, _, _, _, _, _, _, h, hE, w => wL_mono l (fun _ _ q => wO_mono lo (fun _ _ q => wO_mono hi (fun _ _ q => h _ _ q) (fun _ _ z => z) q) (fun _ _ z => z) q) hE w
theorem wI_mono : ∀ (it : II) {env : Env} {M : Mem} {Q Q' : List D → (Env → Mem → Prop) → Mem → Prop} {E E' : QX}, (∀ d ok M, Q d ok M → Q' d ok M) → (∀ x M, E x M → E' x M) → wI F it env M Q E → wI F it env M Q' E'
  | .dyn e, _, _, _, _, _, _, h, hE, w => wE_mono e (fun _ _ q => wIt_mono (fun _ _ q => h _ _ _ q) q) hE w
  | .new n, _, _, _, _, _, _, h, hE, w => wN_mono n (fun _ _ q => h _ _ _ q) hE w
  | .own i, _, _, _, _, _, _, h, _, w => by obtain ⟨p, xs, e, q⟩ := w; exact ⟨p, xs, e, h _ _ _ q⟩
  | .range e, _, _, _, _, _, _, h, hE, w => wE_mono e (fun _ _ q => by obtain ⟨n, e, e2, q⟩ := q; exact ⟨n, e, e2, h _ _ _ q⟩) hE w
  | .range2 a b, _, _, _, _, _, _, h, hE, w => wE_mono a (fun _ _ q => wE_mono b (fun _ _ q => by obtain ⟨i, j, e, e2, e3, q⟩ := q; exact ⟨i, j, e, e2, e3, h _ _ _ q⟩) hE q) hE w
  | .zip a b, _, _, _, _, _, _, h, hE, w => wE_mono a (fun _ _ q => wE_mono b (fun _ _ q => wZip_mono (fun _ _ q => h _ _ _ q) q) hE q) hE w
  | .enum e, _, _, _, _, _, _, h, hE, w => wE_mono e (fun _ _ q => wEnum_mono (fun _ _ q => h _ _ _ q) q) hE w
  | .rev e, _, _, _, _, _, _, h, hE, w => wE_mono e (fun _ _ q => wRevIt_mono (fun _ _ q => h _ _ _ q) q) hE w
  | .revR a b, _, _, _, _, _, _, h, hE, w => wE_mono a (fun _ _ q => wE_mono b (fun _ _ q => by obtain ⟨i, j, e, e2, e3, q⟩ := q; exact ⟨i, j, e, e2, e3, h _ _ _ q⟩) hE q) hE w
theorem wT_mono : ∀ (e : IT) {env : Env} {M : Mem} {Q Q' : Bool → Mem → Prop} {E E' : QX}, (∀ d M, Q d M → Q' d M) → (∀ x M, E x M → E' x M) → wT F e env M Q E → wT F e env M Q' E'
  | .not a, _, _, _, _, _, _, h, hE, w => wT_mono a (fun _ _ q => h _ _ q) hE w
  | .and a b, _, _, _, _, _, _, h, hE, w => wT_mono a (fun k _ q => by
      cases k with
      | true => exact wT_mono b h hE q
      | false => exact h _ _ q) hE w
  | .or a b, _, _, _, _, _, _, h, hE, w => wT_mono a (fun k _ q => by
      cases k with
      | false => exact wT_mono b h hE q
      | true => exact h _ _ q) hE w
  | .v e, _, _, _, _, _, _, h, hE, w => wE_mono e (fun _ _ q => wTru_mono (fun _ q => h _ _ q) q) hE w
theorem wTs_mono : ∀ (e : Option IT) {env : Env} {M : Mem} {Q Q' : Bool → Mem → Prop} {E E' : QX}, (∀ d M, Q d M → Q' d M) → (∀ x M, E x M → E' x M) → wTs F e env M Q E → wTs F e env M Q' E'
  | none, _, _, _, _, _, _, h, _, w => h _ _ w
  | some e, _, _, _, _, _, _, h, hE, w => wT_mono e h hE w
end
mutual
theorem wS_mono : ∀ (s : IS) {env : Env} {M : Mem} {K K' : Kt}, K.Le K' → wS F s env M K → wS F s env M K'
  | .pass, _, _, _, _, h, w => h.nx _ _ w
  | .brk, _, _, _, _, h, w => h.bk _ _ w
  | .cnt, _, _, _, _, h, w => h.ct _ _ w
  | .ret e, _, _, _, _, h, w => wE_mono hF e h.rt (fun _ _ q => h.xc _ _ _ q) w
  | .retN, _, _, _, _, h, w => h.rt _ _ w
  | .retO i, _, _, _, _, h, w => by obtain ⟨p, o, e, q⟩ := w; exact ⟨p, o, e, fun hm => h.rt _ _ (q hm)⟩
  | .exp e, _, _, _, _, h, w => wE_mono hF e (fun _ _ q => h.nx _ _ q) (fun _ _ q => h.xc _ _ _ q) w
  | .asg t e, _, _, _, _, h, w => wE_mono hF e (fun _ _ q => wTg_mono (fun _ q => h.nx _ _ q) q) (fun _ _ q => h.xc _ _ _ q) w
  | .asgN i n, _, _, _, _, h, w => wN_mono hF n (fun _ _ q p hp => h.nx _ _ (q p hp)) (fun _ _ q => h.xc _ _ _ q) w
  | .asgM i n, _, _, _, _, h, w => wN_mono hF n (fun _ _ q p hp => h.nx _ _ (q p hp)) (fun _ _ q => h.xc _ _ _ q) w
  | .par i j a b, _, _, _, _, h, w => wE_mono hF a (fun _ _ q => wE_mono hF b (fun _ _ q => h.nx _ _ q) (fun _ _ q => h.xc _ _ _ q) q) (fun _ _ q => h.xc _ _ _ q) w
  | .aug i o e, _, _, _, _, h, w => by
    obtain ⟨x, ex, q⟩ := w
    exact ⟨x, ex, wE_mono hF e (fun _ _ q => wAug_mono (fun _ q => h.nx _ _ q) q) (fun _ _ q => h.xc _ _ _ q) q⟩
  | .app i e, _, _, _, _, h, w => by
    obtain ⟨p, xs, e1, q⟩ := w
    exact ⟨p, xs, e1, wE_mono hF e (fun _ _ q => ⟨q.1, h.nx _ _ q.2⟩) (fun _ _ q => h.xc _ _ _ q) q⟩
  | .set i k e, _, _, _, _, h, w => by
    obtain ⟨p, xs, e1, q⟩ := w
    exact ⟨p, xs, e1, wE_mono hF e (fun _ _ q => wE_mono hF k (fun _ _ q => by obtain ⟨j, m, e2, e3, q⟩ := q; exact ⟨j, m, e2, e3, h.nx _ _ q⟩) (fun _ _ q => h.xc _ _ _ q) q) (fun _ _ q => h.xc _ _ _ q) q⟩
  | .pop i j, _, _, _, _, h, w => by obtain ⟨p, xs, y, e1, e2, e3, q⟩ := w; exact ⟨p, xs, y, e1, e2, e3, h.nx _ _ q⟩
  | .mapp l e, _, _, _, _, h, w => wE_mono hF l (fun _ _ q => by
      obtain ⟨a, ys, e1, e2, q⟩ := q
      exact ⟨a, ys, e1, e2, wE_mono hF e (fun _ _ q => by obtain ⟨xs, e1, e2, q⟩ := q; exact ⟨xs, e1, e2, h.nx _ _ q⟩) (fun _ _ q => h.xc _ _ _ q) q⟩) (fun _ _ q => h.xc _ _ _ q) w
  | .mset l k e, _, _, _, _, h, w => wE_mono hF e (fun _ _ q => wE_mono hF l (fun _ _ q => wE_mono hF k (fun _ _ q => by obtain ⟨p, xs, j, m, e1, e2, e3, e4, q⟩ := q; exact ⟨p, xs, j, m, e1, e2, e3, e4, h.nx _ _ q⟩) (fun _ _ q => h.xc _ _ _ q) q) (fun _ _ q => h.xc _ _ _ q) q) (fun _ _ q => h.xc _ _ _ q) w
  | .maug l k o e, _, _, _, _, h, w => wE_mono hF l (fun _ _ q => wE_mono hF k (fun _ _ q => by
      obtain ⟨a, xs, j, m, v, e1, e2, e3, e4, e5, q⟩ := q
      exact ⟨a, xs, j, m, v, e1, e2, e3, e4, e5, wE_mono hF e (fun _ _ q => wAug_mono (fun _ q => by obtain ⟨xs', e1, e2, q⟩ := q; exact ⟨xs', e1, e2, h.nx _ _ q⟩) q) (fun _ _ q => h.xc _ _ _ q) q⟩) (fun _ _ q => h.xc _ _ _ q) q) (fun _ _ q => h.xc _ _ _ q) w
  | .dset d k e, _, _, _, _, h, w => wE_mono hF e (fun _ _ q => wE_mono hF d (fun _ _ q => wE_mono hF k (fun _ _ q => by obtain ⟨a, es, e1, e2, e3, e4, q⟩ := q; exact ⟨a, es, e1, e2, e3, e4, h.nx _ _ q⟩) (fun _ _ q => h.xc _ _ _ q) q) (fun _ _ q => h.xc _ _ _ q) q) (fun _ _ q => h.xc _ _ _ q) w
  | .ite c t e, _, _, _, _, h, w => wT_mono hF c (fun b _ q => by
      cases b with
      | true => exact wSs_mono t h q
      | false => exact wSs_mono e h q) (fun _ _ q => h.xc _ _ _ q) w
  | .whl c b, _, _, _, _, h, w => by
    obtain ⟨W, h0, hs⟩ := w
    refine ⟨W, h0, fun m env M hW => wT_mono hF c (fun k M1 q => ?_) (fun _ _ q => h.xc _ _ _ q) (hs m env M hW)⟩
    cases k with
    | true =>
      refine wSs_mono b ?_ q
      exact ⟨fun _ _ z => z, h.rt, h.nx, fun _ _ z => z, h.xc⟩
    | false => exact h.nx _ _ q
  | .for_ t it b, _, _, _, _, h, w => by
    unfold wS at w ⊢
    refine wI_mono hF it (fun _ _ _ q => ?_) (fun _ _ q => h.xc _ _ _ q) w
    refine wFor_mono (fun x e M K K' hK q => ?_) h q
    exact wTg_mono (fun _ q => wSs_mono b hK q) q
  | .dead, _, _, _, _, _, w => w.elim
theorem wSs_mono : ∀ (ss : List IS) {env : Env} {M : Mem} {K K' : Kt}, K.Le K' → wSs F ss env M K → wSs F ss env M K'
  | [], _, _, _, _, h, w => h.nx _ _ w
  | s :: ss, _, _, _, _, h, w => by
    unfold wSs at w ⊢
    refine wS_mono s ?_ w
    exact ⟨fun _ _ q => wSs_mono ss h q, h.rt, h.bk, h.ct, h.xc⟩
end
end
theorem wFn_mono (P : List Fn) : ∀ n, FMono (wFn P n)
  | 0 => ⟨fun _ _ w => w.elim⟩
  | n + 1 => ⟨fun {f ds M Q Q' E E'} h hE w => by
    obtain ⟨fn, e, hl, w⟩ := w
    refine ⟨fn, e, hl, wSs_mono (wFn_mono P n) _ ?_ w⟩
    exact ⟨fun _ M' ⟨M2, s, q⟩ => ⟨M2, s, h _ _ q⟩, fun _ M' ⟨M2, s, q⟩ => ⟨M2, s, h _ _ q⟩, fun _ _ z => z, fun _ _ z => z, fun _ _ M' ⟨M2, s, q⟩ => ⟨M2, s, hE _ _ q⟩⟩⟩
end DL
/-! t[::-1] of a tuple. -/
namespace DLK
open PySem PySem.Spec PyProof.Rows L2 HT PySem.W
theorem adjust_rev (n : Nat) : Builtin.Slice.sliceAdjust none none (-1) (n : Int) = ((n : Int) - 1, -1) := rfl
theorem places_rev (n : Nat) : Builtin.Slice.slicePlaces ((n : Int) - 1) (-1) (-1) = n := by
  unfold Builtin.Slice.slicePlaces
  rw [if_neg (show ¬ ((-1 : Int) > 0) by decide)]
  by_cases h : (n : Int) - 1 > -1
  · rw [if_pos h, show (- -1 : Int) = 1 by decide, Int.ediv_one]
    omega
  · rw [if_neg h]
    omega
section
variable {prog : Program} {w : World} {A : Around} {E : Value → Shared → Prop} {s : Shared}
theorem slicePart_one {v : Value} {o : Option Int} {Q : Option Int → Shared → Prop} (p : IsPart v o) (h : Q o s) : wpAny (model prog w) A (Builtin.Slice.slicePartIndex v) Q E s := slicePart_ p h
theorem applied_rev {sl : Addr} {vl vu vs : Value} {n : Nat} {Q : Int × Int × Nat → Shared → Prop} (hs : s.heap.IsSliceOf sl vl vu vs) (pl : IsPart vl none) (pu : IsPart vu none) (ps : IsPart vs (some (-1)))
    (h : Q ((n : Int) - 1, -1, n) s) : wpAny (model prog w) A (Builtin.Slice.sliceApplied (.ref sl) (pure (n : Int))) Q E s := by
  obtain ⟨os, hos, hcs, hds⟩ := id hs
  unfold Builtin.Slice.sliceApplied Builtin.Slice.sliceFields
  refine wpAny_bind (wpAny_bind (wpAny_field hos hds (x := vl) rfl (wpAny_bind (wpAny_field hos hds (x := vu) rfl (wpAny_bind (wpAny_field hos hds (x := vs) rfl (wpAny_pure ?_)))))))
  refine wpAny_bind (slicePart_ ps ?_)
  show wpAny _ _ (if ((-1 : Int) == 0) = true then _ else _) _ _ s
  rw [if_neg (by decide)]
  refine wpAny_bind (slicePart_ pl (wpAny_bind (slicePart_ pu (wpAny_bind (wpAny_pure ?_)))))
  show wpAny _ _ (match Builtin.Slice.sliceAdjust none none (-1) (n : Int) with | (lo, hi) => pure (lo, (-1 : Int), Builtin.Slice.slicePlaces lo hi (-1))) _ _ s
  rw [adjust_rev n]
  show wpAny _ _ (pure ((n : Int) - 1, (-1 : Int), Builtin.Slice.slicePlaces ((n : Int) - 1) (-1) (-1))) _ _ s
  rw [places_rev]
  exact wpAny_pure h
theorem pick_rev (xs : Array Value) : ((List.range xs.size).filterMap fun (m : Nat) => xs[(((xs.size : Int) - 1) + (m : Int) * -1).toNat]?).toArray = xs.toList.reverse.toArray := by
  have e : ((List.range xs.size).filterMap fun (m : Nat) => xs[(((xs.size : Int) - 1) + (m : Int) * -1).toNat]?) = ((List.range xs.size).map fun k => xs.size - 1 - k).filterMap (xs[·]?) := by
    rw [List.filterMap_map]
    have : ∀ (l : List Nat), (∀ m ∈ l, m < xs.size) → l.filterMap (fun (m : Nat) => xs[(((xs.size : Int) - 1) + (m : Int) * -1).toNat]?) = l.filterMap ((fun x => xs[x]?) ∘ fun k => xs.size - 1 - k) := by
      intro l
      induction l with
      | nil => intro _; rfl
      | cons m l ih =>
        intro h
        have hm := h m (List.mem_cons_self)
        have e2 : (((xs.size : Int) - 1) + (m : Int) * -1).toNat = xs.size - 1 - m := by omega
        rw [List.filterMap_cons, List.filterMap_cons, ih fun k hk => h k (List.mem_cons_of_mem _ hk), e2]
        rfl
    exact this _ fun m hm => List.mem_range.mp hm
  rw [e, PySem.W.krv_range, List.filterMap_reverse, PySem.W.krv_all]
theorem getItem_tuple_rev {t sl : Addr} {items : Array Value} {vl vu vs : Value} {Q : Value → Shared → Prop} (ht : IsTup s.heap t items) (hs : s.heap.IsSliceOf sl vl vu vs) (pl : IsPart vl none) (pu : IsPart vu none) (ps : IsPart vs (some (-1)))
    (h : Q (.ref s.heap.objs.size) { s with heap := s.heap.push { cls := .type "tuple", data := .seq items.toList.reverse.toArray } })
    (hsz : items.size ≤ sizeLine) : wpAny (model prog w) A (getItem (.ref t) (.ref sl)) Q E s := by
  have htake : sizeOk (.seq items.toList.reverse.toArray) := by
    show items.toList.reverse.toArray.size ≤ sizeLine
    simpa using hsz
  obtain ⟨os, hos, hcs, hds⟩ := id hs
  have hTs : s.TypeIs (.ref sl) "slice" := ⟨os, hos, hcs⟩
  unfold getItem
  try with_reducible refine wpAny_holding ?_
  first | refine wpAny_bind (wpAny_pure ?_) | skip
  refine wpAny_bind (wpAny_sequenceKey ht.typeIs (by decide) ?_)
  refine wpAny_bind (wpAny_callSpecial?_slot (name := Str.ofString "__getitem__") ht.typeIs PyProof.Rows.slot_tuple_getitem
    (wpAny_call_entry PyProof.Rows.slot_tuple_getitem ht.typeIs entry_tuple_getitem ?_ (args_tuple_getitem _ _)))
  show wpAny _ _ (Builtin.Tuple.tupleItemsOf (.ref t) >>= _) _ _ s
  refine wpAny_bind (tupleItemsOf_ ht ?_)
  refine wpAny_bind (wpAny_typeOf hTs ?_)
  rw [if_pos (by decide)]
  refine wpAny_bind (applied_rev hs pl pu ps ?_)
  have hno : ¬ (((items.size : Int) - 1 == 0 && (-1 : Int) == 1 && items.size == items.size) = true) := by simp
  show wpAny _ _ (if ((items.size : Int) - 1 == 0 && (-1 : Int) == 1 && items.size == items.size) = true then _ else _) _ _ s
  rw [if_neg hno, pick_rev]
  first
    | exact wpAny_bind (m := Builtin.Tuple.tupleExact _) (wpAny_newObj_type (wpAny_pure ⟨_, rfl, wpAny_pure h⟩) htake)
    | exact wpAny_bind (m := Builtin.Tuple.tupleExact _) (wpAny_newObj_type (wpAny_bind (wpAny_pure (wpAny_pure ⟨_, rfl, wpAny_pure h⟩))) htake)
    | exact wpAny_bind (wpAny_bind (m := Builtin.Tuple.tupleExact _) (wpAny_newObj_type (wpAny_pure (wpAny_pure ⟨_, rfl, wpAny_pure h⟩)) htake))
    | exact wpAny_bind (wpAny_bind (m := Builtin.Tuple.tupleExact _) (wpAny_newObj_type (wpAny_pure ⟨_, rfl, wpAny_pure h⟩) htake))
end
section
variable {X : Cx}
def tRevT (K : PySem.W.Frag) (te : TE) : TE := fun σ H Q => te σ H fun x H1 => ∃ a xs, x = .ref a ∧ SqT K H1 a xs ∧ ∀ p, H1 p = none → Q (.ref p) (L2.upd H1 p (.tup xs.reverse))
theorem pe_revT {e : Expr} {te : TE} {k : Nat} {p1 p2 p3 pos : Pos} (he : PE X e te) : PE X (.Subscript e (.Slice none none (some (.UnaryOp .USub (.Constant (.int 1) k p1) p2)) p3) pos) (tRevT X.K te) := by
  refine ⟨fun pins s σ H Q I h => ?_⟩
  refine Subscript_ (thn (he.run pins s σ H _ I h) fun v s1 ⟨x, H1, I1, r1, q1⟩ => ?_)
  obtain ⟨a, xs, ex, hx, q⟩ := q1
  subst ex
  cases r1
  have hst : PO X (some (.UnaryOp .USub (.Constant (.int 1) k p1) p2)) (tPart (tUn (rU fun i => .int (-i)) (tC (.int 1)))) := po_some (pe_un un_neg pe_int)
  refine wpAny_Slice (thn (po_none.run pins s1 σ H1 (fun o H2 => o = none ∧ H2 = H1) I1 ⟨rfl, rfl⟩) fun vl s2 ⟨l, H2, I2, pl, el, e2⟩ => ?_)
  subst el e2
  refine thn (po_none.run pins s2 σ H2 (fun o H3 => o = none ∧ H3 = H2) I2 ⟨rfl, rfl⟩) fun vu s3 ⟨u, H3, I3, pu, eu, e3⟩ => ?_
  subst eu e3
  refine thn (hst.run pins s3 σ H3 (fun o H4 => o = some (-1) ∧ H4 = H3) I3 ⟨1, rfl, -1, rfl, rfl, rfl⟩) fun vs s4 ⟨o, H4, I4, ps, eo, e4⟩ => ?_
  subst eo e4
  have I5 : Inv X pins σ H4 { s4 with heap := s4.heap.push { cls := .type "slice", data := .fields #[vl, vu, vs] } } := I4.kept (t' := s4.toks) fun b ob q => Heap.get?_push_of_some _ q
  obtain ⟨its, r, ht, hz⟩ := I5.tuple hx
  have hlen := r.length
  show wpAny (model X.prog X.w) X.A (subscriptTail e (.Slice none none (some (.UnaryOp .USub (.Constant (.int 1) k p1) p2)) p3) (.ref a) (.ref s4.heap.objs.size)) (EP X pins σ Q) X.xe { s4 with heap := s4.heap.push { cls := .type "slice", data := .fields #[vl, vu, vs] } }
  refine tail_any (ops := [.ref a, .ref s4.heap.objs.size]) ht.typeIs PyProof.Rows.slot_tuple_getitem.lookup ?_ (by with_unfolding_all rfl)
  refine getItem_tuple_rev ht (Heap.IsSliceOf.new _ vl vu vs) pl pu ps ?_ (by rw [List.size_toArray]; omega)
  refine ⟨.ref _, _, I5.laid (t' := s4.toks) (o := .tup xs.reverse) (fun b ob q => Heap.get?_push_of_some _ q) (Nat.le_refl _) ?_, rfl, q _ (I5.hok.fresh (Nat.le_refl _))⟩
  exact ⟨by rw [List.length_reverse]; omega, its.reverse, r.reverse, _, Heap.get?_push_size _ rfl, rfl, 0, by simp⟩
end
/-! t[:0:-1] of a tuple. -/
theorem adjust_rev0 (n : Nat) : Builtin.Slice.sliceAdjust none (some 0) (-1) (n : Int) = ((n : Int) - 1, min 0 ((n : Int) - 1)) := rfl
theorem places_rev0 (n : Nat) : Builtin.Slice.slicePlaces ((n : Int) - 1) (min 0 ((n : Int) - 1)) (-1) = n - 1 := by
  unfold Builtin.Slice.slicePlaces
  rw [if_neg (show ¬ ((-1 : Int) > 0) by decide)]
  by_cases h : (n : Int) - 1 > min 0 ((n : Int) - 1)
  · rw [if_pos h, show (- -1 : Int) = 1 by decide, Int.ediv_one]
    omega
  · rw [if_neg h]
    omega
section
variable {prog : Program} {w : World} {A : Around} {E : Value → Shared → Prop} {s : Shared}
theorem applied_rev0 {sl : Addr} {vl vu vs : Value} {n : Nat} {Q : Int × Int × Nat → Shared → Prop} (hs : s.heap.IsSliceOf sl vl vu vs) (pl : IsPart vl none) (pu : IsPart vu (some 0)) (ps : IsPart vs (some (-1)))
    (h : Q ((n : Int) - 1, -1, n - 1) s) : wpAny (model prog w) A (Builtin.Slice.sliceApplied (.ref sl) (pure (n : Int))) Q E s := by
  obtain ⟨os, hos, hcs, hds⟩ := id hs
  unfold Builtin.Slice.sliceApplied Builtin.Slice.sliceFields
  refine wpAny_bind (wpAny_bind (wpAny_field hos hds (x := vl) rfl (wpAny_bind (wpAny_field hos hds (x := vu) rfl (wpAny_bind (wpAny_field hos hds (x := vs) rfl (wpAny_pure ?_)))))))
  refine wpAny_bind (slicePart_ ps ?_)
  show wpAny _ _ (if ((-1 : Int) == 0) = true then _ else _) _ _ s
  rw [if_neg (by decide)]
  refine wpAny_bind (slicePart_ pl (wpAny_bind (slicePart_ pu (wpAny_bind (wpAny_pure ?_)))))
  show wpAny _ _ (match Builtin.Slice.sliceAdjust none (some 0) (-1) (n : Int) with | (lo, hi) => pure (lo, (-1 : Int), Builtin.Slice.slicePlaces lo hi (-1))) _ _ s
  rw [adjust_rev0 n]
  show wpAny _ _ (pure ((n : Int) - 1, (-1 : Int), Builtin.Slice.slicePlaces ((n : Int) - 1) (min 0 ((n : Int) - 1)) (-1))) _ _ s
  rw [places_rev0]
  exact wpAny_pure h
theorem pick_rev0 (xs : Array Value) : ((List.range (xs.size - 1)).filterMap fun (m : Nat) => xs[(((xs.size : Int) - 1) + (m : Int) * -1).toNat]?).toArray = (xs.toList.drop 1).reverse.toArray := by
  have h := congrArg Array.toList (pick_rev xs)
  simp only [] at h
  congr 1
  cases e : xs.toList with
  | nil =>
    have e0 : xs.size = 0 := by rw [← Array.length_toList, e]; rfl
    rw [e0]; rfl
  | cons x t =>
    have e0 : xs.size = t.length + 1 := by rw [← Array.length_toList, e]; rfl
    rw [e, e0, List.range_succ, List.filterMap_append, List.reverse_cons] at h
    have e1 : List.filterMap (fun (m : Nat) => xs[((((t.length + 1 : Nat) : Int) - 1) + (m : Int) * -1).toNat]?) [t.length] = [x] := by
      rw [show List.filterMap (fun (m : Nat) => xs[((((t.length + 1 : Nat) : Int) - 1) + (m : Int) * -1).toNat]?) [t.length] = (xs[((((t.length + 1 : Nat) : Int) - 1) + (t.length : Int) * -1).toNat]?).toList from by
        cases z : xs[((((t.length + 1 : Nat) : Int) - 1) + (t.length : Int) * -1).toNat]? with
        | none => simp only [List.filterMap_cons, List.filterMap_nil, z]; rfl
        | some y => simp only [List.filterMap_cons, List.filterMap_nil, z]; rfl]
      rw [show ((((t.length + 1 : Nat) : Int) - 1) + (t.length : Int) * -1).toNat = 0 from by omega]
      rw [← Array.getElem?_toList, e]; rfl
    rw [e1] at h
    rw [e0]
    exact List.append_cancel_right h
theorem getItem_tuple_rev0 {t sl : Addr} {items : Array Value} {vl vu vs : Value} {Q : Value → Shared → Prop} (ht : IsTup s.heap t items) (hs : s.heap.IsSliceOf sl vl vu vs) (pl : IsPart vl none) (pu : IsPart vu (some 0)) (ps : IsPart vs (some (-1)))
    (h : Q (.ref s.heap.objs.size) { s with heap := s.heap.push { cls := .type "tuple", data := .seq (items.toList.drop 1).reverse.toArray } })
    (hsz : items.size ≤ sizeLine) : wpAny (model prog w) A (getItem (.ref t) (.ref sl)) Q E s := by
  have htake : sizeOk (.seq (items.toList.drop 1).reverse.toArray) := by
    show (items.toList.drop 1).reverse.toArray.size ≤ sizeLine
    rw [List.size_toArray, List.length_reverse, List.length_drop, Array.length_toList]
    omega
  obtain ⟨os, hos, hcs, hds⟩ := id hs
  have hTs : s.TypeIs (.ref sl) "slice" := ⟨os, hos, hcs⟩
  unfold getItem
  try with_reducible refine wpAny_holding ?_
  first | refine wpAny_bind (wpAny_pure ?_) | skip
  refine wpAny_bind (wpAny_sequenceKey ht.typeIs (by decide) ?_)
  refine wpAny_bind (wpAny_callSpecial?_slot (name := Str.ofString "__getitem__") ht.typeIs PyProof.Rows.slot_tuple_getitem
    (wpAny_call_entry PyProof.Rows.slot_tuple_getitem ht.typeIs entry_tuple_getitem ?_ (args_tuple_getitem _ _)))
  show wpAny _ _ (Builtin.Tuple.tupleItemsOf (.ref t) >>= _) _ _ s
  refine wpAny_bind (tupleItemsOf_ ht ?_)
  refine wpAny_bind (wpAny_typeOf hTs ?_)
  rw [if_pos (by decide)]
  refine wpAny_bind (applied_rev0 hs pl pu ps ?_)
  have hno : ¬ (((items.size : Int) - 1 == 0 && (-1 : Int) == 1 && items.size - 1 == items.size) = true) := by simp
  show wpAny _ _ (if ((items.size : Int) - 1 == 0 && (-1 : Int) == 1 && items.size - 1 == items.size) = true then _ else _) _ _ s
  rw [if_neg hno, pick_rev0]
  first
    | exact wpAny_bind (m := Builtin.Tuple.tupleExact _) (wpAny_newObj_type (wpAny_pure ⟨_, rfl, wpAny_pure h⟩) htake)
    | exact wpAny_bind (m := Builtin.Tuple.tupleExact _) (wpAny_newObj_type (wpAny_bind (wpAny_pure (wpAny_pure ⟨_, rfl, wpAny_pure h⟩))) htake)
    | exact wpAny_bind (wpAny_bind (m := Builtin.Tuple.tupleExact _) (wpAny_newObj_type (wpAny_pure (wpAny_pure ⟨_, rfl, wpAny_pure h⟩)) htake))
    | exact wpAny_bind (wpAny_bind (m := Builtin.Tuple.tupleExact _) (wpAny_newObj_type (wpAny_pure ⟨_, rfl, wpAny_pure h⟩) htake))
end
section
variable {X : Cx}
def tRevT0 (K : PySem.W.Frag) (te : TE) : TE := fun σ H Q => te σ H fun x H1 => ∃ a xs, x = .ref a ∧ SqT K H1 a xs ∧ ∀ p, H1 p = none → Q (.ref p) (L2.upd H1 p (.tup (xs.drop 1).reverse))
theorem pe_revT0 {e : Expr} {te : TE} {k k0 : Nat} {p0 p1 p2 p3 pos : Pos} (he : PE X e te) : PE X (.Subscript e (.Slice none (some (.Constant (.int 0) k0 p0)) (some (.UnaryOp .USub (.Constant (.int 1) k p1) p2)) p3) pos) (tRevT0 X.K te) := by
  refine ⟨fun pins s σ H Q I h => ?_⟩
  refine Subscript_ (thn (he.run pins s σ H _ I h) fun v s1 ⟨x, H1, I1, r1, q1⟩ => ?_)
  obtain ⟨a, xs, ex, hx, q⟩ := q1
  subst ex
  cases r1
  have hst : PO X (some (.UnaryOp .USub (.Constant (.int 1) k p1) p2)) (tPart (tUn (rU fun i => .int (-i)) (tC (.int 1)))) := po_some (pe_un un_neg pe_int)
  refine wpAny_Slice (thn (po_none.run pins s1 σ H1 (fun o H2 => o = none ∧ H2 = H1) I1 ⟨rfl, rfl⟩) fun vl s2 ⟨l, H2, I2, pl, el, e2⟩ => ?_)
  subst el e2
  refine thn ((po_some (pe_int (X := X)) : PO X (some (.Constant (.int 0) k0 p0)) (tPart (tC (.int 0)))).run pins s2 σ H2 (fun o H3 => o = some 0 ∧ H3 = H2) I2 ⟨0, rfl, rfl, rfl⟩) fun vu s3 ⟨u, H3, I3, pu, eu, e3⟩ => ?_
  subst eu e3
  refine thn (hst.run pins s3 σ H3 (fun o H4 => o = some (-1) ∧ H4 = H3) I3 ⟨1, rfl, -1, rfl, rfl, rfl⟩) fun vs s4 ⟨o, H4, I4, ps, eo, e4⟩ => ?_
  subst eo e4
  have I5 : Inv X pins σ H4 { s4 with heap := s4.heap.push { cls := .type "slice", data := .fields #[vl, vu, vs] } } := I4.kept (t' := s4.toks) fun b ob q => Heap.get?_push_of_some _ q
  obtain ⟨its, r, ht, hz⟩ := I5.tuple hx
  have hlen := r.length
  show wpAny (model X.prog X.w) X.A (subscriptTail e (.Slice none (some (.Constant (.int 0) k0 p0)) (some (.UnaryOp .USub (.Constant (.int 1) k p1) p2)) p3) (.ref a) (.ref s4.heap.objs.size)) (EP X pins σ Q) X.xe { s4 with heap := s4.heap.push { cls := .type "slice", data := .fields #[vl, vu, vs] } }
  refine tail_any (ops := [.ref a, .ref s4.heap.objs.size]) ht.typeIs PyProof.Rows.slot_tuple_getitem.lookup ?_ (by with_unfolding_all rfl)
  refine getItem_tuple_rev0 ht (Heap.IsSliceOf.new _ vl vu vs) pl pu ps ?_ (by rw [List.size_toArray]; omega)
  refine ⟨.ref _, _, I5.laid (t' := s4.toks) (o := .tup (xs.drop 1).reverse) (fun b ob q => Heap.get?_push_of_some _ q) (Nat.le_refl _) ?_, rfl, q _ (I5.hok.fresh (Nat.le_refl _))⟩
  exact ⟨by rw [List.length_reverse, List.length_drop]; omega, (its.drop 1).reverse, (r.drop 1).reverse, _, Heap.get?_push_size _ rfl, rfl, 0, by simp⟩
end
end DLK
/-! enumerate(a tuple). -/
namespace DLK
open PySem PySem.Spec PyProof.Rows L2
set_option maxHeartbeats 1000000 in
theorem meets_enum1 {v : Value} {o : Obj} {H : Heap → Prop} (B : PySem.Begins v o H) :
    Meets (Builtin.«enumerate.__new__» ⟨[.type "enumerate", v], []⟩) (fun _ R s => H s.heap ∧
      R (.ok (.ret (.ref (s.heap.push o).objs.size))) { s with heap := (s.heap.push o).push { cls := .type "enumerate", data := .fields #[.none, .bool false, .ref s.heap.objs.size, rawInt 0, .none, .none] } }) :=
  .of_wp fun prog w A R s h => by
    obtain ⟨hp, g, d, tk, os⟩ := s; obtain ⟨h1, h⟩ := h
    have hsub := sub_enumerate
    have q1 : ∀ {A' : Around} {E : Value → Shared → Prop} {Q : Value → Shared → Prop}, Q (.ref hp.objs.size) ⟨hp.push o, g, d, tk, os⟩ → wpAny (model prog w) A' (pyIter v) Q E ⟨hp, g, d, tk, os⟩ :=
      fun q => B.iter prog w _ _ ⟨hp, g, d, tk, os⟩ _ h1 q
    wp_walk using q1
    refine wpAny_stack_any fun st => wpAny_pure ?_
    split
    · rename_i c _ _ _ _ _
      cases (c == Value.type "enumerate")
      · wp_walk using q1
        exact ⟨_, rfl, h⟩
      · wp_walk using q1
        exact ⟨_, rfl, h⟩
    · wp_walk using q1
      exact ⟨_, rfl, h⟩
section
variable {prog : Program} {w : World} {A : Around} {E : Value → Shared → Prop} {s : Shared}
theorem call_enum_tup {l : Addr} {items : Array Value} {Q : Value → Shared → Prop} (hL : s.heap.IsTuple l items)
    (h : ∀ h', IsEnum h' (s.heap.objs.size + 1) s.heap.objs.size 0 .none → h'.IsTupleIter s.heap.objs.size l 0 → h'.objs.size = s.heap.objs.size + 2 →
      (∀ b o, s.heap.get? b = some o → h'.get? b = some o) → Q (.ref (s.heap.objs.size + 1)) { s with heap := h' }) :
    wpAny (model prog w) A (call (.type "enumerate") [.ref l]) Q E s := by
  refine callType_new F.called_enumerate (by decide) (F.typeCall_enumerate_1 _) (F.newCall_enumerate_1 _) (fun obj => F.args_object_init_2 obj _) F.entry_enumerate_new
    (meets_enum1 (begins_tuple l items)) ⟨hL, ?_⟩
  have hz : (s.heap.push { cls := .type "tuple_iterator", data := .fields #[.ref l, .int 0 0] }).objs.size = s.heap.objs.size + 1 := Heap.size_push ..
  show _ ∧ _
  rw [hz]
  have he : IsEnum ((s.heap.push { cls := .type "tuple_iterator", data := .fields #[.ref l, .int 0 0] }).push
      { cls := .type "enumerate", data := .fields #[.none, .bool false, .ref s.heap.objs.size, rawInt 0, .none, .none] }) (s.heap.objs.size + 1) s.heap.objs.size 0 .none := by
    have := Heap.get?_push_size (s.heap.push { cls := .type "tuple_iterator", data := .fields #[.ref l, .int 0 0] })
      (o := { cls := .type "enumerate", data := .fields #[.none, .bool false, .ref s.heap.objs.size, rawInt 0, .none, .none] }) rfl
    rw [hz] at this; exact this
  refine ⟨⟨_, he, rfl⟩, h _ he ⟨_, Heap.get?_push_of_some _ (Heap.get?_push_size _ rfl), rfl, rfl⟩ (by rw [Heap.size_push, hz]) fun b o x => Heap.get?_push_of_some _ (Heap.get?_push_of_some _ x)⟩
end
/-- the tuple at a, each item in a new pair -/
def IteT (K : PySem.W.Frag) (a : Addr) (n : Nat) : It :=
  ⟨fun i H => i < n ∧ ∃ (xs : List V) (x : V), SqT K H a xs ∧ xs.length = n ∧ xs[i]? = some x, fun i H v H' => ∃ T x, v = .ref T ∧ H T = none ∧ H' = L2.upd H T (.tup [.int (i : Nat), x]) ∧ ∀ xs, SqT K H a xs → xs[i]? = some x, fun i H => n ≤ i ∧ ∃ xs : List V, SqT K H a xs ∧ xs.length = n⟩
theorem turn_enumT {P : Program} {w : World} {K : PySem.W.Frag} {elts : List Expr} {kk : Nat} {tpos : Pos} (a e it : Addr) (n : Nat) :
    Turn P w K (.Tuple elts kk tpos) (IteT K a n) [e, it] e (fun i h => i ≤ n ∧ (∃ old, IsEnum h e it ((i : Nat) : Int) old) ∧ h.IsTupleIter it a i ∧ e ≠ it) where
  mem := by simp
  obj := fun i h st b hb => by
    obtain ⟨_, ⟨old, he⟩, ⟨o, ho, hc, hd⟩, _⟩ := st
    have e' : b = e ∨ b = it := by simpa using hb
    rcases e' with z | z
    · rw [z]; exact ⟨_, he, fun v q => nomatch q⟩
    · rw [z]; exact ⟨o, ho, fun v q => by rw [hd] at q; cases q⟩
  keep := fun i h h' st k => let ⟨hin, ⟨old, he⟩, hi, hne⟩ := st; ⟨hin, ⟨old, k e (by simp) _ he⟩, hi.at fun o q => k it (by simp) o q, hne⟩
  item := by
    intro X hP hw hK hc i pins s σ H E I hf st hg
    subst hP hw hK
    obtain ⟨hin, ⟨old, he⟩, hit, hne⟩ := st
    obtain ⟨hlt, xs, x, hq, hxn, hx⟩ := hg
    obtain ⟨its, rv, p, hz⟩ := I.tuple hq
    obtain ⟨u, hu, ru⟩ := rv.get hx
    have hsz0 : its.toArray.size = n := by rw [List.size_toArray, ← rv.length]; exact hxn
    have hel : e < s.heap.objs.size := Heap.lt_size he
    have hil : it < s.heap.objs.size := by obtain ⟨_, q, _⟩ := hit; exact Heap.lt_size q
    have hae : a ≠ e := fun z => by
      obtain ⟨o, ho, hc1, _⟩ := p
      subst z
      have : some o = some _ := ho.symm.trans he
      cases this
      have hc1 : Value.type "enumerate" = Value.type "tuple" := hc1
      exact absurd hc1 (by decide)
    have hai : a ≠ it := fun z => by
      obtain ⟨o, ho, hc1, _⟩ := p
      obtain ⟨o2, ho2, hc2, _⟩ := hit
      subst z
      rw [ho] at ho2
      cases ho2
      rw [hc1] at hc2
      exact absurd hc2 (by decide)
    refine wpAny_pyNext_enum_itemD (Draws.tuple (A := X.A.in1) (show X.A.in1.handled = none from I.ok.hd hc) it a hai its.toArray) he ⟨hit, p⟩ (by omega) hne (by simp [hne, hae.symm]) fun y h' tk hP ho hst hT hsz hk => ?_
    have hy : y = u := by
      have h1 : its.toArray[i]? = some u := by simpa using hu
      exact Option.some.inj (hP.symm.trans h1)
    subst hy
    obtain ⟨hit', _⟩ := hst
    refine ⟨_, rfl, wpAny_letOwnedTupleGo_enum (s := { s with heap := h', toks := tk + 1 }) ho fun h'' he' sb => ?_⟩
    have hT2 : h''.get? s.heap.objs.size = some { cls := .type "tuple", data := .seq #[.int i tk, y] } := (sb.2 _ (Nat.ne_of_gt hel)).trans hT
    have new : ObjOk X.prog X.w (L2.upd H s.heap.objs.size (.tup [.int (i : Nat), x])) h'' s.heap.objs.size (.tup [.int (i : Nat), x]) :=
      ⟨by show 2 ≤ sizeLine; decide, [.int i tk, y], .cons ⟨_, rfl⟩ (.cons ru .nil), ⟨_, hT2, rfl, _, rfl⟩⟩
    have I1 : Inv X pins σ (L2.upd H s.heap.objs.size (.tup [.int (i : Nat), x])) { s with heap := h'', toks := tk + 1 } :=
      I.turnedNew (ch := [e, it]) (fun b ob hb q => (sb.2 b (fun z => hb (by simp [z]))).trans (hk b ob (fun z => hb (by simp [z])) (fun z => hb (by simp [z])) q)) hf (Nat.le_refl _) new
    refine ⟨.ref s.heap.objs.size, _, I1, rfl, ⟨_, x, rfl, I.hok.fresh (Nat.le_refl _), rfl, fun ys hy => by rw [I.tuple_inj hy hq]; exact hx⟩, ⟨hlt, ⟨y, ?_⟩, hit'.at fun o q => (sb.2 it (Ne.symm hne)).trans q, hne⟩, fun b hb => ?_⟩
    · have e1 : ((i + 1 : Nat) : Int) = (i : Int) + 1 := by omega
      rw [e1]; exact he'
    · have hb' : b < s.heap.objs.size := by
        have e' : b = e ∨ b = it := by simpa using hb
        rcases e' with z | z
        · rw [z]; exact hel
        · rw [z]; exact hil
      rw [L2.upd_ne (Nat.ne_of_lt hb')]
      exact (hf b hb).1
  done := by
    intro X hP hw hK hc i pins s σ H E I hf st hg
    subst hP hw hK
    obtain ⟨hin, ⟨old, he⟩, hit, hne⟩ := st
    obtain ⟨hle, xs, hq, hxn⟩ := hg
    have hi : i = n := Nat.le_antisymm hin hle
    subst hi
    obtain ⟨its, rv, p, hz⟩ := I.tuple hq
    obtain ⟨f0, f1, f2, f3, f4, f5⟩ := hf it (by simp)
    have hl : its.toArray.size = i := by rw [List.size_toArray, ← rv.length]; exact hxn
    have hai : a ≠ it := fun z => by
      obtain ⟨o, ho, hc1, _⟩ := p
      obtain ⟨o2, ho2, hc2, _⟩ := hit
      subst z
      rw [ho] at ho2
      cases ho2
      rw [hc1] at hc2
      exact absurd hc2 (by decide)
    exact wpAny_pyNext_enum_endD (Draws.tuple (A := X.A.in1) (show X.A.in1.handled = none from I.ok.hd hc) it a hai its.toArray) he (by rw [hl]; exact ⟨hit, p⟩) fun h' eb => ⟨rfl, I.turned (t' := s.toks) (fun b o hb q => eb b o hb q) f0 f1 f3 f4 f5⟩
  self := fun A i s Q E st h => let ⟨_, ⟨_, he⟩, _⟩ := st; wpAny_pyIter_enum he h
/-- enumerate(x), x a list or a tuple -/
def iEnumA (K : PySem.W.Frag) (te : TE) : TI := fun σ H R => te σ H fun v H1 => ∃ (a : Addr) (xs : List V), v = .ref a ∧ ((SqL K H1 a xs ∧ R (Ite K a) H1) ∨ (SqT K H1 a xs ∧ R (IteT K a xs.length) H1))
theorem pi_enumA {X : Cx} {e : Expr} {te : TE} {p pos tpos : Pos} {elts : List Expr} {kk : Nat} (hg : Gl X "enumerate") (hm : X.mg "enumerate" = none) (he : PE X e te) (hs : starEach [e] X.env = (false, eval e X.env) :: starEach [] X.env := by rfl) :
    PI X (.Tuple elts kk tpos) (.Call (.Name "enumerate" p) [e] [] pos) (iEnumA X.K te) := by
  refine ⟨fun pins s σ H R I h => ?_⟩
  refine Call_ (ld_blt I hg hm boot_enumerate (PyProof.Rows.callWith_type1 (args_cons (thn (he.run pins s σ H _ I h) fun u s1 ⟨v, H1, I1, r1, q1⟩ => args_nil ?_) hs) hs rfl))
  obtain ⟨a, xs, ev, q⟩ := q1
  subst ev
  obtain rfl : u = Value.ref a := r1
  have hpf : ∀ b, b ∈ [s1.heap.objs.size + 1, s1.heap.objs.size] → L2.FpOk X pins H1 b := fun b hb => by
    have e' : b = s1.heap.objs.size + 1 ∨ b = s1.heap.objs.size := by simpa using hb
    have hle : s1.heap.objs.size ≤ b := by
      rcases e' with z | z
      · rw [z]; exact Nat.le_add_right _ _
      · rw [z]; exact Nat.le_refl _
    exact I1.fpOk hle (I1.hok.fresh hle)
  rcases q with ⟨hq, q⟩ | ⟨hq, q⟩
  · obtain ⟨its, rv, p', hz⟩ := I1.list hq
    refine call_enumerate_list p'.isList fun h' he hit hsz hk => wpAny_pyIter_enum he ?_
    have I2 : Inv X pins σ H1 { s1 with heap := h' } := I1.kept (t' := s1.toks) hk
    exact ⟨s1.heap.objs.size + 1, [s1.heap.objs.size + 1, s1.heap.objs.size], _, _, H1, rfl, I2, turn_enum a (s1.heap.objs.size + 1) s1.heap.objs.size, ⟨⟨.none, he⟩, hit, Nat.succ_ne_self _⟩, hpf, q⟩
  · obtain ⟨its, rv, p', hz⟩ := I1.tuple hq
    refine call_enum_tup p' fun h' he hit hsz hk => wpAny_pyIter_enum he ?_
    have I2 : Inv X pins σ H1 { s1 with heap := h' } := I1.kept (t' := s1.toks) hk
    exact ⟨s1.heap.objs.size + 1, [s1.heap.objs.size + 1, s1.heap.objs.size], _, _, H1, rfl, I2, turn_enumT a (s1.heap.objs.size + 1) s1.heap.objs.size xs.length, ⟨Nat.zero_le _, ⟨.none, he⟩, hit, Nat.succ_ne_self _⟩, hpf, q⟩
end DLK
/-! Dicts whose keys are tuples of any depth (without texts), as objects of the hand layer. -/
namespace DLK
open PySem PySem.Spec PyProof.Rows L2
mutual
/-- no text in it -/
def nk0 : NestedKey → Bool
  | .text _ => false
  | .tup ks => nk0s ks
  | .none => true
  | .num _ => true
def nk0s : List NestedKey → Bool
  | [] => true
  | k :: ks => nk0 k && nk0s ks
end
mutual
/-- its hash, in any world -/
def hash0 : NestedKey → Int
  | .none => reduceHash 0xFCA86420
  | .num i => hashInt i
  | .text _ => 0
  | .tup ks => reduceHash (Builtin.Tuple.tupleHashOf (hashes0 ks))
def hashes0 : List NestedKey → List Int
  | [] => []
  | k :: ks => hash0 k :: hashes0 ks
end
mutual
theorem hash0_eq {w : World} : ∀ {k : NestedKey}, nk0 k = true → k.hash w = hash0 k
  | .none, _ => rfl
  | .num _, _ => rfl
  | .text _, h => by simp [nk0] at h
  | .tup ks, h => by
    have h' : nk0s ks = true := by simpa [nk0] using h
    simp only [NestedKey.hash, hash0, hashes0_eq (w := w) h']
theorem hashes0_eq {w : World} : ∀ {ks : List NestedKey}, nk0s ks = true → NestedKey.hashes w ks = hashes0 ks
  | [], _ => rfl
  | k :: ks, h => by
    have h' : nk0 k = true ∧ nk0s ks = true := by simpa [nk0s] using h
    simp only [NestedKey.hashes, hashes0, hash0_eq (w := w) h'.1, hashes0_eq (w := w) h'.2]
end
abbrev XE := NestedKey × Addr × Value
def ent0 (x : XE) : DictEntry := ⟨hash0 x.1, .ref x.2.1, x.2.2⟩
/-- the dict at a with these entries -/
def ND (a : Addr) (xs : List XE) : HO := .ext fun h => xs.length ≤ sizeLine ∧ (a == sysModules) = false ∧ ∃ o es ep, h.get? a = some o ∧ o.ExactDict ∧ o.data = .dict es ep ∧ es.toList = xs.map ent0 ∧ (xs.map (·.1)).Nodup
section
variable {P : Program} {w : World} {H : Hp} {h : Heap} {a : Addr} {xs : List XE}
theorem ents {w : World} {xs : List XE} (h : ∀ x ∈ xs, nk0 x.1 = true) : xs.map (entryOfKey (nestedKind P w)) = xs.map ent0 := List.map_congr_left fun x hx => by
  show (⟨x.1.hash w, _, _⟩ : DictEntry) = ⟨hash0 x.1, _, _⟩
  rw [hash0_eq (h x hx)]
theorem nd_mk {h : Heap} (z : xs.length ≤ sizeLine) (hd : (a == sysModules) = false) (n0 : ∀ x ∈ xs, nk0 x.1 = true) (dd : h.DictOfH (nestedKind P w) a xs) : ObjOk P w H h a (ND a xs) := by
  obtain ⟨o, es, ep, h1, h2, h3, h4, _, h5⟩ := dd
  refine ⟨⟨z, hd, o, es, ep, h1, h2, h3, by rw [h4, ents n0], h5⟩, ⟨o, h1⟩, fun h1 h2 ⟨z, hd, o, es, ep, e1, e2, e3, e4, e5⟩ k => ⟨z, hd, o, es, ep, k _ e1, e2, e3, e4, e5⟩⟩
theorem nd_of (ok : HOk P w H h) (e : H a = some (ND a xs)) (n0 : ∀ x ∈ xs, nk0 x.1 = true) (ks : ∀ x ∈ xs, (nestedKind P w).is h x.1 x.2.1) : xs.length ≤ sizeLine ∧ (a == sysModules) = false ∧ h.DictOfH (nestedKind P w) a xs := by
  obtain ⟨⟨z, hd, o, es, ep, e1, e2, e3, e4, e5⟩, _⟩ := (show ObjOk P w H h a (ND a xs) from ok a _ e)
  exact ⟨z, hd, o, es, ep, e1, e2, e3, by rw [e4, ents n0], ks, e5⟩
end
section
variable {X : Cx} {pins : List (Addr × Obj)} {σ : L2.St} {H : Hp} {s : Shared} {a b : Addr} {xs : List XE} {k : NestedKey} {r : Value} {A : Around} {E : Value → Shared → Prop}
/-- what is asked of a dict and a key -/
structure DkN (X : Cx) (s : Shared) (a : Addr) (xs : List XE) (k : NestedKey) (b : Addr) : Prop where
  dd : s.heap.DictOfH (nestedKind X.prog X.w) a xs
  z : xs.length ≤ sizeLine
  sm : (a == sysModules) = false
  n0 : ∀ x ∈ xs, nk0 x.1 = true
  k0 : nk0 k = true
  key : (nestedKind X.prog X.w).is s.heap k b
theorem DkN.room {A : Around} (hu : A.units + 10 < cLine) : A.in1.units + 8 < cLine := by rw [Around.in1_units]; omega
theorem n_get {p : Addr × Value} {Q : Value → Shared → Prop} (hu : A.units + 10 < cLine) (I : Inv X pins σ H s) (d : DkN X s a xs k b) (l : atKey xs k = some p) (h : ∀ s', Inv X pins σ H s' → Q p.2 s') :
    wpAny (model X.prog X.w) A (getItem (.ref a) (.ref b)) Q E s :=
  wpAny_getItem_heap (knd := nestedKind X.prog X.w) (DkN.room hu) d.key d.dd l (h _ (I.tok _))
theorem n_in {Q : Value → Shared → Prop} (hu : A.units + 10 < cLine) (I : Inv X pins σ H s) (d : DkN X s a xs k b) (h : ∀ s', Inv X pins σ H s' → Q (.bool (atKey xs k).isSome) s') :
    wpAny (model X.prog X.w) A (compareOp .In (.ref b) (.ref a)) Q E s :=
  wpAny_in_heap (knd := nestedKind X.prog X.w) (DkN.room hu) d.key d.sm d.dd (h _ (I.tok _))
theorem n_notIn {Q : Value → Shared → Prop} (hu : A.units + 10 < cLine) (I : Inv X pins σ H s) (d : DkN X s a xs k b) (h : ∀ s', Inv X pins σ H s' → Q (.bool (!(atKey xs k).isSome)) s') :
    wpAny (model X.prog X.w) A (compareOp .NotIn (.ref b) (.ref a)) Q E s :=
  wpAny_notIn_heap (knd := nestedKind X.prog X.w) (DkN.room hu) d.key d.sm d.dd (h _ (I.tok _))
theorem stored_n0 {k : NestedKey} {b : Addr} {r : Value} (n0 : ∀ x ∈ xs, nk0 x.1 = true) (k0 : nk0 k = true) : ∀ x ∈ storedH xs k b r, nk0 x.1 = true := by
  intro x hx
  unfold storedH at hx
  split at hx
  · obtain ⟨y, hy, rfl⟩ := List.mem_map.mp hx
    unfold putAt
    split
    · exact n0 y hy
    · exact n0 y hy
  · rcases List.mem_append.mp hx with z | z
    · exact n0 x z
    · rw [List.mem_singleton.mp z]; exact k0
theorem stored_len : (storedH xs k b r).length ≤ xs.length + 1 := by
  unfold storedH
  split
  · rw [List.length_map]; omega
  · rw [List.length_append, List.length_cons, List.length_nil]; omega
theorem n_set {Q : Unit → Shared → Prop} (hu : A.units + 10 < cLine) (I : Inv X pins σ H s) (mu : Mut (H a)) (d : DkN X s a xs k b) (l : xs.length < sizeLine)
    (h : ∀ s', Inv X pins σ (L2.upd H a (ND a (storedH xs k b r))) s' → Q () s') : wpAny (model X.prog X.w) A (setItem (.ref a) (.ref b) r) Q E s := by
  refine wpAny_setItem_heap (knd := nestedKind X.prog X.w) (hsz := d.z) (DkN.room hu) d.key d.dd fun h' dd' hs => h _ ?_
  have he : ∃ q, h'.get? a = some q := let ⟨q, _, _, hq, _⟩ := dd'; ⟨q, hq⟩
  refine d_write I mu hs he (nd_mk ?_ d.sm (stored_n0 d.n0 d.k0) dd')
  have := stored_len (xs := xs) (k := k) (b := b) (r := r)
  omega
theorem n_get2 {Q : Value → Shared → Prop} {x : Value} (hu : A.units + 10 < cLine) (I : Inv X pins σ H s) (d : DkN X s a xs k b) (h : ∀ s', Inv X pins σ H s' → Q (((atKey xs k).map (·.2)).getD x) s') :
    wpAny (model X.prog X.w) A (call (.builtin "dict.get") [.ref a, .ref b, x]) Q E s := by
  refine getOr_keyed (knd := nestedKind X.prog X.w) (DkN.room hu) d.key d.sm ⟨xs, d.dd, rfl⟩ ?_
  rw [valueAt_pairsH]
  exact h _ (I.tok _)
theorem n_get1 {Q : Value → Shared → Prop} (hu : A.units + 10 < cLine) (I : Inv X pins σ H s) (d : DkN X s a xs k b) (h : ∀ s', Inv X pins σ H s' → Q (((atKey xs k).map (·.2)).getD .none) s') :
    wpAny (model X.prog X.w) A (call (.builtin "dict.get") [.ref a, .ref b]) Q E s := by
  refine get_keyed (knd := nestedKind X.prog X.w) (DkN.room hu) d.key d.sm ⟨xs, d.dd, rfl⟩ ?_
  rw [valueAt_pairsH]
  exact h _ (I.tok _)
/-- the empty dict is of both kinds -/
theorem n_empty (I : Inv X pins σ H s) (e : H a = some (.dK [])) : s.heap.DictOfH (nestedKind X.prog X.w) a [] ∧ (a == sysModules) = false := by
  obtain ⟨z, hd, vs, rel, dd⟩ := dk_of I.hok e
  have hv : vs = [] := by cases rel; rfl
  subst hv
  obtain ⟨o, es, ep, h1, h2, h3, _, h4, h5⟩ := dd
  have h4 : es.toList = [] := by
    generalize es.toList = l at h4
    cases h4; rfl
  exact ⟨⟨o, es, ep, h1, h2, h3, h4, (fun x hx => nomatch hx), List.nodup_nil⟩, hd⟩
end
end DLK
/-! Soundness of the small language over the hand layer: what stands for what. -/
namespace DL
open PySem PySem.Spec PyProof.Rows L2

/-- a list that nobody writes -/
def FzL (K : PySem.W.Frag) (H : Hp) (a : Addr) (vs : List V) : Prop := (∃ o, H a = some (.frz o (.lst vs))) ∨
  ∃ (o : Obj) (its : Array Value) (n : Nat), K.lookup a = some o ∧ o.cls = .type "list" ∧ o.dict = none ∧ o.data = .seq its n ∧ its.size ≤ sizeLine ∧ Vals vs its.toList
theorem FzL.sq {K : PySem.W.Frag} {H : Hp} {a : Addr} {vs : List V} (h : FzL K H a vs) : SqL K H a vs := by
  rcases h with ⟨o, h⟩ | h
  · exact .inl (.inr ⟨o, h⟩)
  · exact .inr h
/-- the keys of dicts -/
def D.pk : D → Option L2.Key
  | .int i => some (.inl i)
  | .str x => some (.inr x)
  | _ => none
mutual
def D.nk : D → NestedKey
  | .int i => .num i
  | .tup xs => .tup (D.nks xs)
  | _ => .none
def D.nks : List D → List NestedKey
  | [] => []
  | x :: xs => x.nk :: D.nks xs
end
section
variable (K : PySem.W.Frag) (H : Hp)
mutual
/-- a value of the layer stands for a datum -/
def Rep : D → V → Prop
  | .non, v => v = .non
  | .bl b, v => v = .bl b
  | .int i, v => v = .int i
  | .str x, v => v = .str x
  | .tup ds, v => ∃ a vs, v = .ref a ∧ SqT K H a vs ∧ Reps ds vs
  | .ref a, v => v = .ref a
  | .rl ds, v => ∃ a vs, v = .ref a ∧ FzL K H a vs ∧ Reps ds vs
def Reps : List D → List V → Prop
  | [], vs => vs = []
  | d :: ds, vs => ∃ v r, vs = v :: r ∧ Rep d v ∧ Reps ds r
end
/-- what stands at an address -/
def OOk (a : Addr) : MO → Prop
  | .lst xs => ∃ vs, H a = some (.lst vs) ∧ Reps K H xs vs
  | .dct es => (∃ kvs : List (L2.Key × V), H a = some (.dK kvs) ∧ Paired (fun (p : D × D) (q : L2.Key × V) => p.1.pk = some q.1 ∧ Rep K H p.2 q.2) es kvs) ∨
      (es ≠ [] ∧ ∃ xs : List DLK.XE, H a = some (DLK.ND a xs) ∧ Paired (fun (p : D × D) (q : DLK.XE) => p.1.kt 8 = true ∧ p.1.nk = q.1 ∧ Rep K H p.1 (.ref q.2.1) ∧ ∃ v, RelV v q.2.2 ∧ Rep K H p.2 v) es xs)
def MemOk (M : Mem) : Prop := ∀ a o, M a = some o → OOk K H a o
end
def Ext (env : Env) (H : Hp) (M : Mem) (H' : Hp) (M' : Mem) : Prop :=
  ∀ a o, H a = some o → M a = none → (∀ (i : Nat) q o', env[i]? = some (.own q o') → q ≠ a) → H' a = some o ∧ M' a = none
def BO (B : Hp) (H : Hp) (env : Env) (M : Mem) : Prop :=
  ∀ a o, B a = some o → H a = some o ∧ M a = none ∧ ∀ (i : Nat) q o', env[i]? = some (.own q o') → q ≠ a
def BR (B : Hp) (H : Hp) (M : Mem) : Prop := ∀ a o, B a = some o → H a = some o ∧ M a = none
/-- tuples stay -/
def Tm (K : PySem.W.Frag) (H H' : Hp) : Prop := ∀ a vs, (SqT K H a vs → SqT K H' a vs) ∧ (FzL K H a vs → FzL K H' a vs)
def Alc (H H' : Hp) : Prop := ∀ a o, H a = some o → H' a = some o

structure StE (K : PySem.W.Frag) (σ : L2.St) (H : Hp) (env : Env) (M : Mem) : Prop where
  len : env.length = σ.length
  vals : ∀ (i : Nat) d, env[i]? = some (.val d) → ∃ v, σ[i]? = some (some v) ∧ Rep K H d v
  owns : ∀ (i : Nat) p o, env[i]? = some (.own p o) → σ[i]? = some (some (.ref p)) ∧ OOk K H p o ∧ M p = none
  inj : ∀ (i j : Nat) p o o', env[i]? = some (.own p o) → env[j]? = some (.own p o') → i = j
  mem : MemOk K H M

section
variable {K : PySem.W.Frag} {H H' H'' : Hp} {M M' M'' : Mem} {env : Env} {σ : L2.St}
mutual
theorem Rep.mono (t : Tm K H H') : ∀ {d : D} {v : V}, Rep K H d v → Rep K H' d v
  | .non, _, r => r
  | .bl _, _, r => r
  | .int _, _, r => r
  | .str _, _, r => r
  | .ref _, _, r => r
  | .tup ds, _, r => by
    obtain ⟨a, vs, e, h, q⟩ := r
    exact ⟨a, vs, e, (t a vs).1 h, Reps.mono t q⟩
  | .rl ds, _, r => by
    obtain ⟨a, vs, e, h, q⟩ := r
    exact ⟨a, vs, e, (t a vs).2 h, Reps.mono t q⟩
theorem Reps.mono (t : Tm K H H') : ∀ {ds : List D} {vs : List V}, Reps K H ds vs → Reps K H' ds vs
  | [], _, r => r
  | _ :: _, _, r => by
    obtain ⟨v, r', e, h, q⟩ := r
    exact ⟨v, r', e, Rep.mono t h, Reps.mono t q⟩
end
theorem Reps.length : ∀ {ds : List D} {vs : List V}, Reps K H ds vs → ds.length = vs.length
  | [], _, r => by cases r; rfl
  | _ :: _, _, r => by
    obtain ⟨v, r', rfl, _, q⟩ := r
    simp [Reps.length q]
theorem Reps.get : ∀ {ds : List D} {vs : List V} {i : Nat} {d : D}, Reps K H ds vs → ds[i]? = some d → ∃ v, vs[i]? = some v ∧ Rep K H d v
  | [], _, _, _, _, e => by simp at e
  | _ :: _, _, 0, _, r, e => by
    obtain ⟨v, r', rfl, h, _⟩ := r
    simp at e; subst e
    exact ⟨v, rfl, h⟩
  | _ :: _, _, i + 1, _, r, e => by
    obtain ⟨v, r', rfl, _, q⟩ := r
    obtain ⟨u, h1, h2⟩ := Reps.get (i := i) q (by simpa using e)
    exact ⟨u, by simpa using h1, h2⟩
theorem Reps.get' : ∀ {ds : List D} {vs : List V} {i : Nat} {v : V}, Reps K H ds vs → vs[i]? = some v → ∃ d, ds[i]? = some d ∧ Rep K H d v
  | [], _, _, _, r, e => by cases r; simp at e
  | d :: _, _, 0, _, r, e => by
    obtain ⟨v, r', rfl, h, _⟩ := r
    simp at e; subst e
    exact ⟨d, rfl, h⟩
  | _ :: _, _, i + 1, _, r, e => by
    obtain ⟨v, r', rfl, _, q⟩ := r
    obtain ⟨u, h1, h2⟩ := Reps.get' (i := i) q (by simpa using e)
    exact ⟨u, by simpa using h1, h2⟩
theorem Reps.set {d : D} {v : V} (h : Rep K H d v) : ∀ {ds : List D} {vs : List V} (i : Nat), Reps K H ds vs → Reps K H (ds.set i d) (vs.set i v)
  | [], _, _, r => by cases r; exact rfl
  | _ :: _, _, 0, r => by
    obtain ⟨u, r', rfl, _, q⟩ := r
    exact ⟨v, r', rfl, h, q⟩
  | _ :: _, _, i + 1, r => by
    obtain ⟨u, r', rfl, k, q⟩ := r
    exact ⟨u, r'.set i v, rfl, k, Reps.set h i q⟩
theorem Reps.append : ∀ {ds es : List D} {vs us : List V}, Reps K H ds vs → Reps K H es us → Reps K H (ds ++ es) (vs ++ us)
  | [], _, _, _, r, s => by cases r; exact s
  | _ :: _, _, _, _, r, s => by
    obtain ⟨v, r', rfl, h, q⟩ := r
    exact ⟨v, _, rfl, h, Reps.append q s⟩
theorem Reps.take : ∀ {ds : List D} {vs : List V} (n : Nat), Reps K H ds vs → Reps K H (ds.take n) (vs.take n)
  | _, _, 0, _ => rfl
  | [], _, _ + 1, r => by cases r; exact rfl
  | _ :: _, _, n + 1, r => by
    obtain ⟨v, r', rfl, h, q⟩ := r
    exact ⟨v, _, rfl, h, Reps.take n q⟩
theorem Reps.drop : ∀ {ds : List D} {vs : List V} (n : Nat), Reps K H ds vs → Reps K H (ds.drop n) (vs.drop n)
  | _, _, 0, r => r
  | [], _, _ + 1, r => by cases r; exact rfl
  | _ :: _, _, n + 1, r => by
    obtain ⟨v, r', rfl, h, q⟩ := r
    exact Reps.drop n q
theorem Reps.cut {ds : List D} {vs : List V} (lo hi : Option Int) (r : Reps K H ds vs) : Reps K H (cutD ds lo hi) (cutV vs lo hi) := by
  unfold cutD cutV
  rw [r.length]
  exact (r.drop _).take _
theorem Reps.dropLast {ds : List D} {vs : List V} (r : Reps K H ds vs) : Reps K H ds.dropLast vs.dropLast := by
  rw [List.dropLast_eq_take, List.dropLast_eq_take, r.length]
  exact r.take _
theorem Reps.reverse : ∀ {ds : List D} {vs : List V}, Reps K H ds vs → Reps K H ds.reverse vs.reverse
  | [], _, r => by cases r; exact rfl
  | _ :: _, _, r => by
    obtain ⟨v, r', rfl, h, q⟩ := r
    rw [List.reverse_cons, List.reverse_cons]
    exact Reps.append (Reps.reverse q) ⟨v, [], rfl, h, rfl⟩
theorem Reps.atI {ds : List D} {vs : List V} {i : Int} {d : D} (r : Reps K H ds vs) (h : atI ds i = some d) : ∃ v, L2.atI vs i = some v ∧ Rep K H d v := by
  unfold L2.atI at h ⊢
  rw [← r.length]
  cases e : ixN ds.length i with
  | none => rw [e] at h; simp at h
  | some j =>
    rw [e] at h
    exact r.get h

theorem upd_self {M : Mem} {p : Nat} {o : MO} : upd M p o p = some o := by unfold upd; rw [if_pos rfl]
theorem upd_other {M : Mem} {p q : Nat} {o : MO} (h : q ≠ p) : upd M p o q = M q := by unfold upd; rw [if_neg h]
theorem drp_self {M : Mem} {p : Nat} : drp M p p = none := by unfold drp; rw [if_pos rfl]
theorem drp_other {M : Mem} {p q : Nat} (h : q ≠ p) : drp M p q = M q := by unfold drp; rw [if_neg h]

theorem Alc.refl : Alc H H := fun _ _ h => h
theorem Alc.trans (a : Alc H H') (b : Alc H' H'') : Alc H H'' := fun x o h => b x o (a x o h)
theorem Alc.new {p : Addr} {o : HO} (h : H p = none) : Alc H (L2.upd H p o) := fun a u e => by
  rw [L2.upd_ne (ne_of_none e h)]; exact e
theorem tm_mk (h1 : ∀ a vs, H a = some (.tup vs) → H' a = some (.tup vs)) (h2 : ∀ a o vs, H a = some (.frz o (.tup vs)) → H' a = some (.frz o (.tup vs))) (h3 : ∀ a o vs, H a = some (.frz o (.lst vs)) → H' a = some (.frz o (.lst vs))) : Tm K H H' := fun a vs => by
  refine ⟨fun h => ?_, fun h => ?_⟩
  · rcases h with (h | ⟨o, h⟩) | h
    · exact .inl (.inl (h1 _ _ h))
    · exact .inl (.inr ⟨o, h2 _ _ _ h⟩)
    · exact .inr h
  · rcases h with ⟨o, h⟩ | h
    · exact .inl ⟨o, h3 _ _ _ h⟩
    · exact .inr h
theorem Alc.tm (a : Alc H H') : Tm K H H' := tm_mk (fun _ _ h => a _ _ h) (fun _ _ _ h => a _ _ h) (fun _ _ _ h => a _ _ h)
theorem Tm.refl : Tm K H H := fun _ _ => ⟨fun h => h, fun h => h⟩
theorem Tm.trans (a : Tm K H H') (b : Tm K H' H'') : Tm K H H'' := fun x vs => ⟨fun h => (b x vs).1 ((a x vs).1 h), fun h => (b x vs).2 ((a x vs).2 h)⟩
theorem OOk.step {a : Addr} {o : MO} (e : ∀ u, H a = some u → H' a = some u) (t : Tm K H H') (h : OOk K H a o) : OOk K H' a o := by
  cases o with
  | lst xs => obtain ⟨vs, h1, h2⟩ := h; exact ⟨vs, e _ h1, h2.mono t⟩
  | dct es =>
    rcases h with ⟨kvs, h1, h2⟩ | ⟨h0, xs, h1, h2⟩
    · exact .inl ⟨kvs, e _ h1, L2.Paired.mapP h2 fun p q z => ⟨z.1, z.2.mono t⟩⟩
    · exact .inr ⟨h0, xs, e _ h1, L2.Paired.mapP h2 fun p q ⟨z1, z2, z3, v, z4, z5⟩ => ⟨z1, z2, z3.mono t, v, z4, z5.mono t⟩⟩
/-- it is no tuple, and nothing locked -/
theorem OOk.notTup {a : Addr} {o : MO} (h : OOk K H a o) : (∀ vs, H a ≠ some (.tup vs)) ∧ (∀ ob u, H a ≠ some (.frz ob u)) ∧ H a ≠ none := by
  have go : ∀ u, H a = some u → (∀ vs, u ≠ .tup vs) → (∀ ob w, u ≠ .frz ob w) → (∀ vs, H a ≠ some (.tup vs)) ∧ (∀ ob w, H a ≠ some (.frz ob w)) ∧ H a ≠ none := fun u e h1 h2 => by
    rw [e]
    refine ⟨fun vs z => h1 vs ?_, fun ob w z => h2 ob w ?_, fun z => ?_⟩
    · exact Option.some.inj z
    · exact Option.some.inj z
    · cases z
  cases o with
  | lst xs =>
    obtain ⟨vs, h1, h2⟩ := h
    exact go _ h1 (fun _ z => by cases z) (fun _ _ z => by cases z)
  | dct es =>
    rcases h with ⟨kvs, h1, h2⟩ | ⟨h0, xs, h1, h2⟩
    · exact go _ h1 (fun _ z => by cases z) (fun _ _ z => by cases z)
    · exact go _ h1 (fun _ z => by unfold DLK.ND at z; cases z) (fun _ _ z => by unfold DLK.ND at z; cases z)
theorem MemOk.alc (a : Alc H H') (h : MemOk K H M) : MemOk K H' M := fun p o e => (h p o e).step (fun u q => a _ _ q) a.tm
theorem StE.alc (a : Alc H H') (s : StE K σ H env M) : StE K σ H' env M where
  len := s.len
  vals := fun i d e => by obtain ⟨v, h1, h2⟩ := s.vals i d e; exact ⟨v, h1, h2.mono a.tm⟩
  owns := fun i p o e => by obtain ⟨h1, h2, h3⟩ := s.owns i p o e; exact ⟨h1, h2.step (fun u q => a _ _ q) a.tm, h3⟩
  inj := s.inj
  mem := s.mem.alc a
theorem StE.fresh (s : StE K σ H env M) {p : Addr} (h : H p = none) : M p = none := by
  cases e : M p with
  | none => rfl
  | some o => exact absurd h (s.mem p o e).notTup.2.2
theorem MemOk.fresh (s : MemOk K H M) {p : Addr} (h : H p = none) : M p = none := by
  cases e : M p with
  | none => rfl
  | some o => exact absurd h (s p o e).notTup.2.2
theorem Ext.refl : Ext env H M H M := fun a o h n _ => ⟨h, n⟩
theorem Ext.trans (a : Ext env H M H' M') (b : Ext env H' M' H'' M'') : Ext env H M H'' M'' := fun x o h n k =>
  let ⟨h1, h2⟩ := a x o h n k
  b x o h1 h2 k
theorem Ext.alc (a : Alc H H') : Ext env H M H' M := fun x o h n _ => ⟨a _ _ h, n⟩
theorem Ext.tm (s : StE K σ H env M) (x : Ext env H M H' M') : Tm K H H' := by
  have go : ∀ a u, H a = some u → (∀ o, ¬ OOk K H a o) → H' a = some u := fun a u e n => (x a u e (by
    cases q : M a with
    | none => rfl
    | some o => exact absurd (s.mem a o q) (n o)) (fun i q o' e' z => by subst z; exact n o' (s.owns i q o' e').2.1)).1
  exact tm_mk (fun a vs h => go a _ h fun o q => q.notTup.1 vs h) (fun a o vs h => go a _ h fun o' q => q.notTup.2.1 o _ h) (fun a o vs h => go a _ h fun o' q => q.notTup.2.1 o _ h)
theorem Ext.tm0 (s : MemOk K H M) (x : Ext [] H M H' M') : Tm K H H' := by
  have go : ∀ a u, H a = some u → (∀ o, ¬ OOk K H a o) → H' a = some u := fun a u e n => (x a u e (by
    cases q : M a with
    | none => rfl
    | some o => exact absurd (s a o q) (n o)) (fun i q o' e' z => by simp at e')).1
  exact tm_mk (fun a vs h => go a _ h fun o q => q.notTup.1 vs h) (fun a o vs h => go a _ h fun o' q => q.notTup.2.1 o _ h) (fun a o vs h => go a _ h fun o' q => q.notTup.2.1 o _ h)
/-- a new list goes into the memory -/
theorem StE.put {p : Addr} {xs : List D} {vs : List V} (s : StE K σ H env M) (h : H p = some (.lst vs)) (r : Reps K H xs vs) (n : M p = none) (no : ∀ (i : Nat) q o', env[i]? = some (.own q o') → q ≠ p) : StE K σ H env (upd M p (.lst xs)) where
  len := s.len
  vals := s.vals
  owns := fun i q o e => by
    obtain ⟨h1, h2, h3⟩ := s.owns i q o e
    exact ⟨h1, h2, by rw [upd_other (no i q o e)]; exact h3⟩
  inj := s.inj
  mem := fun a o e => by
    by_cases hp : a = p
    · subst hp; rw [upd_self] at e; cases e; exact ⟨vs, h, r⟩
    · rw [upd_other hp] at e; exact s.mem a o e
theorem upd_tm {p : Addr} {o : HO} (h : ∀ vs, H p ≠ some (.tup vs)) (h2 : ∀ ob u, H p ≠ some (.frz ob u)) : Tm K H (L2.upd H p o) :=
  tm_mk (fun a vs q => by rw [L2.upd_ne (fun z => by subst z; exact h vs q)]; exact q) (fun a ob vs q => by rw [L2.upd_ne (fun z => by subst z; exact h2 ob _ q)]; exact q) (fun a ob vs q => by rw [L2.upd_ne (fun z => by subst z; exact h2 ob _ q)]; exact q)
/-- a list of the memory is written -/
theorem StE.write {p : Addr} {o : MO} {vs vs' : List V} {xs' : List D} (s : StE K σ H env M) (h : H p = some (.lst vs)) (hm : M p = some o) (r : Reps K H xs' vs') :
    StE K σ (L2.upd H p (.lst vs')) env (upd M p (.lst xs')) := by
  have t : Tm K H (L2.upd H p (.lst vs')) := upd_tm (fun _ z => by rw [h] at z; cases z) fun _ _ z => by rw [h] at z; cases z
  refine ⟨s.len, fun i d e => ?_, fun i q o' e => ?_, s.inj, fun a u e => ?_⟩
  · obtain ⟨v, h1, h2⟩ := s.vals i d e; exact ⟨v, h1, h2.mono t⟩
  · obtain ⟨h1, h2, h3⟩ := s.owns i q o' e
    have ne : q ≠ p := fun z => by subst z; rw [hm] at h3; cases h3
    exact ⟨h1, h2.step (fun u e => by rw [L2.upd_ne ne]; exact e) t, by rw [upd_other ne]; exact h3⟩
  · by_cases hp : a = p
    · subst hp; rw [upd_self] at e; cases e; exact ⟨vs', L2.upd_same, r.mono t⟩
    · rw [upd_other hp] at e; exact (s.mem a u e).step (fun u e => by rw [L2.upd_ne hp]; exact e) t
/-- an object goes into the memory, is written -/
theorem StE.putO {p : Addr} {o : MO} (s : StE K σ H env M) (h : OOk K H p o) (n : M p = none) (no : ∀ (i : Nat) q o', env[i]? = some (.own q o') → q ≠ p) : StE K σ H env (upd M p o) where
  len := s.len
  vals := s.vals
  owns := fun i q o e => by
    obtain ⟨h1, h2, h3⟩ := s.owns i q o e
    exact ⟨h1, h2, by rw [upd_other (no i q o e)]; exact h3⟩
  inj := s.inj
  mem := fun a o e => by
    by_cases hp : a = p
    · subst hp; rw [upd_self] at e; cases e; exact h
    · rw [upd_other hp] at e; exact s.mem a o e
theorem StE.tmO {p : Addr} {o : MO} {ho : HO} (s : StE K σ H env M) (hm : M p = some o) : Tm K H (L2.upd H p ho) := upd_tm (s.mem p o hm).notTup.1 (s.mem p o hm).notTup.2.1
theorem StE.writeO {p : Addr} {o o' : MO} {ho : HO} (s : StE K σ H env M) (hm : M p = some o) (new : OOk K (L2.upd H p ho) p o') : StE K σ (L2.upd H p ho) env (upd M p o') := by
  have t : Tm K H (L2.upd H p ho) := s.tmO hm
  refine ⟨s.len, fun i d e => ?_, fun i q o' e => ?_, s.inj, fun a u e => ?_⟩
  · obtain ⟨v, h1, h2⟩ := s.vals i d e; exact ⟨v, h1, h2.mono t⟩
  · obtain ⟨h1, h2, h3⟩ := s.owns i q o' e
    have ne : q ≠ p := fun z => by subst z; rw [hm] at h3; cases h3
    exact ⟨h1, h2.step (fun u e => by rw [L2.upd_ne ne]; exact e) t, by rw [upd_other ne]; exact h3⟩
  · by_cases hp : a = p
    · subst hp; rw [upd_self] at e; cases e; exact new
    · rw [upd_other hp] at e; exact (s.mem a u e).step (fun u e => by rw [L2.upd_ne hp]; exact e) t
/-- less is remembered -/
theorem Sub.refl : Sub M M := fun _ _ h => h
theorem Sub.trans (a : Sub M M') (b : Sub M' M'') : Sub M M'' := fun x o h => b x o (a x o h)
theorem Sub.none {p : Nat} (s : Sub M' M) (h : M p = none) : M' p = none := by
  cases e : M' p with
  | none => rfl
  | some o => rw [s p o e] at h; cases h
theorem StE.sub (b : Sub M' M) (s : StE K σ H env M) : StE K σ H env M' where
  len := s.len
  vals := s.vals
  owns := fun i p o e => by obtain ⟨h1, h2, h3⟩ := s.owns i p o e; exact ⟨h1, h2, b.none h3⟩
  inj := s.inj
  mem := fun a o e => s.mem a o (b a o e)
theorem Sub.drp {p : Nat} : Sub (drp M p) M := fun a o e => by
  by_cases h : a = p
  · subst h; rw [drp_self] at e; cases e
  · rw [drp_other h] at e; exact e
end

/-! ### readings -/
abbrev RXT := Hp → Value → Option Addr → Xn → Prop
section
variable (K : PySem.W.Frag) (RX : RXT) (W : WX)
def postE (σ : L2.St) (H : Hp) (env : Env) (M : Mem) (Q : VK) : QE := fun d M' => ∀ v H', Ext env H M H' M' → StE K σ H' env M' → Rep K H' d v → Q v H'
def postX (σ : L2.St) (H : Hp) (env : Env) (M : Mem) : QX := fun x M' => ∀ c dd H', Ext env H M H' M' → StE K σ H' env M' → RX H' c dd x → W c dd σ H'
def liftE (t : Env → Mem → QE → QX → Prop) : TE := fun σ H Q => ∃ env M, StE K σ H env M ∧ t env M (postE K σ H env M Q) (postX K RX W σ H env M)
def liftT (t : Env → Mem → (Bool → Mem → Prop) → QX → Prop) : TT := fun σ H Q => ∃ env M, StE K σ H env M ∧
  t env M (fun b M' => ∀ H', Ext env H M H' M' → StE K σ H' env M' → Q b H') (postX K RX W σ H env M)
def liftA (t : Env → Mem → QL → QX → Prop) : TA := fun σ H Q => ∃ env M, StE K σ H env M ∧
  t env M (fun ds M' => ∀ vs H', Ext env H M H' M' → StE K σ H' env M' → Reps K H' ds vs → Q vs H') (postX K RX W σ H env M)
/-- a list that may be read -/
def liftL (t : Env → Mem → QL → QX → Prop) : TE := fun σ H Q => ∃ env M, StE K σ H env M ∧
  t env M (fun xs M' => ∀ p vs H', Ext env H M H' M' → StE K σ H' env M' → SqL K H' p vs → Reps K H' xs vs → Q (.ref p) H') (postX K RX W σ H env M)
/-- a new list: of its own -/
def liftN (t : Env → Mem → QL → QX → Prop) : TE := fun σ H Q => ∃ env M, StE K σ H env M ∧
  t env M (fun xs M' => ∀ p vs H', Ext env H M H' M' → StE K σ H' env M' → H' p = some (.lst vs) → Reps K H' xs vs → M' p = none → (M p = none → H p = none) → (∀ (i : Nat) q o', env[i]? = some (.own q o') → q ≠ p) → Q (.ref p) H') (postX K RX W σ H env M)
end
end DL
/-! Soundness: expressions. -/
namespace DL
open PySem PySem.Spec PyProof.Rows L2

section
variable {X : Cx} {RX : RXT} {W : WX} {F : FS}
theorem PE.imp {e : Expr} {t t' : TE} (h : PE X e t) (w : ∀ σ H Q, t' σ H Q → t σ H Q) : PE X e t' := ⟨fun pins s σ H Q I q => h.run pins s σ H Q I (w σ H Q q)⟩
theorem PT.imp {e : Expr} {t t' : TT} (h : PT X e t) (w : ∀ σ H Q, t' σ H Q → t σ H Q) : PT X e t' := ⟨fun pins s σ H Q I q => h.run pins s σ H Q I (w σ H Q q)⟩
theorem PS.imp {e : Stmt} {t t' : TS} (h : PS X e t) (w : ∀ D σ H, t' D σ H → t D σ H) : PS X e t' := ⟨fun pins s σ H D I q => h.run pins s σ H D I (w D σ H q)⟩
theorem PSs.imp {e : List Stmt} {t t' : TS} (h : PSs X e t) (w : ∀ D σ H, t' D σ H → t D σ H) : PSs X e t' := ⟨fun pins s σ H D I q => h.run pins s σ H D I (w D σ H q)⟩
theorem PA.imp {e : List Expr} {t t' : TA} (h : PA X e t) (w : ∀ σ H Q, t' σ H Q → t σ H Q) : PA X e t' := ⟨fun pos pins s σ H Q I q => h.run pos pins s σ H Q I (w σ H Q q)⟩
theorem PI.imp {tg e : Expr} {t t' : TI} (h : PI X tg e t) (w : ∀ σ H Q, t' σ H Q → t σ H Q) : PI X tg e t' := ⟨fun pins s σ H Q I q => h.run pins s σ H Q I (w σ H Q q)⟩
theorem PO.imp {e : Option Expr} {t t' : TO} (h : PO X e t) (w : ∀ σ H Q, t' σ H Q → t σ H Q) : PO X e t' := ⟨fun pins s σ H Q I q => h.run pins s σ H Q I (w σ H Q q)⟩

variable {K : PySem.W.Frag} {σ : L2.St} {H H1 H2 : Hp} {env : Env} {M M1 M2 : Mem} {Q : VK}
/-- further on -/
theorem postE.go (x : Ext env H M H1 M1) {d : D} {M' : Mem} (h : postE K σ H env M Q d M') : postE K σ H1 env M1 Q d M' := fun v H' x' s' r => h v H' (x.trans x') s' r
theorem postX.go (x : Ext env H M H1 M1) {y : Xn} {M' : Mem} (h : postX K RX W σ H env M y M') : postX K RX W σ H1 env M1 y M' := fun v d H' x' s' r => h v d H' (x.trans x') s' r
theorem postE.at (s : StE K σ H env M) {d : D} {v : V} (r : Rep K H d v) (h : postE K σ H env M Q d M) : Q v H := h v H Ext.refl s r
theorem postE.alc (s : StE K σ H env M) {d : D} {v : V} {H' : Hp} (a : Alc H H') (r : Rep K H' d v) (h : postE K σ H env M Q d M) : Q v H' := h v H' (Ext.alc a) (s.alc a) r

/-! ### names and constants -/
theorem je_var {i : Nat} {x : Str} {pos : Pos} (hN : X.N[i]? = some x) (hv : Vis X.env.scope x) (hd : (x == ("__debug__" : Str)) = false) (hcd : (x == ("__classdict__" : Str)) = false) :
    PE X (.Name x pos) (liftE X.K RX W (wE F (.var i))) :=
  PE.imp (pe_var (i := i) hN hv hd hcd) fun σ H Q ⟨env, M, s, d, e, q⟩ => by
    obtain ⟨v, h1, h2⟩ := s.vals i d e
    exact ⟨v, h1, q.at s h2⟩
theorem je_int {i j pos} : PE X (.Constant (.int i) j pos) (liftE X.K RX W (wE F (.cst (.int i)))) := PE.imp pe_int fun σ H Q ⟨env, M, s, q⟩ => postE.at s (d := .int i) rfl q
theorem je_bl {b j pos} : PE X (.Constant (.bool b) j pos) (liftE X.K RX W (wE F (.cst (.bl b)))) := PE.imp pe_bl fun σ H Q ⟨env, M, s, q⟩ => postE.at s (d := .bl b) rfl q
theorem je_non {j pos} : PE X (.Constant .none j pos) (liftE X.K RX W (wE F (.cst .non))) := PE.imp pe_non fun σ H Q ⟨env, M, s, q⟩ => postE.at s (d := .non) rfl q
theorem je_str {x j pos} : PE X (.Constant (.str x) j pos) (liftE X.K RX W (wE F (.cst (.str x)))) := PE.imp pe_str fun σ H Q ⟨env, M, s, q⟩ => postE.at s (d := .str x) rfl q
theorem je_glb {x : Str} {y : String} {d : D} {v : V} {u : Value} {pos : Pos} (hg : Gl X x) (hm : X.mg x = some u) (r : RelV v u) (hr : ∀ H, Rep X.K H d v) (hd : (x == ("__debug__" : Str)) = false) :
    PE X (.Name x pos) (liftE X.K RX W (wE F (.glb y d))) := PE.imp (pe_glob hg hm r hd) fun σ H Q ⟨env, M, s, q⟩ => postE.at s (hr H) q

/-! ### operators -/
def BOp.py : BOp → Operator
  | .add => .Add | .sub => .Sub | .mul => .Mult | .fdiv => .FloorDiv | .mod => .Mod | .pow => .Pow | .shl => .LShift | .shr => .RShift | .band => .BitAnd | .bor => .BitOr | .bxor => .BitXor
def rBin (K : PySem.W.Frag) (o : BOp) : R2 := fun x y H Q => ∃ dx dy, Rep K H dx x ∧ Rep K H dy y ∧ wBin o dx dy fun z => ∀ v H', Alc H H' → Rep K H' z v → Q v H'
theorem reps_nil {vs : List V} (h : Reps K H [] vs) : vs = [] := h
theorem reps_ne {xs : List D} {vs : List V} (h : Reps K H xs vs) : vs = [] ↔ xs = [] := by
  have := h.length
  constructor
  · rintro rfl; exact List.eq_nil_of_length_eq_zero (by simpa using this)
  · rintro rfl; exact h
theorem reps_flat {xs : List D} {vs : List V} (h : Reps K H xs vs) : ∀ {k : Nat}, Reps K H (List.replicate k xs).flatten (List.replicate k vs).flatten
  | 0 => rfl
  | k + 1 => by
    rw [List.replicate_succ, List.replicate_succ, List.flatten_cons, List.flatten_cons]
    exact Reps.append h (reps_flat h)
theorem op_bin (o : BOp) : OpR X (binaryOp o.py) (rBin X.K o) := by
  intro pins s σ H x y v u Q I rx ry h
  obtain ⟨dx, dy, hx, hy, w⟩ := h
  unfold wBin at w
  split at w
  · cases hx; cases hy; exact op_add pins s σ H _ _ _ _ _ I rx ry ⟨_, _, rfl, rfl, w _ _ Alc.refl rfl⟩
  · cases hx; cases hy; exact op_add_str pins s σ H _ _ _ _ _ I rx ry ⟨_, _, rfl, rfl, w.1, w.2 _ _ Alc.refl rfl⟩
  · rename_i Q' xs ys
    obtain ⟨a, vs, rfl, hs, hr⟩ := hx
    obtain ⟨b, us, rfl, hs2, hr2⟩ := hy
    refine op_catA pins s σ H _ _ _ _ _ I rx ry ⟨a, b, vs, us, rfl, rfl, hs, hs2, by rw [← hr.length, ← hr2.length]; exact w.1, fun e => ?_, fun e e2 => ?_, fun e e2 p hp => ?_⟩
    · subst e
      refine w.2 _ _ Alc.refl ⟨b, us, rfl, hs2, ?_⟩
      have : xs = [] := (reps_ne hr).mp rfl
      subst this; exact hr2
    · subst e2
      refine w.2 _ _ Alc.refl ⟨a, vs, rfl, hs, ?_⟩
      have : ys = [] := (reps_ne hr2).mp rfl
      subst this; rw [List.append_nil]; exact hr
    · refine w.2 _ _ (Alc.new hp) ⟨p, vs ++ us, rfl, SqT.of L2.upd_same, ?_⟩
      exact Reps.append (hr.mono (Alc.new hp).tm) (hr2.mono (Alc.new hp).tm)
  · cases hx; cases hy; exact op_sub pins s σ H _ _ _ _ _ I rx ry ⟨_, _, rfl, rfl, w _ _ Alc.refl rfl⟩
  · cases hx; cases hy; exact op_mul pins s σ H _ _ _ _ _ I rx ry ⟨_, _, rfl, rfl, w.1, w.2 _ _ Alc.refl rfl⟩
  · rename_i Q' xs k
    obtain ⟨a, vs, rfl, hs, hr⟩ := hx
    cases hy
    refine op_repT pins s σ H _ _ _ _ _ I rx ry ⟨a, k, vs, rfl, rfl, hs, fun e => w.1.1 ((reps_ne hr).mp e), w.1.2.1, w.1.2.2.1, by rw [← hr.length]; exact w.1.2.2.2, fun p hp => ?_⟩
    exact w.2 _ _ (Alc.new hp) ⟨p, _, rfl, SqT.of L2.upd_same, reps_flat (hr.mono (Alc.new hp).tm)⟩
  · cases hx; cases hy; exact op_fdivW pins s σ H _ _ _ _ _ I rx ry ⟨_, _, rfl, rfl, w.1, w.2 _ _ Alc.refl rfl⟩
  · cases hx; cases hy; exact op_mod pins s σ H _ _ _ _ _ I rx ry ⟨_, _, rfl, rfl, w.1, w.2 _ _ Alc.refl rfl⟩
  · cases hx; cases hy; exact op_pow pins s σ H _ _ _ _ _ I rx ry ⟨_, _, rfl, rfl, w.1, w.2 _ _ Alc.refl rfl⟩
  · cases hx; cases hy; exact op_shl pins s σ H _ _ _ _ _ I rx ry ⟨_, _, rfl, rfl, w.1, w.2 _ _ Alc.refl rfl⟩
  · cases hx; cases hy; exact op_shr pins s σ H _ _ _ _ _ I rx ry ⟨_, _, rfl, rfl, w.1, w.2 _ _ Alc.refl rfl⟩
  · cases hx; cases hy; exact op_and pins s σ H _ _ _ _ _ I rx ry ⟨_, _, rfl, rfl, w _ _ Alc.refl rfl⟩
  · cases hx; cases hy; exact op_or pins s σ H _ _ _ _ _ I rx ry ⟨_, _, rfl, rfl, w _ _ Alc.refl rfl⟩
  · cases hx; cases hy; exact op_xor pins s σ H _ _ _ _ _ I rx ry ⟨_, _, rfl, rfl, w _ _ Alc.refl rfl⟩
  · exact w.elim
/-- two in a row, then what is by values -/
theorem lift2 (hF : FMono F) {a b : IE} {w : D → D → Mem → (D → Prop) → Prop} {r : R2} {σ : L2.St} {H : Hp} {Q : VK}
    (hr : ∀ {env H1 M1 dx dy x y}, StE K σ H1 env M1 → Rep K H1 dx x → Rep K H1 dy y → (w dx dy M1 fun z => postE K σ H1 env M1 Q z M1) → r x y H1 Q)
    (h : liftE K RX W (fun env M Q E => wE F a env M (fun x M1 => wE F b env M1 (fun y M2 => w x y M2 fun z => Q z M2) E) E) σ H Q)
    (hw : ∀ x y M (Q Q' : D → Prop), (∀ z, Q z → Q' z) → w x y M Q → w x y M Q') :
    tOp r (liftE K RX W (wE F a)) (liftE K RX W (wE F b)) σ H Q := by
  obtain ⟨env, M, s, h⟩ := h
  refine ⟨env, M, s, wE_mono hF a (fun dx M1 q x H1 x1 s1 r1 => ?_) (fun _ _ q => q) h⟩
  refine ⟨env, M1, s1, wE_mono hF b (fun dy M2 q y H2 x2 s2 r2 => ?_) (fun _ _ q => q.go x1) q⟩
  refine hr s2 (r1.mono (x2.tm s1)) r2 (hw _ _ _ _ _ (fun z q => (q.go (x1.trans x2))) q)
theorem je_bin (hF : FMono F) {o : BOp} {a b : Expr} {ia ib : IE} {pos : Pos} (ha : PE X a (liftE X.K RX W (wE F ia))) (hb : PE X b (liftE X.K RX W (wE F ib))) :
    PE X (.BinOp a o.py b pos) (liftE X.K RX W (wE F (.bin o ia ib))) :=
  PE.imp (pe_op (op_bin o) ha hb) fun σ H Q h => lift2 hF (w := fun x y _ Q => wBin o x y Q)
    (fun s rx ry w => ⟨_, _, rx, ry, wBin_mono (fun z q v H' a r => q.alc s a r) w⟩) h fun _ _ _ _ _ h w => wBin_mono h w
theorem je_neg (hF : FMono F) {a : Expr} {ia : IE} {pos : Pos} (ha : PE X a (liftE X.K RX W (wE F ia))) : PE X (.UnaryOp .USub a pos) (liftE X.K RX W (wE F (.neg ia))) :=
  PE.imp (pe_un un_neg ha) fun σ H Q ⟨env, M, s, h⟩ => ⟨env, M, s, wE_mono hF ia (fun dx M1 q x H1 x1 s1 r1 => by
    obtain ⟨i, rfl, q⟩ := q
    cases r1
    exact ⟨i, rfl, (q.go x1).at s1 (d := .int (-i)) rfl⟩) (fun _ _ q => q) h⟩

/-! ### comparisons -/
mutual
theorem dp_of {H : Hp} : ∀ {n : Nat} {d : D} {x : V}, D.flat n d = true → Rep K H d x → Dp K H x d.py
  | n, .non, _, _, r => by cases r; exact .non
  | n, .bl b, _, _, r => by cases r; exact .bl b
  | n, .int i, _, _, r => by cases r; exact .int i
  | n, .str z, _, _, r => by cases r; exact .str z
  | 0, .tup _, _, f, _ => by simp [D.flat] at f
  | n + 1, .tup xs, _, f, r => by
    obtain ⟨a, vs, rfl, h, q⟩ := r
    exact .tup h (dps_of (n := n) (by simpa [D.flat] using f) q)
  | n, .ref a, _, f, _ => by cases n <;> simp [D.flat] at f
  | n, .rl a, _, f, _ => by cases n <;> simp [D.flat] at f
theorem dps_of {H : Hp} : ∀ {n : Nat} {ds : List D} {xs : List V}, D.flats n ds = true → Reps K H ds xs → DpAll K H xs (D.pys ds)
  | n, [], _, _, r => by cases r; exact .nil
  | n, d :: ds, _, f, r => by
    obtain ⟨v, vs, rfl, h, q⟩ := r
    have f' : D.flat n d = true ∧ D.flats n ds = true := by simpa [D.flats] using f
    exact .cons (dp_of f'.1 h) (dps_of f'.2 q)
end
mutual
theorem lay_of : ∀ {n : Nat} {d : D}, D.flat n d = true → d.py.canLay0 = true ∧ d.py.depth ≤ n
  | n, .non, _ => ⟨rfl, Nat.zero_le _⟩
  | n, .bl b, _ => ⟨rfl, Nat.zero_le _⟩
  | n, .int i, _ => ⟨rfl, Nat.zero_le _⟩
  | n, .str z, f => ⟨by simpa [D.py, PyData.canLay0] using (by cases n <;> simpa [D.flat] using f), Nat.zero_le _⟩
  | 0, .tup _, f => by simp [D.flat] at f
  | n + 1, .tup xs, f => by
    have q := lays_of (n := n) (ds := xs) (by simpa [D.flat] using f)
    refine ⟨by simpa [D.py, PyData.canLay0] using q.1, ?_⟩
    have := q.2
    simp only [D.py, PyData.depth]; omega
  | n, .ref a, f => by cases n <;> simp [D.flat] at f
  | n, .rl a, f => by cases n <;> simp [D.flat] at f
theorem lays_of : ∀ {n : Nat} {ds : List D}, D.flats n ds = true → PyData.canLayAll0 (D.pys ds) = true ∧ PyData.depthAll (D.pys ds) ≤ n
  | n, [], _ => ⟨rfl, Nat.zero_le _⟩
  | n, d :: ds, f => by
    have f' : D.flat n d = true ∧ D.flats n ds = true := by simpa [D.flats] using f
    have h1 := lay_of f'.1
    have h2 := lays_of f'.2
    refine ⟨by simp [D.pys, PyData.canLayAll0, h1.1, h2.1], ?_⟩
    simp only [D.pys, PyData.depthAll]
    omega
end
theorem shaped_of {d : D} (f : D.flat 60 d = true) : SeqAt.shaped d.py = true := by
  have h := lay_of f
  unfold SeqAt.shaped
  rw [h.1, decide_eq_true (Nat.le_trans h.2 (by decide))]; rfl
theorem shapedL {ds : List D} (f : D.flats 58 ds = true) : SeqAt.shaped (.list (D.pys ds)) = true := by
  have h := lays_of f
  unfold SeqAt.shaped
  have h1 : (PyData.list (D.pys ds)).canLay0 = true := by simpa [PyData.canLay0] using h.1
  have h2 : (PyData.list (D.pys ds)).depth ≤ 59 := by
    have := h.2
    simp only [PyData.depth]; omega
  rw [h1, decide_eq_true (Nat.le_trans h2 (by decide))]; rfl
mutual
theorem eqv_py : ∀ {n m : Nat} {x y : D}, D.flat n x = true → D.flat m y = true → PyData.eqv x.py y.py = D.eqv x y
  | n, m, .non, y, f, g => by cases y <;> first | rfl | (cases m <;> simp [D.flat] at g)
  | n, m, .bl b, y, f, g => by cases y <;> first | rfl | (cases m <;> simp [D.flat] at g)
  | n, m, .int i, y, f, g => by
    cases y <;> first | rfl | (cases m <;> simp [D.flat] at g)
  | n, m, .str z, y, f, g => by cases y <;> first | rfl | (cases m <;> simp [D.flat] at g)
  | n, m, .ref a, y, f, g => by cases n <;> simp [D.flat] at f
  | n, m, .rl a, y, f, g => by cases n <;> simp [D.flat] at f
  | 0, m, .tup xs, y, f, g => by simp [D.flat] at f
  | n + 1, 0, .tup xs, .tup ys, f, g => by simp [D.flat] at g
  | n + 1, m + 1, .tup xs, .tup ys, f, g => by
    simp only [D.py, PyData.eqv, D.eqv]
    exact eqvs_py (n := n) (m := m) (by simpa [D.flat] using f) (by simpa [D.flat] using g)
  | n + 1, m, .tup xs, .ref a, f, g => by cases m <;> simp [D.flat] at g
  | n + 1, m, .tup xs, .rl a, f, g => by cases m <;> simp [D.flat] at g
  | n + 1, m, .tup xs, .non, f, g => rfl
  | n + 1, m, .tup xs, .bl _, f, g => rfl
  | n + 1, m, .tup xs, .int _, f, g => rfl
  | n + 1, m, .tup xs, .str _, f, g => rfl
theorem eqvs_py : ∀ {n m : Nat} {xs ys : List D}, D.flats n xs = true → D.flats m ys = true → PyData.eqvAll (D.pys xs) (D.pys ys) = D.eqvs xs ys
  | n, m, [], [], _, _ => rfl
  | n, m, [], _ :: _, _, _ => rfl
  | n, m, _ :: _, [], _, _ => rfl
  | n, m, x :: xs, y :: ys, f, g => by
    have f' : D.flat n x = true ∧ D.flats n xs = true := by simpa [D.flats] using f
    have g' : D.flat m y = true ∧ D.flats m ys = true := by simpa [D.flats] using g
    simp only [D.pys, PyData.eqvAll, D.eqvs]
    rw [eqv_py f'.1 g'.1, eqvs_py f'.2 g'.2]
end
def COp.py : COp → CmpOp
  | .eq => .Eq | .ne => .NotEq | .lt => .Lt | .le => .LtE | .gt => .Gt | .ge => .GtE | .isN => .Is | .notN => .IsNot | .inn => .In | .notin => .NotIn
def rCmp (K : PySem.W.Frag) (o : COp) : R2 := fun x y H Q => ∃ dx dy M, MemOk K H M ∧ Rep K H dx x ∧ Rep K H dy y ∧ wCmp o dx dy M fun k => Q (.bl k) H
theorem isNon {d : D} {x : V} (r : Rep K H d x) : decide (x = .non) = (match d with | .non => true | _ => false) := by
  cases d with
  | tup ds => obtain ⟨a, vs, rfl, _⟩ := r; rfl
  | rl ds => obtain ⟨a, vs, rfl, _⟩ := r; rfl
  | _ => cases r; rfl
theorem any_py {d : D} (f : D.flat 60 d = true) : ∀ {ds : List D}, D.flats 60 ds = true → ((D.pys ds).any fun z => PyData.eqv z d.py) = ds.any fun z => D.eqv z d
  | [], _ => rfl
  | x :: xs, g => by
    have g' : D.flat 60 x = true ∧ D.flats 60 xs = true := by simpa [D.flats] using g
    simp only [D.pys, List.any_cons]
    rw [eqv_py g'.1 f, any_py f g'.2]
theorem room_in {d e : PyData} (h : d.depth ≤ 60) (hu : X.A.units + 100 < cLine) : X.A.units + 1 + min e.depth d.depth < cLine := by
  have : min e.depth d.depth ≤ d.depth := Nat.min_le_right _ _
  omega
theorem room_ins {d : PyData} {e : List PyData} (h : d.depth ≤ 60) (hu : X.A.units + 100 < cLine) : X.A.units + 1 + min (PyData.depthAll e) d.depth < cLine := by
  have : min (PyData.depthAll e) d.depth ≤ d.depth := Nat.min_le_right _ _
  omega
section
variable {pins : List (Addr × Obj)} {s : Shared} {x y : V} {u v : Value} {d : D} {ds : List D} {R : Value → Shared → Prop}
theorem in_tup (hu : X.A.units + 100 < cLine) (I : L2.Inv X pins σ H s) (rx : L2.RelV x v) (ry : L2.RelV y u) (hx : Rep X.K H d x) (hy : Rep X.K H (.tup ds) y) (f : D.flat 60 d = true) (g : D.flats 60 ds = true)
    (q : R (.bool (ds.any fun z => D.eqv z d)) s) : wpAny (model X.prog X.w) X.A (compareOp .In v u) R X.xe s := by
  obtain ⟨as, r1⟩ := Dp.reads I d.py x v (dp_of f hx) rx
  obtain ⟨bs, r2⟩ := Dp.reads I (.tuple (D.pys ds)) y u (dp_of (n := 61) (d := .tup ds) (by simpa [D.flat] using g) hy) ry
  exact SeqAt.in_tuple_reads r2 r1 (lays_of g).1 (lay_of f).1 (room_ins (lay_of f).2 hu) (by rw [any_py f g]; exact q)
theorem notin_tup (hu : X.A.units + 100 < cLine) (I : L2.Inv X pins σ H s) (rx : L2.RelV x v) (ry : L2.RelV y u) (hx : Rep X.K H d x) (hy : Rep X.K H (.tup ds) y) (f : D.flat 60 d = true) (g : D.flats 60 ds = true)
    (q : R (.bool (!ds.any fun z => D.eqv z d)) s) : wpAny (model X.prog X.w) X.A (compareOp .NotIn v u) R X.xe s := by
  obtain ⟨as, r1⟩ := Dp.reads I d.py x v (dp_of f hx) rx
  obtain ⟨bs, r2⟩ := Dp.reads I (.tuple (D.pys ds)) y u (dp_of (n := 61) (d := .tup ds) (by simpa [D.flat] using g) hy) ry
  exact SeqAt.notIn_tuple_reads r2 r1 (lays_of g).1 (lay_of f).1 (room_ins (lay_of f).2 hu) (by rw [any_py f g]; exact q)
theorem in_lst {a : Addr} {vs : List V} (hu : X.A.units + 100 < cLine) (I : L2.Inv X pins σ H s) (rx : L2.RelV x v) (hx : Rep X.K H d x) (hl : SqL X.K H a vs) (hy : Reps X.K H ds vs) (f : D.flat 60 d = true) (g : D.flats 60 ds = true)
    (q : R (.bool (ds.any fun z => D.eqv z d)) s) : wpAny (model X.prog X.w) X.A (compareOp .In v (.ref a)) R X.xe s := by
  obtain ⟨as, r1⟩ := Dp.reads I d.py x v (dp_of f hx) rx
  obtain ⟨bs, r2⟩ := Dp.reads I (.list (D.pys ds)) (.ref a) (.ref a) (.lst hl (dps_of g hy)) rfl
  exact SeqAt.in_list_reads r2 r1 (lays_of g).1 (lay_of f).1 (room_ins (lay_of f).2 hu) (by rw [any_py f g]; exact q)
theorem notin_lst {a : Addr} {vs : List V} (hu : X.A.units + 100 < cLine) (I : L2.Inv X pins σ H s) (rx : L2.RelV x v) (hx : Rep X.K H d x) (hl : SqL X.K H a vs) (hy : Reps X.K H ds vs) (f : D.flat 60 d = true) (g : D.flats 60 ds = true)
    (q : R (.bool (!ds.any fun z => D.eqv z d)) s) : wpAny (model X.prog X.w) X.A (compareOp .NotIn v (.ref a)) R X.xe s := by
  obtain ⟨as, r1⟩ := Dp.reads I d.py x v (dp_of f hx) rx
  obtain ⟨bs, r2⟩ := Dp.reads I (.list (D.pys ds)) (.ref a) (.ref a) (.lst hl (dps_of g hy)) rfl
  exact SeqAt.notIn_list_reads r2 r1 (lays_of g).1 (lay_of f).1 (room_ins (lay_of f).2 hu) (by rw [any_py f g]; exact q)
end
theorem op_cmp (o : COp) (hu : X.A.units + 100 < cLine) : OpR X (compareOp o.py) (rCmp X.K o) := by
  intro pins s σ H x y v u Q I rx ry h
  obtain ⟨dx, dy, M, hM, hx, hy, w⟩ := h
  unfold wCmp at w
  split at w
  · cases hx; cases hy
    exact op_eq pins s σ H _ _ _ _ _ I rx ry ⟨rfl, by rw [dec_str]; rw [show (∀ a b : Str, (a == b) = decide (a = b)) from fun a b => by by_cases e : a = b <;> simp [e]]; exact w⟩
  · cases hx; cases hy
    exact op_ne pins s σ H _ _ _ _ _ I rx ry ⟨rfl, by rw [dec_str]; rw [show (∀ a b : Str, (a == b) = decide (a = b)) from fun a b => by by_cases e : a = b <;> simp [e]]; exact w⟩
  · obtain ⟨ys, zs, e1, e2, ⟨f, g⟩, w⟩ := w
    obtain ⟨vs, h1, h2⟩ := hM _ _ e1
    obtain ⟨us, h3, h4⟩ := hM _ _ e2
    cases hx; cases hy
    exact op_eqD (by omega) pins s σ H _ _ _ _ _ I rx ry ⟨.list (D.pys ys), .list (D.pys zs), .lst (SqL.of h1) (dps_of f h2), .lst (SqL.of h3) (dps_of g h4), shapedL f, shapedL g, by rw [show PyData.eqv (.list (D.pys ys)) (.list (D.pys zs)) = PyData.eqvAll (D.pys ys) (D.pys zs) from rfl, eqvs_py f g]; exact w⟩
  · obtain ⟨ys, zs, e1, e2, ⟨f, g⟩, w⟩ := w
    obtain ⟨vs, h1, h2⟩ := hM _ _ e1
    obtain ⟨us, h3, h4⟩ := hM _ _ e2
    cases hx; cases hy
    exact op_neD (by omega) pins s σ H _ _ _ _ _ I rx ry ⟨.list (D.pys ys), .list (D.pys zs), .lst (SqL.of h1) (dps_of f h2), .lst (SqL.of h3) (dps_of g h4), shapedL f, shapedL g, by rw [show PyData.eqv (.list (D.pys ys)) (.list (D.pys zs)) = PyData.eqvAll (D.pys ys) (D.pys zs) from rfl, eqvs_py f g]; exact w⟩
  · obtain ⟨⟨f, g⟩, w⟩ := w
    exact op_eqD (by omega) pins s σ H _ _ _ _ _ I rx ry ⟨_, _, dp_of f hx, dp_of g hy, shaped_of f, shaped_of g, by rw [eqv_py f g]; exact w⟩
  · obtain ⟨⟨f, g⟩, w⟩ := w
    exact op_neD (by omega) pins s σ H _ _ _ _ _ I rx ry ⟨_, _, dp_of f hx, dp_of g hy, shaped_of f, shaped_of g, by rw [eqv_py f g]; exact w⟩
  · cases hx; cases hy; exact op_lt pins s σ H _ _ _ _ _ I rx ry ⟨_, _, rfl, rfl, w⟩
  · cases hx; cases hy; exact op_lt_str pins s σ H _ _ _ _ _ I rx ry ⟨_, _, rfl, rfl, w⟩
  · cases hx; cases hy; exact op_le pins s σ H _ _ _ _ _ I rx ry ⟨_, _, rfl, rfl, w⟩
  · cases hx; cases hy; exact op_gt pins s σ H _ _ _ _ _ I rx ry ⟨_, _, rfl, rfl, w⟩
  · cases hx; cases hy; exact op_ge pins s σ H _ _ _ _ _ I rx ry ⟨_, _, rfl, rfl, w⟩
  · cases hx; cases hy; exact op_isBl pins s σ H _ _ _ _ _ I rx ry ⟨_, _, rfl, rfl, w⟩
  · cases hx; cases hy; exact op_notBl pins s σ H _ _ _ _ _ I rx ry ⟨_, _, rfl, rfl, w⟩
  · cases hx; cases hy; exact op_isN pins s σ H _ _ _ _ _ I rx ry ⟨rfl, w⟩
  · rename_i dx' _ _ _ _ _ _ hne
    cases hy
    refine op_isN pins s σ H _ _ _ _ _ I rx ry ⟨rfl, ?_⟩
    rw [isNon hx]
    cases dx' <;> first | exact w | exact absurd rfl hne | exact (hne rfl).elim
  · cases hx; cases hy; exact op_notN pins s σ H _ _ _ _ _ I rx ry ⟨rfl, w⟩
  · rename_i dx' _ _ _ _ _ _ hne
    cases hy
    refine op_notN pins s σ H _ _ _ _ _ I rx ry ⟨rfl, ?_⟩
    rw [isNon hx]
    cases dx' <;> first | exact w | exact absurd rfl hne | exact (hne rfl).elim
  · cases hx; cases hy; exact op_in_str pins s σ H _ _ _ _ _ I rx ry ⟨_, _, rfl, rfl, w⟩
  · cases hx; cases hy; exact op_notin_str pins s σ H _ _ _ _ _ I rx ry ⟨_, _, rfl, rfl, w⟩
  · obtain ⟨⟨f, g⟩, w⟩ := w
    exact in_tup hu I rx ry hx hy f g ⟨.bl _, H, I, rfl, w⟩
  · obtain ⟨⟨f, g⟩, w⟩ := w
    exact notin_tup hu I rx ry hx hy f g ⟨.bl _, H, I, rfl, w⟩
  · obtain ⟨ys, e, ⟨f, g⟩, w⟩ := w
    obtain ⟨vs, h1, h2⟩ := hM _ _ e
    cases hy; cases ry
    exact in_lst hu I rx hx (SqL.of h1) h2 f g ⟨.bl _, H, I, rfl, w⟩
  · obtain ⟨ys, e, ⟨f, g⟩, w⟩ := w
    obtain ⟨vs, h1, h2⟩ := hM _ _ e
    cases hy; cases ry
    exact notin_lst hu I rx hx (SqL.of h1) h2 f g ⟨.bl _, H, I, rfl, w⟩
  · rename_i xs ys
    obtain ⟨⟨f, g, al⟩, w⟩ := w
    obtain ⟨as, r1⟩ := Dp.reads I _ x v (dp_of f hx) rx
    obtain ⟨bs, r2⟩ := Dp.reads I _ y u (dp_of g hy) ry
    refine PySem.W.lt_data r1 r2 al (by simp [D.py]) ?_ ⟨.bl _, H, I, rfl, w⟩
    have h1 := Nat.min_le_left (PyData.depth (D.py (.tup xs))) (PyData.depth (D.py (.tup ys)))
    have h2 := (lay_of f).2
    omega
  · exact w.elim
theorem je_cmp (hF : FMono F) (hu : X.A.units + 100 < cLine) {o : COp} {a b : Expr} {ia ib : IE} {pos : Pos} (ha : PE X a (liftE X.K RX W (wE F ia))) (hb : PE X b (liftE X.K RX W (wE F ib))) (hm : behindInMarks o.py b = false) :
    PE X (.Compare a [o.py] [b] pos) (liftE X.K RX W (wE F (.cmp o ia ib))) :=
  PE.imp (pe_cmpR (op_cmp o hu) ha hb hm) fun σ H Q h => lift2 hF (w := fun x y M Q => wCmp o x y M fun k => Q (.bl k))
    (fun s rx ry w => ⟨_, _, _, s.mem, rx, ry, wCmp_mono (fun z q => q.at s (d := .bl z) rfl) w⟩) h fun _ _ _ _ _ h w => wCmp_mono (fun _ q => h _ q) w
theorem je_chn (hF : FMono F) (hu : X.A.units + 100 < cLine) {o o' : COp} {a b c : Expr} {ia ib ic : IE} {pos : Pos} (ha : PE X a (liftE X.K RX W (wE F ia))) (hb : PE X b (liftE X.K RX W (wE F ib))) (hc : PE X c (liftE X.K RX W (wE F ic)))
    (hm : lastMarks [o.py, o'.py] [b, c] = false) : PE X (.Compare a [o.py, o'.py] [b, c] pos) (liftE X.K RX W (wE F (.chn o o' ia ib ic))) :=
  PE.imp (pe_chain (op_cmp o hu) (op_cmp o' hu) ha hb hc hm) fun σ H Q ⟨env, M, s, h⟩ => by
    refine ⟨env, M, s, wE_mono hF ia (fun dx M1 q x H1 x1 s1 r1 => ?_) (fun _ _ q => q) h⟩
    refine ⟨env, M1, s1, wE_mono hF ib (fun dy M2 q y H2 x2 s2 r2 => ?_) (fun _ _ q => q.go x1) q⟩
    refine ⟨_, _, _, s2.mem, r1.mono (x2.tm s1), r2, wCmp_mono (fun k q => ⟨k, rfl, ?_⟩) q⟩
    cases k with
    | false => exact (q.go (x1.trans x2)).at s2 (d := .bl false) rfl
    | true =>
      refine ⟨env, M2, s2, wE_mono hF ic (fun dz M3 q z H3 x3 s3 r3 => ?_) (fun _ _ q => q.go (x1.trans x2)) q⟩
      exact ⟨_, _, _, s3.mem, r2.mono (x3.tm s2), r3, wCmp_mono (fun k q => (q.go ((x1.trans x2).trans x3)).at s3 (d := .bl k) rfl) q⟩
end
end DL
/-! Soundness: tests, lists, built-ins. -/
namespace DL
open PySem PySem.Spec PyProof.Rows L2

section
variable {X : Cx} {RX : RXT} {W : WX} {F : FS}
variable {K : PySem.W.Frag} {σ : L2.St} {H H1 H2 : Hp} {env : Env} {M M1 M2 : Mem} {Q : VK}
/-! ### tests -/
theorem tru_of {d : D} {v : V} {R : Bool → Prop} (s : StE K σ H env M) (r : Rep K H d v) (w : wTru d M R) : ∃ k, TruV K v H k ∧ R k := by
  cases d with
  | non => cases r; exact ⟨_, rfl, w⟩
  | bl b => cases r; exact ⟨_, rfl, w⟩
  | int i => cases r; exact ⟨_, rfl, w⟩
  | str x => cases r; exact ⟨_, ⟨w.1, rfl⟩, w.2⟩
  | tup xs =>
    obtain ⟨a, vs, rfl, h, q⟩ := r
    refine ⟨!xs.isEmpty, .inr (.inl ⟨vs, h, ?_⟩), w⟩
    have := reps_ne q
    cases xs <;> cases vs <;> simp_all
  | ref a =>
    cases r
    obtain ⟨xs, e, q⟩ := w
    obtain ⟨vs, h, q2⟩ := s.mem a _ e
    refine ⟨_, .inl ⟨vs, SqL.of h, ?_⟩, q⟩
    have := reps_ne q2
    cases xs <;> cases vs <;> simp_all
  | rl xs => exact w.elim
theorem jt_truth (hF : FMono F) {a : Expr} {ia : IE} (ha : PE X a (liftE X.K RX W (wE F ia))) (he : ∀ whole, isTrue a X.env whole = (do let v ← whole; standAt a.pos; holding [v] (truthy v))) :
    PT X a (liftT X.K RX W (wT F (.v ia))) :=
  PT.imp (pt_truth ha he) fun σ H Q ⟨env, M, s, h⟩ => ⟨env, M, s, wE_mono hF ia (fun d M1 q v H1 x1 s1 r1 => by
    obtain ⟨k, h1, h2⟩ := tru_of s1 r1 q
    exact ⟨k, h1, h2 H1 x1 s1⟩) (fun _ _ q => q) h⟩
theorem jt_cmp (hF : FMono F) (hu : X.A.units + 100 < cLine) {o : COp} {a b : Expr} {ia ib : IE} {pos : Pos} (ha : PE X a (liftE X.K RX W (wE F ia))) (hb : PE X b (liftE X.K RX W (wE F ib))) (hm : behindInMarks o.py b = false) :
    PT X (.Compare a [o.py] [b] pos) (liftT X.K RX W (wT F (.v (.cmp o ia ib)))) :=
  PT.imp (pt_cmpR (op_cmp o hu) ha hb hm) fun σ H Q ⟨env, M, s, h⟩ => by
    refine ⟨env, M, s, wE_mono hF ia (fun dx M1 q x H1 x1 s1 r1 => ?_) (fun _ _ q => q) h⟩
    refine ⟨env, M1, s1, wE_mono hF ib (fun dy M2 q y H2 x2 s2 r2 => ?_) (fun _ _ q => q.go x1) q⟩
    exact ⟨_, _, _, s2.mem, r1.mono (x2.tm s1), r2, wCmp_mono (fun k q => ⟨k, rfl, q H2 (x1.trans x2) s2⟩) q⟩
theorem jt_chn (hF : FMono F) (hu : X.A.units + 100 < cLine) {o o' : COp} {a b c : Expr} {ia ib ic : IE} {pos : Pos} (ha : PE X a (liftE X.K RX W (wE F ia))) (hb : PE X b (liftE X.K RX W (wE F ib))) (hc : PE X c (liftE X.K RX W (wE F ic)))
    (hm : lastMarks [o.py, o'.py] [b, c] = false) : PT X (.Compare a [o.py, o'.py] [b, c] pos) (liftT X.K RX W (wT F (.v (.chn o o' ia ib ic)))) :=
  PT.imp (pt_chain (op_cmp o hu) (op_cmp o' hu) ha hb hc hm) fun σ H Q ⟨env, M, s, h⟩ => by
    refine ⟨env, M, s, wE_mono hF ia (fun dx M1 q x H1 x1 s1 r1 => ?_) (fun _ _ q => q) h⟩
    refine ⟨env, M1, s1, wE_mono hF ib (fun dy M2 q y H2 x2 s2 r2 => ?_) (fun _ _ q => q.go x1) q⟩
    refine ⟨_, _, _, s2.mem, r1.mono (x2.tm s1), r2, wCmp_mono (fun k q => ⟨k, rfl, ?_⟩) q⟩
    cases k with
    | false => exact ⟨false, rfl, q H2 (x1.trans x2) s2⟩
    | true =>
      refine ⟨env, M2, s2, wE_mono hF ic (fun dz M3 q z H3 x3 s3 r3 => ?_) (fun _ _ q => q.go (x1.trans x2)) q⟩
      exact ⟨_, _, _, s3.mem, r2.mono (x3.tm s2), r3, wCmp_mono (fun k q => ⟨k, rfl, q H3 ((x1.trans x2).trans x3) s3⟩) q⟩
theorem jt_not (hF : FMono F) {a : Expr} {ia : IT} {pos : Pos} (ha : PT X a (liftT X.K RX W (wT F ia))) : PT X (.UnaryOp .Not a pos) (liftT X.K RX W (wT F (.not ia))) :=
  PT.imp (pt_not ha) fun σ H Q ⟨env, M, s, h⟩ => ⟨env, M, s, wT_mono hF ia (fun k M1 q H1 x1 s1 => q H1 x1 s1) (fun _ _ q => q) h⟩
theorem jw_one {op : BoolOp} {a : Expr} {ia : IT} {pos : Pos} (ha : PT X a (liftT X.K RX W (wT F ia))) : PW X (.BoolOp op [a] pos) (liftT X.K RX W (wT F ia)) := by
  cases op
  · exact pw_and1 ha
  · exact pw_or1 ha
theorem jw_and (hF : FMono F) {a b : Expr} {rest : List Expr} {ia ib : IT} {pos : Pos} (ha : PT X a (liftT X.K RX W (wT F ia))) (hb : PW X (.BoolOp .And (b :: rest) pos) (liftT X.K RX W (wT F ib))) :
    PW X (.BoolOp .And (a :: b :: rest) pos) (liftT X.K RX W (wT F (.and ia ib))) := by
  have h := pw_and ha hb
  refine ⟨fun whole pins s σ H Q I q => h.run whole pins s σ H Q I ?_⟩
  obtain ⟨env, M, s, q⟩ := q
  refine ⟨env, M, s, wT_mono hF ia (fun k M1 q H1 x1 s1 => ?_) (fun _ _ q => q) q⟩
  cases k with
  | false => exact q H1 x1 s1
  | true => exact ⟨env, M1, s1, wT_mono hF ib (fun k M2 q H2 x2 s2 => q H2 (x1.trans x2) s2) (fun _ _ q => q.go x1) q⟩
theorem jw_or (hF : FMono F) {a b : Expr} {rest : List Expr} {ia ib : IT} {pos : Pos} (ha : PT X a (liftT X.K RX W (wT F ia))) (hb : PW X (.BoolOp .Or (b :: rest) pos) (liftT X.K RX W (wT F ib))) :
    PW X (.BoolOp .Or (a :: b :: rest) pos) (liftT X.K RX W (wT F (.or ia ib))) := by
  have h := pw_or ha hb
  refine ⟨fun whole pins s σ H Q I q => h.run whole pins s σ H Q I ?_⟩
  obtain ⟨env, M, s, q⟩ := q
  refine ⟨env, M, s, wT_mono hF ia (fun k M1 q H1 x1 s1 => ?_) (fun _ _ q => q) q⟩
  cases k with
  | true => exact q H1 x1 s1
  | false => exact ⟨env, M1, s1, wT_mono hF ib (fun k M2 q H2 x2 s2 => q H2 (x1.trans x2) s2) (fun _ _ q => q.go x1) q⟩
/-- as values -/
theorem je_one {op : BoolOp} {a : Expr} {ia : IE} {pos : Pos} (ha : PE X a (liftE X.K RX W (wE F ia))) : PE X (.BoolOp op [a] pos) (liftE X.K RX W (wE F ia)) := pe_one ha
theorem je_and (hF : FMono F) {a b : Expr} {rest : List Expr} {ia ib : IE} {pos : Pos} (ha : PE X a (liftE X.K RX W (wE F ia))) (hb : PE X (.BoolOp .And (b :: rest) pos) (liftE X.K RX W (wE F ib))) :
    PE X (.BoolOp .And (a :: b :: rest) pos) (liftE X.K RX W (wE F (.and ia ib))) :=
  PE.imp (pe_and ha hb) fun σ H Q ⟨env, M, s, h⟩ => ⟨env, M, s, wE_mono hF ia (fun d M1 q v H1 x1 s1 r1 => by
    obtain ⟨k, rfl, q⟩ := q
    cases r1
    refine ⟨k, rfl, ?_⟩
    cases k with
    | false => exact (q.go x1).at s1 (d := .bl false) rfl
    | true => exact ⟨env, M1, s1, wE_mono hF ib (fun _ _ q => q.go x1) (fun _ _ q => q.go x1) q⟩) (fun _ _ q => q) h⟩
theorem je_or (hF : FMono F) {a b : Expr} {rest : List Expr} {ia ib : IE} {pos : Pos} (ha : PE X a (liftE X.K RX W (wE F ia))) (hb : PE X (.BoolOp .Or (b :: rest) pos) (liftE X.K RX W (wE F ib))) :
    PE X (.BoolOp .Or (a :: b :: rest) pos) (liftE X.K RX W (wE F (.or ia ib))) :=
  PE.imp (pe_or ha hb) fun σ H Q ⟨env, M, s, h⟩ => ⟨env, M, s, wE_mono hF ia (fun d M1 q v H1 x1 s1 r1 => by
    obtain ⟨k, rfl, q⟩ := q
    cases r1
    refine ⟨k, rfl, ?_⟩
    cases k with
    | true => exact (q.go x1).at s1 (d := .bl true) rfl
    | false => exact ⟨env, M1, s1, wE_mono hF ib (fun _ _ q => q.go x1) (fun _ _ q => q.go x1) q⟩) (fun _ _ q => q) h⟩
theorem je_not (hF : FMono F) {a : Expr} {ia : IE} {pos : Pos} (ha : PE X a (liftE X.K RX W (wE F ia))) : PE X (.UnaryOp .Not a pos) (liftE X.K RX W (wE F (.not ia))) :=
  PE.imp (pe_not ha) fun σ H Q ⟨env, M, s, h⟩ => ⟨env, M, s, wE_mono hF ia (fun d M1 q v H1 x1 s1 r1 => by
    obtain ⟨k, rfl, q⟩ := q
    cases r1
    exact ⟨k, rfl, (q.go x1).at s1 (d := .bl !k) rfl⟩) (fun _ _ q => q) h⟩
theorem je_ifx (hF : FMono F) {c a b : Expr} {ic : IT} {ia ib : IE} {pos : Pos} (hc : PT X c (liftT X.K RX W (wT F ic))) (ha : PE X a (liftE X.K RX W (wE F ia))) (hb : PE X b (liftE X.K RX W (wE F ib))) :
    PE X (.IfExp c a b pos) (liftE X.K RX W (wE F (.ifx ic ia ib))) :=
  PE.imp (pe_ifExp hc ha hb) fun σ H Q ⟨env, M, s, h⟩ => ⟨env, M, s, wT_mono hF ic (fun k M1 q H1 x1 s1 => by
    cases k with
    | true => exact ⟨env, M1, s1, wE_mono hF ia (fun _ _ q => q.go x1) (fun _ _ q => q.go x1) q⟩
    | false => exact ⟨env, M1, s1, wE_mono hF ib (fun _ _ q => q.go x1) (fun _ _ q => q.go x1) q⟩) (fun _ _ q => q) h⟩

/-- what is free now was no one else's before -/
theorem new_none {p : Addr} (x1 : Ext env H M H1 M1) (s1 : StE K σ H1 env M1) (hM : M p = none) (hp : H1 p = none) : H p = none := by
  cases e : H p with
  | none => rfl
  | some u =>
    by_cases ho : ∀ (i : Nat) q o', env[i]? = some (.own q o') → q ≠ p
    · have := (x1 p u e hM ho).1; rw [hp] at this; cases this
    · have : ∃ (i : Nat) (o' : MO), env[i]? = some (.own p o') := Classical.byContradiction fun z => ho fun i q o' e' z' => z ⟨i, o', by rw [← z']; exact e'⟩
      obtain ⟨i, o', e'⟩ := this
      exact absurd hp (s1.owns i p o' e').2.1.notTup.2.2
/-! ### displays -/
theorem ja_nil : PA X [] (liftA X.K RX W (wEs F .nil)) := PA.imp pa_nil fun σ H Q ⟨env, M, s, h⟩ => h [] H Ext.refl s rfl
theorem ja_cons (hF : FMono F) {e : Expr} {es : List Expr} {ie : IE} {ies : IEs} (ha : PE X e (liftE X.K RX W (wE F ie))) (hr : PA X es (liftA X.K RX W (wEs F ies)))
    (hs : starEach (e :: es) X.env = (false, eval e X.env) :: starEach es X.env) : PA X (e :: es) (liftA X.K RX W (wEs F (.cons ie ies))) :=
  PA.imp (pa_cons ha hr hs) fun σ H Q ⟨env, M, s, h⟩ => ⟨env, M, s, wE_mono hF ie (fun d M1 q v H1 x1 s1 r1 =>
    ⟨env, M1, s1, wEs_mono hF ies (fun ds M2 q vs H2 x2 s2 r2 => q (v :: vs) H2 (x1.trans x2) s2 ⟨v, vs, rfl, r1.mono (x2.tm s1), r2⟩) (fun _ _ q => q.go x1) q⟩) (fun _ _ q => q) h⟩
theorem je_tup (hF : FMono F) {es : List Expr} {ies : IEs} {k : Nat} {pos : Pos} (h : PA X es (liftA X.K RX W (wEs F ies))) : PE X (.Tuple es k pos) (liftE X.K RX W (wE F (.tup ies))) :=
  PE.imp (pe_tup h) fun σ H Q ⟨env, M, s, h⟩ => ⟨env, M, s, wEs_mono hF ies (fun ds M1 q vs H1 x1 s1 r1 => by
    refine ⟨by rw [← r1.length]; exact q.1, fun p hp => ?_⟩
    refine (postE.go x1 q.2).alc s1 (d := .tup ds) (Alc.new hp) ⟨p, vs, rfl, SqT.of L2.upd_same, r1.mono (Alc.new hp).tm⟩) (fun _ _ q => q) h⟩
theorem jn_disp (hF : FMono F) {es : List Expr} {ies : IEs} {pos : Pos} (h : PA X es (liftA X.K RX W (wEs F ies))) : PE X (.List es pos) (liftN X.K RX W (wN F (.disp ies))) :=
  PE.imp (pe_lst h) fun σ H Q ⟨env, M, s, h⟩ => ⟨env, M, s, wEs_mono hF ies (fun ds M1 q vs H1 x1 s1 r1 => by
    refine ⟨by rw [← r1.length]; exact q.1, fun p hp => ?_⟩
    have a := Alc.new (o := .lst vs) hp
    have hp0 : M p = none → H p = none := fun hM => new_none x1 s1 hM hp
    exact q.2 p vs _ (x1.trans (Ext.alc a)) (s1.alc a) L2.upd_same (r1.mono a.tm) (s1.fresh hp) hp0 fun i q o' e' z => by
      subst z; exact absurd hp (s1.owns i q o' e').2.1.notTup.2.2) (fun _ _ q => q) h⟩

/-! ### parts -/
theorem plain_ix {b : Expr} (h : ∀ lo hi st p, b ≠ .Slice lo hi st p) : PlainIx b := fun o i => by
  cases b <;> first | rfl | exact absurd rfl (h _ _ _ _)
def rIdx (K : PySem.W.Frag) : R2 := fun x y H Q => rIxT K x y H Q ∨ rIxL K x y H Q ∨ rIxS x y H Q
theorem ix_idx : IxR X (rIdx X.K) := ix_tup.or (ix_list.or ix_str)
theorem je_idx (hF : FMono F) {a b : Expr} {ia ib : IE} {pos : Pos} (ha : PE X a (liftE X.K RX W (wE F ia))) (hb : PE X b (liftE X.K RX W (wE F ib))) (hs : PlainIx b) :
    PE X (.Subscript a b pos) (liftE X.K RX W (wE F (.idx ia ib))) :=
  PE.imp (pe_ix ix_idx ha hb hs) fun σ H Q h => lift2 hF (w := fun x y M Q => wIdx x y M Q)
    (fun {env H1 M1 dx dy x y} s rx ry w => by
      unfold wIdx at w
      split at w
      · obtain ⟨d, e, q⟩ := w
        obtain ⟨p, vs, rfl, h1, h2⟩ := rx
        cases ry
        obtain ⟨v, e2, r⟩ := h2.atI e
        exact .inl ⟨p, vs, _, v, rfl, rfl, h1, e2, q.at s r⟩
      · obtain ⟨l, c, e, q⟩ := w
        cases rx; cases ry
        exact .inr (.inr ⟨_, _, c, rfl, rfl, l, e, q.at s (d := .str ⟨#[c]⟩) rfl⟩)
      · obtain ⟨xs, d, e1, e, q⟩ := w
        cases rx; cases ry
        obtain ⟨vs, h1, h2⟩ := s.mem _ _ e1
        obtain ⟨v, e2, r⟩ := h2.atI e
        exact .inr (.inl ⟨_, vs, _, v, rfl, rfl, SqL.of h1, e2, q.at s r⟩)
      · exact w.elim) h fun _ _ _ _ _ h w => wIdx_mono h w
def liftO (K : PySem.W.Frag) (RX : RXT) (W : WX) (t : Env → Mem → (Option Int → Mem → Prop) → QX → Prop) : TO := fun σ H Q => ∃ env M, StE K σ H env M ∧
  t env M (fun o M' => ∀ H', Ext env H M H' M' → StE K σ H' env M' → Q o H') (postX K RX W σ H env M)
theorem jo_none : PO X none (liftO X.K RX W (wO F .no)) := PO.imp po_none fun σ H Q ⟨env, M, s, h⟩ => h H Ext.refl s
theorem jo_some (hF : FMono F) {e : Expr} {ie : IE} (h : PE X e (liftE X.K RX W (wE F ie))) : PO X (some e) (liftO X.K RX W (wO F (.at ie))) :=
  PO.imp (po_some h) fun σ H Q ⟨env, M, s, h⟩ => ⟨env, M, s, wE_mono hF ie (fun d M1 q v H1 x1 s1 r1 => by
    obtain ⟨i, rfl, q⟩ := q
    cases r1
    exact ⟨i, rfl, q H1 x1 s1⟩) (fun _ _ q => q) h⟩
theorem cut_whole {xs : List D} {lo hi : Option Int} (h : HT.sIx xs.length 0 lo = 0 ∧ HT.sIx xs.length xs.length hi = xs.length) : cutD xs lo hi = xs := by
  unfold cutD
  rw [h.1, h.2]
  simp
theorem je_slc (hF : FMono F) {a : Expr} {lo hi : Option Expr} {ia : IE} {il ih : IO} {p2 pos : Pos} (ha : PE X a (liftE X.K RX W (wE F ia))) (hl : PO X lo (liftO X.K RX W (wO F il))) (hh : PO X hi (liftO X.K RX W (wO F ih))) :
    PE X (.Subscript a (.Slice lo hi none p2) pos) (liftE X.K RX W (wE F (.slc ia il ih))) :=
  PE.imp (pe_slice (SlR.or sl_tupA (SlR.or sl_str sl_list)) ha hl hh) fun σ H Q ⟨env, M, s, h⟩ => ⟨env, M, s, wE_mono hF ia (fun d M1 q v H1 x1 s1 r1 =>
    ⟨env, M1, s1, wO_mono hF il (fun l M2 q H2 x2 s2 => ⟨env, M2, s2, wO_mono hF ih (fun u M3 q3 H3 x3 s3 => by
      have r3 := (r1.mono (x2.tm s1)).mono (x3.tm s2)
      cases d with
      | tup xs =>
        have qq : postE _ σ H env M Q (.tup (cutD xs l u)) M3 := q3
        obtain ⟨p, vs, rfl, h1, h2⟩ := r3
        refine .inl ⟨p, vs, rfl, h1, fun w => ?_, fun w p hp => ?_⟩
        · rw [← h2.length] at w
          rw [cut_whole w] at qq
          exact (qq.go ((x1.trans x2).trans x3)).at s3 (d := .tup xs) ⟨p, vs, rfl, h1, h2⟩
        · refine (qq.go ((x1.trans x2).trans x3)).alc s3 (d := .tup (cutD xs l u)) (Alc.new hp) ⟨p, _, rfl, SqT.of L2.upd_same, ?_⟩
          exact (h2.cut l u).mono (Alc.new hp).tm
      | str z =>
        cases r3
        exact .inr (.inl ⟨z, rfl, q3.1, (q3.2.go ((x1.trans x2).trans x3)).at s3 (d := .str _) rfl⟩)
      | ref a =>
        cases r3
        obtain ⟨xs, e, qq⟩ := q3
        obtain ⟨vs, h1, h2⟩ := s3.mem _ _ e
        refine .inr (.inr ⟨a, vs, rfl, SqL.of h1, fun p hp => ?_⟩)
        have hM : M3 p = none := s3.fresh hp
        have al : Alc H3 (L2.upd H3 p (.lst (cutV vs l u))) := Alc.new hp
        refine ((qq p hM).go ((x1.trans x2).trans x3)) (.ref p) _ (fun c o e n no => ?_) ((s3.alc al).put L2.upd_same ((h2.cut l u).mono al.tm) hM fun i q o' e z => ?_) rfl
        · have hc : c ≠ p := fun z => by subst z; rw [hp] at e; cases e
          exact ⟨al _ _ e, by rw [upd_other hc]; exact n⟩
        · subst z
          obtain ⟨_, h3, _⟩ := s3.owns i _ o' e
          exact absurd hp h3.notTup.2.2
      | _ => exact q3.elim) (fun _ _ q => q.go (x1.trans x2)) q⟩) (fun _ _ q => q.go x1) q⟩) (fun _ _ q => q) h⟩
theorem je_rev (hF : FMono F) {a : Expr} {ia : IE} {k : Nat} {p1 p2 p3 pos : Pos} (ha : PE X a (liftE X.K RX W (wE F ia))) :
    PE X (.Subscript a (.Slice none none (some (.UnaryOp .USub (.Constant (.int 1) k p1) p2)) p3) pos) (liftE X.K RX W (wE F (.rev ia))) :=
  PE.imp (DLK.pe_revT ha) fun σ H Q ⟨env, M, s, h⟩ => ⟨env, M, s, wE_mono hF ia (fun d M1 q v H1 x1 s1 r1 => by
      obtain ⟨xs, rfl, qq⟩ := q
      obtain ⟨p, vs, rfl, h1, h2⟩ := r1
      refine ⟨p, vs, rfl, h1, fun p hp => ?_⟩
      refine (qq.go x1).alc s1 (d := .tup xs.reverse) (Alc.new hp) ⟨p, _, rfl, SqT.of L2.upd_same, ?_⟩
      exact h2.reverse.mono (Alc.new hp).tm) (fun _ _ q => q) h⟩

theorem je_rev0 (hF : FMono F) {a : Expr} {ia : IE} {k k0 : Nat} {p0 p1 p2 p3 pos : Pos} (ha : PE X a (liftE X.K RX W (wE F ia))) :
    PE X (.Subscript a (.Slice none (some (.Constant (.int 0) k0 p0)) (some (.UnaryOp .USub (.Constant (.int 1) k p1) p2)) p3) pos) (liftE X.K RX W (wE F (.rev0 ia))) :=
  PE.imp (DLK.pe_revT0 ha) fun σ H Q ⟨env, M, s, h⟩ => ⟨env, M, s, wE_mono hF ia (fun d M1 q v H1 x1 s1 r1 => by
      obtain ⟨xs, rfl, qq⟩ := q
      obtain ⟨p, vs, rfl, h1, h2⟩ := r1
      refine ⟨p, vs, rfl, h1, fun p hp => ?_⟩
      refine (qq.go x1).alc s1 (d := .tup (xs.drop 1).reverse) (Alc.new hp) ⟨p, _, rfl, SqT.of L2.upd_same, ?_⟩
      exact (h2.drop 1).reverse.mono (Alc.new hp).tm) (fun _ _ q => q) h⟩
theorem je_revL (hF : FMono F) {a : Expr} {ia : IE} {k : Nat} {p1 p2 p3 pos : Pos} (ha : PE X a (liftE X.K RX W (wE F ia))) :
    PE X (.Subscript a (.Slice none none (some (.UnaryOp .USub (.Constant (.int 1) k p1) p2)) p3) pos) (liftE X.K RX W (wE F (.revL ia))) :=
  PE.imp (pe_revL ha) fun σ H Q ⟨env, M, s, h⟩ => ⟨env, M, s, wE_mono hF ia (fun d M1 q v H1 x1 s1 r1 => by
      obtain ⟨a, xs, rfl, e, qq⟩ := q
      cases r1
      obtain ⟨vs, h1, h2⟩ := s1.mem _ _ e
      refine ⟨a, vs, rfl, SqL.of h1, fun p hp => ?_⟩
      have hM : M1 p = none := s1.fresh hp
      have al : Alc H1 (L2.upd H1 p (.lst vs.reverse)) := Alc.new hp
      refine ((qq p hM).go x1) (.ref p) _ (fun c o e n no => ?_) ((s1.alc al).put L2.upd_same (h2.reverse.mono al.tm) hM fun i q o' e z => ?_) rfl
      · have hc : c ≠ p := fun z => by subst z; rw [hp] at e; cases e
        exact ⟨al _ _ e, by rw [upd_other hc]; exact n⟩
      · subst z
        obtain ⟨_, h3, _⟩ := s1.owns i _ o' e
        exact absurd hp h3.notTup.2.2) (fun _ _ q => q) h⟩

/-! ### built-ins on values -/
theorem call_max3 (hc : X.calm = true) : CallR X (.builtin "max") (fun xs H Q => ∃ i j k, xs = [.int i, .int j, .int k] ∧ Q (.int (max (max i j) k)) H) := by
  intro pins s σ H xs us Q I r h
  obtain ⟨i, j, k, rfl, q⟩ := h
  cases r with
  | cons r1 r => cases r with
    | cons r2 r => cases r with
      | cons r3 r =>
        cases r
        obtain ⟨t, rfl⟩ := r1
        obtain ⟨t', rfl⟩ := r2
        obtain ⟨t'', rfl⟩ := r3
        refine max_three_ints (I.ok.hd hc) fun h' tk kk => ⟨_, H, I.kept kk, ?_, q⟩
        by_cases h1 : j > i
        · rw [if_pos h1]
          by_cases h2 : k > j
          · rw [if_pos h2]; exact ⟨t'', by congr 1; omega⟩
          · rw [if_neg h2]; exact ⟨t', by congr 1; omega⟩
        · rw [if_neg h1]
          by_cases h2 : k > i
          · rw [if_pos h2]; exact ⟨t'', by congr 1; omega⟩
          · rw [if_neg h2]; exact ⟨t, by congr 1; omega⟩
theorem ints_rep : ∀ {ns : List Int} {us : List V}, Reps K H (ns.map D.int) us → us = ns.map V.int
  | [], us, r => r
  | y :: ys, us, r => by
    obtain ⟨v, us', rfl, h1, h2⟩ := r
    rw [ints_rep h2]
    cases h1
    rfl
theorem reads_ints {h : Heap} : ∀ {ns : List Int} {us : List Value}, Vals (ns.map V.int) us → ∃ as, ReadsAll h us (ns.map PyData.int) as
  | [], us, r => by cases r; exact ⟨[], .nil⟩
  | n :: ns, us, r => by
    cases r with
    | cons a b =>
      obtain ⟨t, rfl⟩ := a
      obtain ⟨as, h2⟩ := reads_ints (h := h) b
      exact ⟨_, .cons (.int _ _) h2⟩
theorem alike_ints {ns : List Int} : PySem.W.AlikeAll (ns.map PyData.int) := by
  refine ⟨fun x hx y hy => ?_, fun x hx => ?_⟩
  · obtain ⟨a, _, rfl⟩ := List.mem_map.mp hx
    obtain ⟨b, _, rfl⟩ := List.mem_map.mp hy
    rfl
  · obtain ⟨a, _, rfl⟩ := List.mem_map.mp hx
    exact fun z => by cases z
theorem depth_ints : ∀ {ns : List Int}, PyData.depthAll (ns.map PyData.int) = 0
  | [] => rfl
  | n :: ns => by simp [PyData.depthAll, PyData.depth, depth_ints (ns := ns)]
theorem fold_max : ∀ (ns : List Int) (n : Int), ns.foldl max n ∈ n :: ns ∧ ∀ y ∈ n :: ns, y ≤ ns.foldl max n
  | [], n => ⟨by simp, fun y hy => by simp at hy; simp [hy]⟩
  | m :: ns, n => by
    obtain ⟨h1, h2⟩ := fold_max ns (max n m)
    refine ⟨?_, fun y hy => ?_⟩
    · rw [List.foldl_cons]
      rcases List.mem_cons.mp h1 with z | z
      · rw [z]
        by_cases e : n ≤ m
        · rw [Int.max_eq_right e]; simp
        · rw [Int.max_eq_left (by omega)]; simp
      · simp [z]
    · rw [List.foldl_cons]
      have h3 := h2 (max n m) List.mem_cons_self
      rcases List.mem_cons.mp hy with z | z
      · subst z; exact Int.le_trans (Int.le_max_left _ _) h3
      · rcases List.mem_cons.mp z with z | z
        · subst z; exact Int.le_trans (Int.le_max_right _ _) h3
        · exact h2 y (List.mem_cons_of_mem _ z)
theorem fold_min : ∀ (ns : List Int) (n : Int), ns.foldl min n ∈ n :: ns ∧ ∀ y ∈ n :: ns, ns.foldl min n ≤ y
  | [], n => ⟨by simp, fun y hy => by simp at hy; simp [hy]⟩
  | m :: ns, n => by
    obtain ⟨h1, h2⟩ := fold_min ns (min n m)
    refine ⟨?_, fun y hy => ?_⟩
    · rw [List.foldl_cons]
      rcases List.mem_cons.mp h1 with z | z
      · rw [z]
        by_cases e : n ≤ m
        · rw [Int.min_eq_left e]; simp
        · rw [Int.min_eq_right (by omega)]; simp
      · simp [z]
    · rw [List.foldl_cons]
      have h3 := h2 (min n m) List.mem_cons_self
      rcases List.mem_cons.mp hy with z | z
      · subst z; exact Int.le_trans h3 (Int.min_le_left _ _)
      · rcases List.mem_cons.mp z with z | z
        · subst z; exact Int.le_trans h3 (Int.min_le_right _ _)
        · exact h2 y (List.mem_cons_of_mem _ z)
theorem int_reads {h : Heap} {v : Value} {i : Int} {bs : List Addr} (r : Reads h v (.int i) bs) : ∃ t, v = .int i t := by cases r; exact ⟨_, rfl⟩
theorem call_maxT (hu : X.A.units + 100 < cLine) (hc : X.calm = true) : CallR X (.builtin "max") (fun xs H Q => ∃ p, ∃ ns : List Int, xs = [.ref p] ∧ SqT X.K H p (ns.map V.int) ∧ 0 < ns.length ∧ ∀ m, m ∈ ns → (∀ y, y ∈ ns → y ≤ m) → Q (.int m) H) := by
  intro pins s σ H vs us Q I r h
  obtain ⟨p, ns, rfl, hs, h0, q⟩ := h
  obtain ⟨its, rv, ⟨o, e1, e2, m, e3⟩, _⟩ := I.tuple hs
  rw [Vals.ref1 r]
  cases ns with
  | nil => simp at h0
  | cons n ns =>
    obtain ⟨as, ra⟩ := reads_ints (h := s.heap) rv
    have room := line63
    refine PySem.W.max_tuple_data (I.ok.hd hc) ⟨o, e1, e2, m, e3⟩ (by simpa using ra) (alike_ints (ns := n :: ns)) (by rw [show (PyData.int n :: ns.map PyData.int) = (n :: ns).map PyData.int from rfl, depth_ints]; omega) fun i v h' tk bs _ hr hk => ?_
    rw [PySem.W.maxD_ints] at hr
    obtain ⟨t, rfl⟩ := int_reads hr
    obtain ⟨f1, f2⟩ := fold_max ns n
    exact ⟨.int _, H, I.kept hk, ⟨_, rfl⟩, q _ f1 f2⟩
theorem call_minT (hu : X.A.units + 100 < cLine) (hc : X.calm = true) : CallR X (.builtin "min") (fun xs H Q => ∃ p, ∃ ns : List Int, xs = [.ref p] ∧ SqT X.K H p (ns.map V.int) ∧ 0 < ns.length ∧ ∀ m, m ∈ ns → (∀ y, y ∈ ns → m ≤ y) → Q (.int m) H) := by
  intro pins s σ H vs us Q I r h
  obtain ⟨p, ns, rfl, hs, h0, q⟩ := h
  obtain ⟨its, rv, ⟨o, e1, e2, m, e3⟩, _⟩ := I.tuple hs
  rw [Vals.ref1 r]
  cases ns with
  | nil => simp at h0
  | cons n ns =>
    obtain ⟨as, ra⟩ := reads_ints (h := s.heap) rv
    have room := line63
    refine PySem.W.min_tuple_data (I.ok.hd hc) ⟨o, e1, e2, m, e3⟩ (by simpa using ra) (alike_ints (ns := n :: ns)) (by rw [show (PyData.int n :: ns.map PyData.int) = (n :: ns).map PyData.int from rfl, depth_ints]; omega) fun i v h' tk bs _ hr hk => ?_
    rw [PySem.W.minD_ints] at hr
    obtain ⟨t, rfl⟩ := int_reads hr
    obtain ⟨f1, f2⟩ := fold_min ns n
    exact ⟨.int _, H, I.kept hk, ⟨_, rfl⟩, q _ f1 f2⟩
theorem reps1 {d : D} {vs : List V} (h : Reps K H [d] vs) : ∃ v, vs = [v] ∧ Rep K H d v := by
  obtain ⟨v, r, rfl, h1, h2⟩ := h
  cases h2; exact ⟨v, rfl, h1⟩
theorem reps2 {d e : D} {vs : List V} (h : Reps K H [d, e] vs) : ∃ v u, vs = [v, u] ∧ Rep K H d v ∧ Rep K H e u := by
  obtain ⟨v, r, rfl, h1, h2⟩ := h
  obtain ⟨u, rfl, h3⟩ := reps1 h2
  exact ⟨v, u, rfl, h1, h3⟩
theorem reps3 {d e f : D} {vs : List V} (h : Reps K H [d, e, f] vs) : ∃ v u w, vs = [v, u, w] ∧ Rep K H d v ∧ Rep K H e u ∧ Rep K H f w := by
  obtain ⟨v, r, rfl, h1, h2⟩ := h
  obtain ⟨u, w, rfl, h3, h4⟩ := reps2 h2
  exact ⟨v, u, w, rfl, h1, h3, h4⟩
/-- the built-in function or type of a name -/
def Blt.fn : Blt → Value
  | .len => .builtin "len" | .int => .type "int" | .bool => .type "bool" | .abs => .builtin "abs" | .max => .builtin "max" | .min => .builtin "min" | .tuple => .type "tuple" | .isa _ => .builtin "isinstance" | .str => .type "str"
def rBlt (K : PySem.W.Frag) (b : Blt) : List V → Hp → VK → Prop := fun vs H Q => ∃ ds M, MemOk K H M ∧ Reps K H ds vs ∧ wBlt b ds M fun z => ∀ v H', Alc H H' → Rep K H' z v → Q v H'
theorem call_blt (hu : X.A.units + 100 < cLine) (hc : X.calm = true) (b : Blt) (hb : ∀ t, b ≠ .isa t) : CallR X b.fn (rBlt X.K b) := by
  intro pins s σ H vs us Q I r h
  obtain ⟨ds, M, m, hr, w⟩ := h
  unfold wBlt at w
  split at w
  · obtain ⟨v, rfl, p, ys, rfl, h1, h2⟩ := reps1 hr
    exact call_len pins s σ H _ us Q I r ⟨_, _, rfl, .inr ⟨ys, h1, rfl⟩, w _ _ Alc.refl (by rw [h2.length]; rfl)⟩
  · obtain ⟨v, rfl, h1⟩ := reps1 hr
    cases h1
    exact call_len pins s σ H _ us Q I r ⟨_, _, rfl, ⟨w.1, rfl⟩, w.2 _ _ Alc.refl rfl⟩
  · obtain ⟨v, rfl, h1⟩ := reps1 hr
    cases h1
    obtain ⟨xs, e, w⟩ := w
    obtain ⟨ys, h1, h2⟩ := m _ _ e
    exact call_len pins s σ H _ us Q I r ⟨_, _, rfl, .inl ⟨ys, SqL.of h1, rfl⟩, w _ _ Alc.refl (by rw [h2.length]; rfl)⟩
  · obtain ⟨v, rfl, h1⟩ := reps1 hr
    cases h1
    exact call_int1 pins s σ H _ us Q I r (.inl ⟨_, rfl, w _ _ Alc.refl rfl⟩)
  · obtain ⟨v, rfl, h1⟩ := reps1 hr
    cases h1
    exact call_int1 pins s σ H _ us Q I r (.inr ⟨_, rfl, w _ _ Alc.refl rfl⟩)
  · obtain ⟨v, rfl, h1⟩ := reps1 hr
    cases h1
    exact call_bool1 pins s σ H _ us Q I r (.inr ⟨_, rfl, w _ _ Alc.refl rfl⟩)
  · obtain ⟨v, rfl, h1⟩ := reps1 hr
    cases h1
    exact call_bool1 pins s σ H _ us Q I r (.inl ⟨_, rfl, w _ _ Alc.refl rfl⟩)
  · obtain ⟨v, rfl, h1⟩ := reps1 hr
    cases h1
    exact call_abs pins s σ H _ us Q I r ⟨_, rfl, w _ _ Alc.refl rfl⟩
  · obtain ⟨v, v2, rfl, h1, h2⟩ := reps2 hr
    cases h1; cases h2
    refine call_max2 hc pins s σ H _ us Q I r ⟨_, _, rfl, w _ _ Alc.refl ?_⟩
    show V.int _ = V.int _
    congr 1; split <;> omega
  · obtain ⟨v, v2, v3, rfl, h1, h2, h3⟩ := reps3 hr
    cases h1; cases h2; cases h3
    exact call_max3 hc pins s σ H _ us Q I r ⟨_, _, _, rfl, w _ _ Alc.refl rfl⟩
  · obtain ⟨v, v2, rfl, h1, h2⟩ := reps2 hr
    cases h1; cases h2
    refine call_min2 hc pins s σ H _ us Q I r ⟨_, _, rfl, w _ _ Alc.refl ?_⟩
    show V.int _ = V.int _
    congr 1; split <;> omega
  · obtain ⟨v, rfl, h1⟩ := reps1 hr
    obtain ⟨p, ys, rfl, h1, h2⟩ := h1
    obtain ⟨ns, rfl, h0, w⟩ := w
    exact call_maxT hu hc pins s σ H _ us Q I r ⟨p, ns, rfl, by rw [← ints_rep h2]; exact h1, h0, fun m a b => w m a b _ _ Alc.refl rfl⟩
  · obtain ⟨v, rfl, h1⟩ := reps1 hr
    obtain ⟨p, ys, rfl, h1, h2⟩ := h1
    obtain ⟨ns, rfl, h0, w⟩ := w
    exact call_minT hu hc pins s σ H _ us Q I r ⟨p, ns, rfl, by rw [← ints_rep h2]; exact h1, h0, fun m a b => w m a b _ _ Alc.refl rfl⟩
  · obtain ⟨v, rfl, h1⟩ := reps1 hr
    obtain ⟨p, ys, rfl, h1, h2⟩ := h1
    exact call_tupleT pins s σ H _ us Q I r ⟨_, _, rfl, h1, w _ _ Alc.refl ⟨p, ys, rfl, h1, h2⟩⟩
  · obtain ⟨v, rfl, h1⟩ := reps1 hr
    cases h1
    obtain ⟨xs, e, w⟩ := w
    obtain ⟨ys, h1, h2⟩ := m _ _ e
    exact call_tuple_of pins s σ H _ us Q I r ⟨_, ys, rfl, .inl ⟨SqL.of h1, fun l hl => w _ _ (Alc.new hl) ⟨l, ys, rfl, SqT.of L2.upd_same, h2.mono (Alc.new hl).tm⟩⟩⟩
  · exact absurd rfl (hb _)
  · exact absurd rfl (hb _)
  · exact absurd rfl (hb _)
  · obtain ⟨v, rfl, h1⟩ := reps1 hr
    cases h1
    exact call_str_int pins s σ H _ us Q I r ⟨_, rfl, w.1, w.2 _ _ Alc.refl rfl⟩
  · exact w.elim
theorem je_blt (hF : FMono F) (b : Blt) {es : IEs} {e : Expr} {t : TE} (h : PE X e t) (ht : ∀ σ H Q, liftA X.K RX W (wEs F es) σ H (fun vs H1 => rBlt X.K b vs H1 Q) → t σ H Q) : PE X e (liftE X.K RX W (wE F (.blt b es))) :=
  PE.imp h fun σ H Q ⟨env, M, s, h⟩ => ht σ H Q ⟨env, M, s, wEs_mono hF es (fun ds M1 q vs H1 x1 s1 r1 => ⟨ds, M1, s1.mem, r1, wBlt_mono (fun z q v H' a r => (q.go x1).alc s1 a r) q⟩) (fun _ _ q => q) h⟩
/-- isinstance -/
def Ty.nm : Ty → String
  | .int => "int" | .bool => "bool" | .str => "str" | .tuple => "tuple" | .list => "list"
theorem kit_all : ∀ t : Ty, kitB "NoneType" t.nm = some false ∧ kitB "bool" t.nm = some (D.isa (.bl true) t) ∧ kitB "int" t.nm = some (D.isa (.int 0) t) ∧ kitB "str" t.nm = some (D.isa (.str ⟨#[]⟩) t) ∧ kitB "tuple" t.nm = some (D.isa (.tup []) t) ∧
    kitB "list" t.nm = some (match t with | .list => true | _ => false) := by
  intro t; cases t <;> decide +kernel
theorem call_isinst (t : Ty) : CallR X (.builtin "isinstance") (fun xs H Q => ∃ x d M, xs = [x, .ty t.nm] ∧ MemOk X.K H M ∧ Rep X.K H d x ∧ wBlt (.isa t) [d] M fun z => ∀ v, Rep X.K H z v → Q v H) := by
  intro pins s σ H vs us Q I r h
  obtain ⟨x, d, M, rfl, m, hr, w⟩ := h
  have k := kit_all t
  have go : ∀ {T : String} {b : Bool}, TyX X.K H x (.type T) → kitB T t.nm = some b → Q (.bl b) H → wpAny (model X.prog X.w) X.A (call (.builtin "isinstance") us) (EP X pins σ Q) X.xe s := fun ty kb q =>
    call_isi pins s σ H _ us Q I r ⟨x, _, _, _, _, rfl, .ty _, ty, kit_ty kb, q⟩
  cases d with
  | non => cases hr; exact go (.base .non) k.1 (w (.bl _) rfl)
  | bl b =>
    cases hr
    refine go (.base (.bl b)) (b := D.isa (.bl b) t) ?_ (w (.bl _) rfl)
    rw [k.2.1]; cases t <;> rfl
  | int i =>
    cases hr
    refine go (.base (.int i)) (b := D.isa (.int i) t) ?_ (w (.bl _) rfl)
    rw [k.2.2.1]; cases t <;> rfl
  | str i =>
    cases hr
    refine go (.base (.str i)) (b := D.isa (.str i) t) ?_ (w (.bl _) rfl)
    rw [k.2.2.2.1]; cases t <;> rfl
  | tup ds =>
    obtain ⟨p, ys, rfl, h1, h2⟩ := hr
    have kb : kitB "tuple" t.nm = some (D.isa (.tup ds) t) := by rw [k.2.2.2.2.1]; cases t <;> rfl
    rcases h1 with (h1 | ⟨o, h1⟩) | ⟨o, its, n, h1, hc, _⟩
    · exact go (.base (.tup h1)) kb (w (.bl _) rfl)
    · exact go (.fTuple h1) kb (w (.bl _) rfl)
    · exact go (.kTuple h1 hc) kb (w (.bl _) rfl)
  | ref a =>
    cases hr
    obtain ⟨⟨xs, e⟩, w⟩ := w
    obtain ⟨ys, h1, h2⟩ := m _ _ e
    exact go (.base (.lst h1)) k.2.2.2.2.2 (w (.bl _) rfl)
  | rl xs => exact w.elim
end
end DL
/-! Soundness: lists, comprehensions, what is walked. -/
namespace DL
open PySem PySem.Spec PyProof.Rows L2

section
variable {X : Cx} {RX : RXT} {W : WX} {F : FS}
variable {K : PySem.W.Frag} {σ : L2.St} {H H1 H2 : Hp} {env : Env} {M M1 M2 : Mem} {Q : VK}
abbrev W0 : WX := fun _ _ _ _ => False
theorem x0_post {x : Xn} {M' : Mem} (h : X0 x M') {W : WX} : postX K RX W σ H env M x M' := h.elim

/-! ### lists that are read -/
theorem jl_new {e : Expr} {n : IN} (h : PE X e (liftN X.K RX W (wN F n))) (hF : FMono F) : PE X e (liftL X.K RX W (wL F (.new n))) :=
  PE.imp h fun σ H Q ⟨env, M, s, h⟩ => ⟨env, M, s, wN_mono hF n (fun xs M1 q p vs H1 x1 s1 hp r hM _ _ => q p vs H1 x1 s1 (SqL.of hp) r) (fun _ _ q => q) h⟩
theorem jl_own {i : Nat} {x : Str} {pos : Pos} (hN : X.N[i]? = some x) (hv : Vis X.env.scope x) (hd : (x == ("__debug__" : Str)) = false) (hcd : (x == ("__classdict__" : Str)) = false) :
    PE X (.Name x pos) (liftL X.K RX W (wL F (.own i))) :=
  PE.imp (pe_var (i := i) hN hv hd hcd) fun σ H Q ⟨env, M, s, p, xs, e, q⟩ => by
    obtain ⟨h1, ⟨vs, h2, h3⟩, h4⟩ := s.owns i p _ e
    exact ⟨_, h1, q p vs H Ext.refl s (SqL.of h2) h3⟩
theorem jl_ref (hF : FMono F) {e : Expr} {ie : IE} (h : PE X e (liftE X.K RX W (wE F ie))) : PE X e (liftL X.K RX W (wL F (.ref ie))) :=
  PE.imp h fun σ H Q ⟨env, M, s, h⟩ => ⟨env, M, s, wE_mono hF ie (fun d M1 q v H1 x1 s1 r1 => by
    obtain ⟨a, xs, rfl, e, q⟩ := q
    cases r1
    obtain ⟨vs, h2, h3⟩ := s1.mem _ _ e
    exact q a vs H1 x1 s1 (SqL.of h2) h3) (fun _ _ q => q) h⟩
/-- a new list goes into the memory -/
theorem je_mk (hF : FMono F) {e : Expr} {n : IN} (h : PE X e (liftN X.K RX W (wN F n))) : PE X e (liftE X.K RX W (wE F (.mk n))) :=
  PE.imp h fun σ H Q ⟨env, M, s, h⟩ => ⟨env, M, s, wN_mono hF n (fun xs M1 q p vs H1 x1 s1 hp r hM hf no => by
    refine q p hM _ _ (fun a o e n k => ?_) (s1.put hp r hM no) rfl
    obtain ⟨e1, e2⟩ := x1 a o e n k
    refine ⟨e1, ?_⟩
    rw [upd_other (fun z => by subst z; rw [hf n] at e; cases e)]
    exact e2) (fun _ _ q => q) h⟩
/-- what takes a list -/
def LK.fn : LK → Value
  | .tuple => .type "tuple" | .all => .builtin "all" | .any => .builtin "any" | .len => .builtin "len" | .sum => .builtin "sum" | .max => .builtin "max" | .min => .builtin "min"
def rLK (K : PySem.W.Frag) (k : LK) : List V → Hp → VK → Prop := fun vs H Q => ∃ p us xs, vs = [.ref p] ∧ SqL K H p us ∧ Reps K H xs us ∧ wLK k xs fun z => ∀ v H', Alc H H' → Rep K H' z v → Q v H'
theorem bls_of : ∀ {xs : List D} {us : List V} {b : Bool}, Reps K H xs us → allBl xs = some b → ∃ bs : List Bool, us = bs.map V.bl ∧ bs.all id = b
  | [], us, b, r, h => by cases r; cases h; exact ⟨[], rfl, rfl⟩
  | d :: xs, us, b, r, h => by
    obtain ⟨v, us', rfl, h1, h2⟩ := r
    cases d with
    | bl c =>
      cases h1
      simp only [allBl, Option.map_eq_some_iff] at h
      obtain ⟨b', e, rfl⟩ := h
      obtain ⟨bs, rfl, e2⟩ := bls_of h2 e
      exact ⟨c :: bs, rfl, by simp [e2]⟩
    | _ => simp [allBl] at h
theorem anys_of : ∀ {xs : List D} {us : List V} {b : Bool}, Reps K H xs us → anyBl xs = some b → ∃ bs : List Bool, us = bs.map V.bl ∧ bs.any id = b
  | [], us, b, r, h => by cases r; cases h; exact ⟨[], rfl, rfl⟩
  | d :: xs, us, b, r, h => by
    obtain ⟨v, us', rfl, h1, h2⟩ := r
    cases d with
    | bl c =>
      cases h1
      simp only [anyBl, Option.map_eq_some_iff] at h
      obtain ⟨b', e, rfl⟩ := h
      obtain ⟨bs, rfl, e2⟩ := anys_of h2 e
      exact ⟨c :: bs, rfl, by simp [e2]⟩
    | _ => simp [anyBl] at h
theorem ints_of : ∀ {xs : List D} {us : List V} {b : Int}, Reps K H xs us → sumD xs = some b → ∃ bs : List Int, us = bs.map V.int ∧ bs.sum = b
  | [], us, b, r, h => by cases r; cases h; exact ⟨[], rfl, rfl⟩
  | d :: xs, us, b, r, h => by
    obtain ⟨v, us', rfl, h1, h2⟩ := r
    cases d with
    | int c =>
      cases h1
      simp only [sumD, Option.map_eq_some_iff] at h
      obtain ⟨b', e, rfl⟩ := h
      obtain ⟨bs, rfl, e2⟩ := ints_of h2 e
      exact ⟨c :: bs, rfl, by simp [e2]⟩
    | _ => simp [sumD] at h
theorem ints_reps : ∀ {ns : List Int} {us : List V}, Reps K H (ns.map D.int) us → us = ns.map V.int
  | [], us, r => r
  | y :: ys, us, r => by
    obtain ⟨v, us', rfl, h1, h2⟩ := r
    rw [ints_reps h2]
    cases h1
    rfl
theorem call_lk (hc : X.calm = true) (k : LK) : CallR X k.fn (rLK X.K k) := by
  intro pins s σ H vs us Q I r h
  obtain ⟨p, us', xs, rfl, hs, hr, w⟩ := h
  cases k with
  | tuple => exact call_tuple_of pins s σ H _ us Q I r ⟨p, us', rfl, .inl ⟨hs, fun l hl => w _ _ (Alc.new hl) ⟨l, us', rfl, SqT.of L2.upd_same, hr.mono (Alc.new hl).tm⟩⟩⟩
  | len => exact call_len pins s σ H _ us Q I r ⟨_, _, rfl, .inl ⟨us', hs, rfl⟩, w _ _ Alc.refl (by rw [hr.length]; rfl)⟩
  | all =>
    obtain ⟨b, e, w⟩ := w
    obtain ⟨bs, rfl, e2⟩ := bls_of hr e
    exact cr_all hc pins s σ H _ us Q I r ⟨p, bs, rfl, hs, by rw [e2]; exact w _ _ Alc.refl rfl⟩
  | any =>
    obtain ⟨b, e, w⟩ := w
    obtain ⟨bs, rfl, e2⟩ := anys_of hr e
    exact cr_any hc pins s σ H _ us Q I r ⟨p, bs, rfl, hs, by rw [e2]; exact w _ _ Alc.refl rfl⟩
  | sum =>
    obtain ⟨b, e, w⟩ := w
    obtain ⟨bs, rfl, e2⟩ := ints_of hr e
    exact cr_sum hc pins s σ H _ us Q I r ⟨p, bs, rfl, hs, by rw [e2]; exact w _ _ Alc.refl rfl⟩
  | max =>
    obtain ⟨ns, rfl, h0, w⟩ := w
    have e := ints_reps hr
    subst e
    exact cr_max hc pins s σ H _ us Q I r ⟨p, ns, rfl, hs, h0, fun m h1 h2 => w m h1 h2 _ _ Alc.refl rfl⟩
  | min =>
    obtain ⟨ns, rfl, h0, w⟩ := w
    have e := ints_reps hr
    subst e
    exact cr_min hc pins s σ H _ us Q I r ⟨p, ns, rfl, hs, h0, fun m h1 h2 => w m h1 h2 _ _ Alc.refl rfl⟩
theorem je_lk (hF : FMono F) (k : LK) {l : IL} {e e' : Expr} {t : TE} (h : PE X e t) (ht : ∀ σ H Q, (liftL X.K RX W (wL F l) σ H fun x H1 => rLK X.K k [x] H1 Q) → t σ H Q) : PE X e (liftE X.K RX W (wE F (.lk k l))) :=
  PE.imp h fun σ H Q ⟨env, M, s, h⟩ => ht σ H Q ⟨env, M, s, wL_mono hF l (fun xs M1 q p us H1 x1 s1 hs r => ⟨p, us, xs, rfl, hs, r, wLK_mono (fun z q v H' a r => (q.go x1).alc s1 a r) q⟩) (fun _ _ q => q) h⟩
/-! ### targets -/
theorem StE.setVal {i : Nat} {d : D} {v : V} (s : StE K σ H env M) (r : Rep K H d v) : StE K (σ.set i (some v)) H (env.set i (.val d)) M where
  len := by simp [s.len]
  vals := fun j e h => by
    by_cases hj : j = i
    · subst hj
      by_cases hl : j < env.length
      · rw [List.getElem?_set_self hl] at h
        cases h
        exact ⟨v, by rw [List.getElem?_set_self (s.len ▸ hl)], r⟩
      · rw [List.getElem?_eq_none (by simpa using Nat.not_lt.mp hl)] at h; cases h
    · rw [List.getElem?_set_ne (Ne.symm hj)] at h
      obtain ⟨u, h1, h2⟩ := s.vals j e h
      exact ⟨u, by rw [List.getElem?_set_ne (Ne.symm hj)]; exact h1, h2⟩
  owns := fun j p o h => by
    by_cases hj : j = i
    · subst hj
      by_cases hl : j < env.length
      · rw [List.getElem?_set_self hl] at h; cases h
      · rw [List.getElem?_eq_none (by simpa using Nat.not_lt.mp hl)] at h; cases h
    · rw [List.getElem?_set_ne (Ne.symm hj)] at h
      obtain ⟨h1, h2, h3⟩ := s.owns j p o h
      exact ⟨by rw [List.getElem?_set_ne (Ne.symm hj)]; exact h1, h2, h3⟩
  inj := fun j k p o o' h h' => by
    have go : ∀ (j : Nat) p o, (env.set i (.val d))[j]? = some (.own p o) → env[j]? = some (Slot.own p o) := fun j p o h => by
      by_cases hj : j = i
      · subst hj
        by_cases hl : j < env.length
        · rw [List.getElem?_set_self hl] at h; cases h
        · rw [List.getElem?_eq_none (by simpa using Nat.not_lt.mp hl)] at h; cases h
      · rw [List.getElem?_set_ne (Ne.symm hj)] at h; exact h
    exact s.inj j k p o o' (go _ _ _ h) (go _ _ _ h')
  mem := s.mem
theorem StE.setNo {i : Nat} {v : Option V} (s : StE K σ H env M) : StE K (σ.set i v) H (env.set i .no) M where
  len := by simp [s.len]
  vals := fun j e h => by
    by_cases hj : j = i
    · subst hj
      by_cases hl : j < env.length
      · rw [List.getElem?_set_self hl] at h; cases h
      · rw [List.getElem?_eq_none (by simpa using Nat.not_lt.mp hl)] at h; cases h
    · rw [List.getElem?_set_ne (Ne.symm hj)] at h
      obtain ⟨u, h1, h2⟩ := s.vals j e h
      exact ⟨u, by rw [List.getElem?_set_ne (Ne.symm hj)]; exact h1, h2⟩
  owns := fun j p o h => by
    by_cases hj : j = i
    · subst hj
      by_cases hl : j < env.length
      · rw [List.getElem?_set_self hl] at h; cases h
      · rw [List.getElem?_eq_none (by simpa using Nat.not_lt.mp hl)] at h; cases h
    · rw [List.getElem?_set_ne (Ne.symm hj)] at h
      obtain ⟨h1, h2, h3⟩ := s.owns j p o h
      exact ⟨by rw [List.getElem?_set_ne (Ne.symm hj)]; exact h1, h2, h3⟩
  inj := fun j k p o o' h h' => by
    have go : ∀ (j : Nat) p o, (env.set i .no)[j]? = some (.own p o) → env[j]? = some (Slot.own p o) := fun j p o h => by
      by_cases hj : j = i
      · subst hj
        by_cases hl : j < env.length
        · rw [List.getElem?_set_self hl] at h; cases h
        · rw [List.getElem?_eq_none (by simpa using Nat.not_lt.mp hl)] at h; cases h
      · rw [List.getElem?_set_ne (Ne.symm hj)] at h; exact h
    exact s.inj j k p o o' (go _ _ _ h) (go _ _ _ h')
  mem := s.mem
theorem StE.wipe : ∀ {vs : List Nat}, StE K σ H env M → StE K (L2.wipe σ vs) H (wipeE env vs) M
  | [], s => s
  | v :: vs, s => (StE.wipe (vs := vs) s).setNo
theorem own_set {e : Env} {i j : Nat} {d : D} {p : Nat} {o : MO} (h : (e.set i (.val d))[j]? = some (.own p o)) : e[j]? = some (.own p o) ∧ j ≠ i := by
  by_cases hj : j = i
  · subst hj
    by_cases hl : j < e.length
    · rw [List.getElem?_set_self hl] at h; cases h
    · rw [List.getElem?_eq_none (by simpa using Nat.not_lt.mp hl)] at h; cases h
  · rw [List.getElem?_set_ne (Ne.symm hj)] at h; exact ⟨h, hj⟩
theorem own_setNo {e : Env} {i j : Nat} {p : Nat} {o : MO} (h : (e.set i .no)[j]? = some (.own p o)) : e[j]? = some (.own p o) ∧ j ≠ i := by
  by_cases hj : j = i
  · subst hj
    by_cases hl : j < e.length
    · rw [List.getElem?_set_self hl] at h; cases h
    · rw [List.getElem?_eq_none (by simpa using Nat.not_lt.mp hl)] at h; cases h
  · rw [List.getElem?_set_ne (Ne.symm hj)] at h; exact ⟨h, hj⟩
theorem wipe_own {e : Env} {j : Nat} {p : Nat} {o : MO} : ∀ {vs : List Nat}, (wipeE e vs)[j]? = some (.own p o) ↔ e[j]? = some (.own p o) ∧ j ∉ vs
  | [] => by simp [wipeE]
  | v :: vs => by
    constructor
    · intro h
      obtain ⟨h1, h2⟩ := own_setNo h
      obtain ⟨h3, h4⟩ := wipe_own.mp h1
      exact ⟨h3, by simp [h2, h4]⟩
    · rintro ⟨h1, h2⟩
      have h3 : j ≠ v ∧ j ∉ vs := by simpa using h2
      show ((wipeE e vs).set v .no)[j]? = _
      rw [List.getElem?_set_ne (Ne.symm h3.1)]
      exact wipe_own.mpr ⟨h1, h3.2⟩
/-- the target leaves what a list is alone, or writes over it -/
structure Kp (is : List Nat) (env e : Env) : Prop where
  len : e.length = env.length
  own : ∀ (j : Nat) p o, e[j]? = some (.own p o) → env[j]? = some (.own p o) ∧ j ∉ is
  out : ∀ j, j ∉ is → e[j]? = env[j]?
theorem Kp.set {i : Nat} {d : D} : Kp [i] env (env.set i (.val d)) where
  len := by simp
  own := fun j p o h => by obtain ⟨h1, h2⟩ := own_set h; exact ⟨h1, by simpa using h2⟩
  out := fun j h => List.getElem?_set_ne (by simpa using fun z => h (by simp [z]))
theorem Kp.setAll : ∀ {is : List Nat} {ds : List D} {env : Env}, is.length = ds.length → Kp is env (setAll env is ds)
  | [], [], env, _ => ⟨rfl, fun j p o h => ⟨h, by simp⟩, fun _ _ => rfl⟩
  | i :: is, d :: ds, env, h => by
    have k := Kp.setAll (is := is) (ds := ds) (env := env.set i (.val d)) (by simpa using h)
    refine ⟨by rw [DL.setAll, k.len]; simp, fun j p o h => ?_, fun j h => ?_⟩
    · obtain ⟨h1, h2⟩ := k.own j p o h
      obtain ⟨h3, h4⟩ := own_set h1
      exact ⟨h3, by simp [h4, h2]⟩
    · have h' : j ≠ i ∧ j ∉ is := by simpa using h
      show (DL.setAll (env.set i (.val d)) is ds)[j]? = _
      rw [k.out j h'.2, List.getElem?_set_ne (Ne.symm h'.1)]
theorem wTg_keep {t : Tg} {d : D} {R : Env → Prop} (h : wTg t d env R) : wTg t d env fun e => R e ∧ Kp t.slots env e := by
  unfold wTg at h ⊢
  split at h
  · exact ⟨h, Kp.set⟩
  · exact ⟨h.1, h.2, Kp.setAll h.1.symm⟩
  · rename_i i is d xs
    exact ⟨h.1, h.2, Kp.setAll (is := i :: is) (ds := d :: xs) (by simpa using h.1.symm)⟩
  · exact h.elim
/-- back out of a comprehension's block -/
theorem StE.unblk {is : List Nat} {e : Env} {σ' : L2.St} (s : StE K σ H env M) (k : Kp is (wipeE env is) e) (x : Ext e H M H1 M1) (s1 : StE K σ' H1 e M1) (t : Tm K H H1) : StE K σ H1 env M1 where
  len := s.len
  vals := fun i d h => by obtain ⟨v, h1, h2⟩ := s.vals i d h; exact ⟨v, h1, h2.mono t⟩
  owns := fun i p o h => by
    obtain ⟨h1, h2, h3⟩ := s.owns i p o h
    by_cases hi : i ∈ is
    · have no : ∀ (j : Nat) q o', e[j]? = some (.own q o') → q ≠ p := fun j q o' e1 z => by
        subst z
        obtain ⟨e2, e3⟩ := k.own j q o' e1
        have e4 := (wipe_own.mp e2).1
        have := s.inj i j q o o' h e4
        subst this; exact e3 hi
      have hx : ∀ u, H p = some u → H1 p = some u ∧ M1 p = none := fun u hu => x p u hu h3 no
      refine ⟨h1, h2.step (fun u hu => (hx u hu).1) t, ?_⟩
      cases e5 : H p with
      | none => exact absurd e5 h2.notTup.2.2
      | some u => exact (hx u e5).2
    · have : e[i]? = some (.own p o) := by rw [k.out i hi]; exact wipe_own.mpr ⟨h, hi⟩
      obtain ⟨_, h5, h6⟩ := s1.owns i p o this
      exact ⟨h1, h5, h6⟩
  inj := s.inj
  mem := s1.mem
/-- what is foreign to the block's surroundings is foreign to the block -/
theorem Ext.unblk {is : List Nat} {e : Env} (k : Kp is (wipeE env is) e) (x : Ext e H M H1 M1) : Ext env H M H1 M1 := fun a o h n no =>
  x a o h n fun j q o' e1 => no j q o' (wipe_own.mp (k.own j q o' e1).1).1
/-- a target and how it binds -/
structure GOk (X : Cx) (t : Tg) (tg : Expr) (g : TG) : Prop where
  pg : PG X tg g
  go : ∀ {d : D} {v : V} {σ : L2.St} {H : Hp} {env : Env} {M : Mem} {Q : L2.St → Hp → Prop}, StE X.K σ H env M → Rep X.K H d v →
    wTg t d env (fun e => ∀ σ', StE X.K σ' H e M → L2.wipe σ' t.slots = L2.wipe σ t.slots → Q σ' H) → g v σ H Q
theorem wipe_set {σ : L2.St} {i : Nat} {v : Option V} : ∀ {vs : List Nat}, i ∈ vs → L2.wipe (σ.set i v) vs = L2.wipe σ vs
  | w :: vs, h => by
    show (L2.wipe (σ.set i v) vs).set w none = (L2.wipe σ vs).set w none
    by_cases hi : i ∈ vs
    · rw [wipe_set hi]
    · have hw : i = w := by
        rcases List.mem_cons.mp h with z | z
        · exact z
        · exact absurd z hi
      subst hw
      refine List.ext_getElem? fun j => ?_
      by_cases hj : j = i
      · subst hj
        by_cases hl : j < σ.length
        · rw [List.getElem?_set_self (by rw [wipe_length]; simpa using hl), List.getElem?_set_self (by rw [wipe_length]; exact hl)]
        · rw [List.getElem?_eq_none (by simp [wipe_length]; omega), List.getElem?_eq_none (by simp [wipe_length]; omega)]
      · rw [List.getElem?_set_ne (Ne.symm hj), List.getElem?_set_ne (Ne.symm hj)]
        have : ∀ vs : List Nat, (L2.wipe (σ.set i v) vs)[j]? = (L2.wipe σ vs)[j]? := fun vs => by
          induction vs with
          | nil => exact List.getElem?_set_ne (Ne.symm hj)
          | cons u us ih =>
            show ((L2.wipe (σ.set i v) us).set u none)[j]? = ((L2.wipe σ us).set u none)[j]?
            by_cases hju : j = u
            · subst hju
              by_cases hl : j < σ.length
              · rw [List.getElem?_set_self (by rw [wipe_length]; simpa using hl), List.getElem?_set_self (by rw [wipe_length]; exact hl)]
              · rw [List.getElem?_eq_none (by simp [wipe_length]; omega), List.getElem?_eq_none (by simp [wipe_length]; omega)]
            · rw [List.getElem?_set_ne (Ne.symm hju), List.getElem?_set_ne (Ne.symm hju)]; exact ih
        exact this vs
theorem g_nm {i : Nat} {x : Str} {pos : Pos} (hN : X.N.Nodup) (hi : X.N[i]? = some x) (hx : Loc X.env.scope x) (hf : X.fn x = true ∨ X.env.scope.names.lookup x = some .local) : GOk X (.nm i) (.Name x pos) (gName i) :=
  ⟨pg_name hN hi hx hf, fun s r w => w _ (s.setVal r) (wipe_set (by simp [Tg.slots]))⟩
/-- several names -/
def gNames : List Nat → TGs
  | [] => gNil
  | i :: is => gCons (gName i) (gNames is)
theorem gNames_go : ∀ {is : List Nat} {ds : List D} {vs : List V} {σ : L2.St} {env : Env} {Q : L2.St → Hp → Prop} {js : List Nat}, StE K σ H env M → Reps K H ds vs → ds.length = is.length → (∀ i ∈ is, i ∈ js) →
    (∀ σ', StE K σ' H (setAll env is ds) M → L2.wipe σ' js = L2.wipe σ js → Q σ' H) → gNames is vs σ H Q
  | [], [], vs, σ, env, Q, js, s, r, _, _, w => by cases r; exact ⟨rfl, w σ s rfl⟩
  | i :: is, d :: ds, vs, σ, env, Q, js, s, r, h, hj, w => by
    obtain ⟨v, r', rfl, h1, h2⟩ := r
    refine ⟨v, r', rfl, gNames_go (js := js) (s.setVal h1) h2 (by simpa using h) (fun k hk => hj k (List.mem_cons_of_mem _ hk)) fun σ' s' e => w σ' s' ?_⟩
    rw [e]; exact wipe_set (hj i (List.mem_cons_self))
theorem g_tp (hc : X.calm = true) {is : List Nat} {es : List Expr} {k : Nat} {pos : Pos} (h : PGs X es (gNames is)) (hn : (assignEach es X.env).length = is.length) (hst : (assignEach es X.env).findIdx? (·.1) = none) :
    GOk X (.tp is) (.Tuple es k pos) (gTup X.K is.length (gNames is)) :=
  ⟨pg_tup hc h hn hst, fun {d v σ H env M Q} s r w => by
    cases d with
    | tup xs =>
      obtain ⟨a, vs, rfl, h1, h2⟩ := r
      have w1 : xs.length = is.length := w.1
      exact ⟨a, vs, rfl, h1, by rw [← h2.length]; exact w1, gNames_go s h2 w1 (fun _ h => h) w.2⟩
    | _ => exact w.elim⟩

theorem g_np (hc : X.calm = true) {i : Nat} {x : Str} {is : List Nat} {es : List Expr} {k k2 : Nat} {px p2 pos : Pos} (h1 : PG X (.Name x px) (gName i)) (h : PGs X es (gNames is)) (hn : (assignEach es X.env).length = is.length) (hst : (assignEach es X.env).findIdx? (·.1) = none) :
    GOk X (.np i is) (.Tuple [.Name x px, .Tuple es k2 p2] k pos) (gTup X.K 2 (gCons (gName i) (gCons (gTup X.K is.length (gNames is)) gNil))) :=
  ⟨pg_tup hc (pgs_cons h1 (pgs_cons (pg_tup hc h hn hst) pgs_nil rfl) rfl) rfl rfl, fun {d v σ H env M Q} s r w => by
    unfold wTg at w
    split at w
    · rename_i e; cases e
    · rename_i e; cases e
    · rename_i i' is' d' xs e1
      cases e1
      obtain ⟨a, vs, rfl, g1, g2⟩ := r
      obtain ⟨v, u, rfl, r1, r2⟩ := reps2 g2
      obtain ⟨b, ws, rfl, g3, g4⟩ := r2
      refine ⟨a, _, rfl, g1, rfl, v, _, rfl, _, _, rfl, b, ws, rfl, g3, by rw [← g4.length]; exact w.1, ?_⟩
      exact gNames_go (js := i :: is) (s.setVal r1) g4 w.1 (fun k hk => List.mem_cons_of_mem _ hk) fun σ' s' e => ⟨rfl, w.2 σ' s' (by show L2.wipe σ' (i :: is) = L2.wipe σ (i :: is); rw [e]; exact wipe_set List.mem_cons_self)⟩
    · exact w.elim⟩

/-! ### what is walked -/
def YD (K : PySem.W.Frag) (xs : List D) : Nat → Hp → V → Hp → Prop := fun i H x H' => Alc H H' ∧ ∃ d, xs[i]? = some d ∧ Rep K H' d x
/-- the walk goes while what it needs stands -/
def Wk (K : PySem.W.Frag) (env : Env) (H : Hp) (M : Mem) (B : Addr → Prop) (J : It) (xs : List D) (ok : Env → Mem → Prop) : Prop :=
  ∃ G : Hp → Prop, Walk J xs.length G (YD K xs) ∧ ∀ H' σ' env' M', (∀ a o, H a = some o → M a = none → (∀ (i : Nat) q o', env[i]? = some (.own q o') → q ≠ a) → ((∃ vs, o = .lst vs) → B a) → H' a = some o) → StE K σ' H' env' M' → ok env' M' → G H'
def liftI (K : PySem.W.Frag) (RX : RXT) (W : WX) (t : Env → Mem → (List D → (Env → Mem → Prop) → Mem → Prop) → QX → Prop) : TI := fun σ H R => ∃ env M, StE K σ H env M ∧
  t env M (fun xs ok M' => ∀ J H', Ext env H M H' M' → StE K σ H' env M' → Wk K env H' M' (fun a => M a = none → H a = none) J xs ok → R J H') (postX K RX W σ H env M)
theorem reps_yd {xs : List D} {vs : List V} {i : Nat} {x : V} (r : Reps K H xs vs) (h : vs[i]? = some x) : YD K xs i H x H := ⟨Alc.refl, r.get' h⟩
theorem tm_for (s : StE K σ H env M) {B : Addr → Prop} {H' : Hp} (k : ∀ a o, H a = some o → M a = none → (∀ (i : Nat) q o', env[i]? = some (.own q o') → q ≠ a) → ((∃ vs, o = .lst vs) → B a) → H' a = some o) : Tm K H H' := by
  have go : ∀ a u, H a = some u → (∀ o, ¬ OOk K H a o) → (∀ vs, u ≠ .lst vs) → H' a = some u := fun a u e n nl => k a u e (by
    cases q : M a with
    | none => rfl
    | some o => exact absurd (s.mem a o q) (n o)) (fun i q o' e' z => by subst z; exact n o' (s.owns i q o' e').2.1) fun ⟨vs, z⟩ => absurd z (nl vs)
  exact tm_mk (fun a vs h => go a _ h (fun o q => q.notTup.1 vs h) (fun _ z => nomatch z)) (fun a o vs h => go a _ h (fun o' q => q.notTup.2.1 o _ h) (fun _ z => nomatch z)) (fun a o vs h => go a _ h (fun o' q => q.notTup.2.1 o _ h) (fun _ z => nomatch z))
theorem wk_tup {B : Addr → Prop} {a : Addr} {vs : List V} {xs : List D} (s : StE K σ H env M) (h : SqT K H a vs) (r : Reps K H xs vs) : Wk K env H M B (Itt K a) xs fun _ _ => True := by
  refine ⟨fun H' => ∃ vs, SqT K H' a vs ∧ Reps K H' xs vs, ?_, fun H' σ' env' M' k s' _ => ⟨vs, (tm_for s k a vs).1 h, r.mono (tm_for s k)⟩⟩
  refine ⟨fun i H hi ⟨vs, h1, h2⟩ => ?_, fun H ⟨vs, h1, h2⟩ => ⟨vs, h1, by rw [h2.length]; exact Nat.le_refl _⟩, fun i H x H' hi ⟨vs, h1, h2⟩ ⟨e, y⟩ => ?_⟩
  · exact ⟨vs, vs[i]'(by rw [← h2.length]; exact hi), h1, List.getElem?_eq_getElem _⟩
  · subst e; exact reps_yd h2 (y vs h1)
theorem walk_lst {a : Addr} {xs : List D} : Walk (Itl K a) xs.length (fun H => ∃ vs, SqL K H a vs ∧ Reps K H xs vs) (YD K xs) := by
  refine ⟨fun i H hi ⟨vs, h1, h2⟩ => ?_, fun H ⟨vs, h1, h2⟩ => ⟨vs, h1, by rw [h2.length]; exact Nat.le_refl _⟩, fun i H x H' hi ⟨vs, h1, h2⟩ ⟨e, y⟩ => ?_⟩
  · exact ⟨vs, vs[i]'(by rw [← h2.length]; exact hi), h1, List.getElem?_eq_getElem _⟩
  · subst e; exact reps_yd h2 (y vs h1)
theorem wk_own {B : Addr → Prop} {i : Nat} {p : Nat} {xs : List D} : Wk K env H M B (Itl K p) xs fun env' _ => env'[i]? = some (.own p (.lst xs)) :=
  ⟨_, walk_lst, fun H' σ' env' M' _ s' e => by
    obtain ⟨_, ⟨vs, h1, h2⟩, _⟩ := s'.owns i p _ e
    exact ⟨vs, SqL.of h1, h2⟩⟩
theorem wk_ref {B : Addr → Prop} {a : Nat} {xs : List D} : Wk K env H M B (Itl K a) xs fun _ M' => M' a = some (.lst xs) :=
  ⟨_, walk_lst, fun H' σ' env' M' _ s' e => by
    obtain ⟨vs, h1, h2⟩ := s'.mem a _ e; exact ⟨vs, SqL.of h1, h2⟩⟩
theorem wk_rl {B : Addr → Prop} {a : Addr} {vs : List V} {xs : List D} (s : StE K σ H env M) (h : FzL K H a vs) (r : Reps K H xs vs) : Wk K env H M B (Itl K a) xs fun _ _ => True :=
  ⟨_, walk_lst, fun H' σ' env' M' k s' _ => ⟨vs, ((tm_for s k a vs).2 h).sq, r.mono (tm_for s k)⟩⟩
theorem wk_new {B : Addr → Prop} {p : Nat} {vs : List V} {xs : List D} (s : StE K σ H env M) (h : H p = some (.lst vs)) (r : Reps K H xs vs) (hM : M p = none) (no : ∀ (i : Nat) q o', env[i]? = some (.own q o') → q ≠ p) (hb : B p) : Wk K env H M B (Itl K p) xs fun _ _ => True :=
  ⟨_, walk_lst, fun H' σ' env' M' k s' _ => ⟨vs, SqL.of (k p _ h hM no fun _ => hb), r.mono (tm_for s k)⟩⟩
theorem wk_fn {B : Addr → Prop} {J : It} {n : Nat} {f : Nat → Int} (w : Walk J n (fun _ => True) (YFn fun i => .int (f i))) : Wk K env H M B J ((List.range n).map fun i => .int (f i)) fun _ _ => True :=
  ⟨fun _ => True, by
    have hl : ((List.range n).map fun i => D.int (f i)).length = n := by simp
    rw [hl]
    exact ⟨w.goes, w.stops, fun i H x H' hi g y => by
      obtain ⟨rfl, rfl⟩ := w.yields i H x H' hi g y
      exact ⟨Alc.refl, .int (f i), by simp [hi], rfl⟩⟩, fun _ _ _ _ _ _ _ => trivial⟩
def iDyn (K : PySem.W.Frag) (te : TE) : TI := fun σ H R => te σ H fun x H1 => (∃ a, x = .ref a ∧ (∃ xs, SqT K H1 a xs) ∧ R (Itt K a) H1) ∨ (∃ a, x = .ref a ∧ (∃ xs, SqL K H1 a xs) ∧ R (Itl K a) H1) ∨ ∃ z, x = .str z ∧ R (Its z) H1
theorem pi_dyn {tg e : Expr} {te : TE} (he : PE X e te) : PI X tg e (iDyn X.K te) := by
  refine ⟨fun pins s σ H R I h => thn (he.run pins s σ H _ I h) fun v s1 ⟨y, H1, I1, r1, q⟩ => ?_⟩
  rcases q with ⟨a, ex, ⟨xs, hq⟩, q⟩ | ⟨a, ex, ⟨xs, hq⟩, q⟩ | ⟨z, ex, q⟩
  · subst ex; cases r1
    obtain ⟨its, rv, pl, _⟩ := I1.tuple hq
    exact wpAny_pyIter_tuple (items := its.toArray) pl (pi_one (tk := s1.toks) I1 _ (turn_tuple a _) ⟨_, Heap.get?_push_size _ rfl, rfl, rfl⟩ q)
  · subst ex; cases r1
    obtain ⟨its, rv, pl, _⟩ := I1.list hq
    exact wpAny_pyIter_list pl.isList (pi_one (tk := s1.toks) I1 _ (turn_list a _) ⟨_, Heap.get?_push_size _ rfl, rfl, rfl⟩ q)
  · subst ex
    obtain ⟨t, rfl⟩ := r1
    cases ha : z.cps.all (· < 128) with
    | true => exact wpAny_pyIter_ascii ha (pi_one (tk := s1.toks) I1 _ (turn_str _ z t "str_ascii_iterator" (.inl rfl)) ⟨_, Heap.get?_push_size _ rfl, rfl, rfl⟩ q)
    | false => exact wpAny_pyIter_wide ha (pi_one (tk := s1.toks) I1 _ (turn_str _ z t "str_iterator" (.inr rfl)) ⟨_, Heap.get?_push_size _ rfl, rfl, rfl⟩ q)
theorem wk_str {B : Addr → Prop} {z : Str} : Wk K env H M B (Its z) (z.cps.toList.map fun c => D.str ⟨#[c]⟩) fun _ _ => True := by
  refine ⟨fun _ => True, ?_, fun _ _ _ _ _ _ _ => trivial⟩
  have hl : (z.cps.toList.map fun c => D.str ⟨#[c]⟩).length = z.cps.size := by simp
  rw [hl]
  exact ⟨walk_str.goes, walk_str.stops, fun i H x H' hi g y => by
    obtain ⟨rfl, c, e1, rfl⟩ := walk_str.yields i H x H' hi g y
    exact ⟨Alc.refl, .str ⟨#[c]⟩, by simp [e1], rfl⟩⟩
theorem ji_dyn (hF : FMono F) {tg e : Expr} {ie : IE} (h : PE X e (liftE X.K RX W (wE F ie))) : PI X tg e (liftI X.K RX W (wI F (.dyn ie))) :=
  PI.imp (pi_dyn h) fun σ H R ⟨env, M, s, h⟩ => ⟨env, M, s, wE_mono hF ie (fun d M1 q v H1 x1 s1 r1 => by
    cases d with
    | tup xs =>
      obtain ⟨a, vs, rfl, h1, h2⟩ := r1
      exact .inl ⟨a, rfl, ⟨vs, h1⟩, q _ H1 x1 s1 (wk_tup s1 h1 h2)⟩
    | rl xs =>
      obtain ⟨a, vs, rfl, h1, h2⟩ := r1
      exact .inr (.inl ⟨a, rfl, ⟨vs, h1.sq⟩, q _ H1 x1 s1 (wk_rl s1 h1 h2)⟩)
    | str z =>
      cases r1
      exact .inr (.inr ⟨z, rfl, q _ H1 x1 s1 wk_str⟩)
    | ref a =>
      cases r1
      obtain ⟨xs, e, q⟩ := q
      obtain ⟨vs, h2, h3⟩ := s1.mem _ _ e
      exact .inr (.inl ⟨a, rfl, ⟨vs, SqL.of h2⟩, q _ H1 x1 s1 wk_ref⟩)
    | _ => exact q.elim) (fun _ _ q => q) h⟩
theorem ji_new (hF : FMono F) {tg e : Expr} {n : IN} (h : PE X e (liftN X.K RX W (wN F n))) : PI X tg e (liftI X.K RX W (wI F (.new n))) :=
  PI.imp (pi_list h) fun σ H R ⟨env, M, s, h⟩ => ⟨env, M, s, wN_mono hF n (fun xs M1 q p vs H1 x1 s1 hp r hM nw no =>
    ⟨p, rfl, ⟨vs, SqL.of hp⟩, q _ H1 x1 s1 (wk_new s1 hp r hM no nw)⟩) (fun _ _ q => q) h⟩
theorem ji_own {tg : Expr} {i : Nat} {x : Str} {pos : Pos} (hN : X.N[i]? = some x) (hv : Vis X.env.scope x) (hd : (x == ("__debug__" : Str)) = false) (hcd : (x == ("__classdict__" : Str)) = false) :
    PI X tg (.Name x pos) (liftI X.K RX W (wI F (.own i))) :=
  PI.imp (pi_list (pe_var (i := i) hN hv hd hcd)) fun σ H R ⟨env, M, s, p, xs, e, q⟩ => by
    obtain ⟨h1, ⟨vs, h2, h3⟩, h4⟩ := s.owns i p _ e
    exact ⟨_, h1, p, rfl, ⟨vs, SqL.of h2⟩, q _ H Ext.refl s wk_own⟩
theorem ji_range (hF : FMono F) {tg e : Expr} {ie : IE} {p pos : Pos} (hg : Gl X "range") (hm : X.mg "range" = none) (h : PE X e (liftE X.K RX W (wE F ie))) (hs : starEach [e] X.env = [(false, eval e X.env)]) :
    PI X tg (.Call (.Name "range" p) [e] [] pos) (liftI X.K RX W (wI F (.range ie))) :=
  PI.imp (pi_range1 hg hm (pa_cons h pa_nil hs) hs) fun σ H R ⟨env, M, s, h⟩ => ⟨env, M, s, wE_mono hF ie (fun d M1 q v H1 x1 s1 r1 => by
    obtain ⟨n, rfl, hn, q⟩ := q
    cases r1
    refine ⟨n, rfl, hn.1, hn.2, q _ H1 x1 s1 ?_⟩
    exact wk_fn (f := fun i => (i : Int)) ((walk_range (lo := 0) (n := n.toNat)).mono (fun _ h => h) fun i H x H' _ _ ⟨e1, e2⟩ => ⟨e1, by rw [e2]; simp⟩)) (fun _ _ q => q) h⟩
theorem ji_range2 (hF : FMono F) {tg a b : Expr} {ia ib : IE} {p pos : Pos} (hg : Gl X "range") (hm : X.mg "range" = none) (ha : PE X a (liftE X.K RX W (wE F ia))) (hb : PE X b (liftE X.K RX W (wE F ib)))
    (hs : starEach [a, b] X.env = [(false, eval a X.env), (false, eval b X.env)]) (hs2 : starEach [b] X.env = [(false, eval b X.env)]) :
    PI X tg (.Call (.Name "range" p) [a, b] [] pos) (liftI X.K RX W (wI F (.range2 ia ib))) :=
  PI.imp (pi_range2 hg hm (pa_cons ha (pa_cons hb pa_nil hs2) (by rw [hs, hs2])) hs hs2) fun σ H R ⟨env, M, s, h⟩ => ⟨env, M, s, wE_mono hF ia (fun d M1 q v H1 x1 s1 r1 =>
    ⟨env, M1, s1, wE_mono hF ib (fun e M2 q u H2 x2 s2 r2 => by
      obtain ⟨i, j, rfl, rfl, hn, q⟩ := q
      cases r1; cases r2
      exact ⟨i, j, rfl, hn, q _ H2 (x1.trans x2) s2 (wk_fn (f := fun k => i + (k : Int)) walk_range)⟩) (fun _ _ q => q.go x1) q⟩) (fun _ _ q => q) h⟩
theorem walk_zipT' {a b : Addr} {xs ys : List D} : Walk (RZ.ItzT K a b) (List.zipWith (fun u v => D.tup [u, v]) xs ys).length (fun H => (∃ vs, SqT K H a vs ∧ Reps K H xs vs) ∧ ∃ vs, SqT K H b vs ∧ Reps K H ys vs) (YD K (List.zipWith (fun u v => .tup [u, v]) xs ys)) := by
  rw [List.length_zipWith]
  refine ⟨fun i H hi ⟨⟨vs, h1, h2⟩, us, h3, h4⟩ => ?_, fun H ⟨⟨vs, h1, h2⟩, us, h3, h4⟩ => ⟨vs, us, h1, h3, ?_⟩, fun i H x H' hi ⟨⟨vs, h1, h2⟩, us, h3, h4⟩ ⟨T, u, v, e1, e2, e3, y1, y2⟩ => ?_⟩
  · have := h2.length; have := h4.length
    exact ⟨vs, us, vs[i]'(by omega), us[i]'(by omega), h1, h3, List.getElem?_eq_getElem _, List.getElem?_eq_getElem _⟩
  · have := h2.length; have := h4.length; omega
  · subst e1 e3
    obtain ⟨d, g1, g2⟩ := h2.get' (y1 vs h1)
    obtain ⟨d2, g3, g4⟩ := h4.get' (y2 us h3)
    refine ⟨Alc.new e2, .tup [d, d2], ?_, T, [u, v], rfl, SqT.of L2.upd_same, u, [v], rfl, g2.mono (Alc.new e2).tm, v, [], rfl, g4.mono (Alc.new e2).tm, rfl⟩
    rw [List.getElem?_zipWith, g1, g3]
theorem walk_zipL {a b : Addr} {xs ys : List D} : Walk (Itz K a b) (List.zipWith (fun u v => D.tup [u, v]) xs ys).length (fun H => (∃ vs, SqL K H a vs ∧ Reps K H xs vs) ∧ ∃ vs, SqL K H b vs ∧ Reps K H ys vs) (YD K (List.zipWith (fun u v => .tup [u, v]) xs ys)) := by
  rw [List.length_zipWith]
  refine ⟨fun i H hi ⟨⟨vs, h1, h2⟩, us, h3, h4⟩ => ?_, fun H ⟨⟨vs, h1, h2⟩, us, h3, h4⟩ => ⟨vs, us, h1, h3, ?_⟩, fun i H x H' hi ⟨⟨vs, h1, h2⟩, us, h3, h4⟩ ⟨T, u, v, e1, e2, e3, y1, y2⟩ => ?_⟩
  · have := h2.length; have := h4.length
    exact ⟨vs, us, vs[i]'(by omega), us[i]'(by omega), h1, h3, List.getElem?_eq_getElem _, List.getElem?_eq_getElem _⟩
  · have := h2.length; have := h4.length; omega
  · subst e1 e3
    obtain ⟨d, g1, g2⟩ := h2.get' (y1 vs h1)
    obtain ⟨d2, g3, g4⟩ := h4.get' (y2 us h3)
    refine ⟨Alc.new e2, .tup [d, d2], ?_, T, [u, v], rfl, SqT.of L2.upd_same, u, [v], rfl, g2.mono (Alc.new e2).tm, v, [], rfl, g4.mono (Alc.new e2).tm, rfl⟩
    rw [List.getElem?_zipWith, g1, g3]
theorem ji_zip (hF : FMono F) {a b : Expr} {ia ib : IE} {p pos tpos : Pos} {elts : List Expr} {kk : Nat} (hg : Gl X "zip") (hm : X.mg "zip" = none) (ha : PE X a (liftE X.K RX W (wE F ia))) (hb : PE X b (liftE X.K RX W (wE F ib)))
    (hs : starEach [a, b] X.env = (false, eval a X.env) :: starEach [b] X.env) (hs2 : starEach [b] X.env = [(false, eval b X.env)]) :
    PI X (.Tuple elts kk tpos) (.Call (.Name "zip" p) [a, b] [] pos) (liftI X.K RX W (wI F (.zip ia ib))) :=
  PI.imp (RZ.pi_zipA hg hm (pa_cons ha (pa_cons hb pa_nil hs2) hs) hs (by rw [hs2]; rfl)) fun σ H R ⟨env, M, s, h⟩ => ⟨env, M, s, wE_mono hF ia (fun d M1 q v H1 x1 s1 r1 =>
    ⟨env, M1, s1, wE_mono hF ib (fun e M2 q u H2 x2 s2 r2 => by
      have r3 := r1.mono (x2.tm s1)
      unfold wZip at q
      split at q
      · obtain ⟨a', vs, rfl, h1, h2⟩ := r3
        obtain ⟨b', us, rfl, h3, h4⟩ := r2
        refine ⟨a', b', vs, us, rfl, .inr ⟨h1, h3, q _ H2 (x1.trans x2) s2 ?_⟩⟩
        exact ⟨_, walk_zipT', fun H' σ' env' M' k s' _ => ⟨⟨vs, (tm_for s2 k _ _).1 h1, h2.mono (tm_for s2 k)⟩, us, (tm_for s2 k _ _).1 h3, h4.mono (tm_for s2 k)⟩⟩
      · obtain ⟨xs, ys, e1, e2, q⟩ := q
        cases r3; cases r2
        obtain ⟨vs, h1, h2⟩ := s2.mem _ _ e1
        obtain ⟨us, h3, h4⟩ := s2.mem _ _ e2
        refine ⟨_, _, vs, us, rfl, .inl ⟨SqL.of h1, SqL.of h3, q _ H2 (x1.trans x2) s2 ?_⟩⟩
        refine ⟨_, walk_zipL, fun H' σ' env' M' k s' ⟨o1, o2⟩ => ?_⟩
        obtain ⟨vs', h5, h6⟩ := s'.mem _ _ o1
        obtain ⟨us', h7, h8⟩ := s'.mem _ _ o2
        exact ⟨⟨vs', SqL.of h5, h6⟩, us', SqL.of h7, h8⟩
      · exact q.elim) (fun _ _ q => q.go x1) q⟩) (fun _ _ q => q) h⟩
theorem walk_fnr {B : Addr → Prop} {lo : Int} {n : Nat} : Wk K env H M B (Itc (lo + ((n : Nat) : Int) - 1) (-1) n) ((List.range n).map fun (k : Nat) => .int (lo + (n : Int) - 1 - (k : Int))) fun _ _ => True :=
  wk_fn (f := fun k => lo + (n : Int) - 1 - (k : Int)) (walk_rangeC.mono (fun _ h => h) fun i H x H' _ _ ⟨e1, e2⟩ => ⟨e1, by
    have e3 : lo + (n : Int) - 1 + (i : Int) * -1 = lo + (n : Int) - 1 - (i : Int) := by omega
    rw [e2]; exact congrArg V.int e3⟩)
end
end DL
/-! Soundness: comprehensions, calls. -/
namespace DL
open PySem PySem.Spec PyProof.Rows L2

section
variable {X : Cx} {RX : RXT} {W : WX} {F : FS}
variable {K : PySem.W.Frag} {σ : L2.St} {H H1 H2 : Hp} {env : Env} {M M1 M2 : Mem} {Q : VK}
/-- something else is written -/
theorem StE.other {p : Addr} {vs vs' : List V} (s : StE K σ H env M) (h : H p = some (.lst vs)) (hM : M p = none) (no : ∀ (i : Nat) q o', env[i]? = some (.own q o') → q ≠ p) : StE K σ (L2.upd H p (.lst vs')) env M := by
  have t : Tm K H (L2.upd H p (.lst vs')) := upd_tm (fun _ z => by rw [h] at z; cases z) fun _ _ z => by rw [h] at z; cases z
  refine ⟨s.len, fun i d e => ?_, fun i q o' e => ?_, s.inj, fun a u e => ?_⟩
  · obtain ⟨v, h1, h2⟩ := s.vals i d e; exact ⟨v, h1, h2.mono t⟩
  · obtain ⟨h1, h2, h3⟩ := s.owns i q o' e
    exact ⟨h1, h2.step (fun u e => by rw [L2.upd_ne (no i q o' ‹_›)]; exact e) t, h3⟩
  · have hp : a ≠ p := fun z => by subst z; rw [hM] at e; cases e
    exact (s.mem a u e).step (fun u e => by rw [L2.upd_ne hp]; exact e) t
theorem wCmpr_ok {ok : Mem → Prop} {el : D → Mem → (Option D → Mem → Prop) → Prop} {xs : List D} {R : QL} (h : wCmpr ok el xs M R) : ok M := by
  cases xs with
  | nil => exact h.1
  | cons x xs => exact h.1
theorem not_own {p : Addr} (s : StE K σ H env M) (h : H p = none) : ∀ (i : Nat) q o', env[i]? = some (.own q o') → q ≠ p := fun i q o' e z => by
  subst z; exact absurd h (s.owns i q o' e).2.1.notTup.2.2
theorem comp_core (hF : FMono F) {ie : IE} {t : Tg} {it : II} {io : Option IT} {g : TG} {tt : TT}
    (hg : ∀ {d : D} {v : V} {σ : L2.St} {H : Hp} {env : Env} {M : Mem} {Q : L2.St → Hp → Prop}, StE K σ H env M → Rep K H d v →
      wTg t d env (fun e => ∀ σ', StE K σ' H e M → L2.wipe σ' t.slots = L2.wipe σ t.slots → Q σ' H) → g v σ H Q)
    (htt : ∀ σ H Q, liftT K RX W0 (wTs F io) σ H Q → tt σ H Q) {σ : L2.St} {H : Hp} {Q : VK}
    (h : liftN K RX W (wN F (.comp ie t it io)) σ H Q) : tLc (liftI K RX W (wI F it)) g tt (liftE K RX W0 (wE F ie)) t.slots σ H Q := by
  obtain ⟨env, M, s, h⟩ := h
  refine ⟨env, M, s, wI_mono hF it (fun xs ok M1 q J H1 x1 s1 wk D hD => ?_) (fun _ _ q => q) h⟩
  obtain ⟨hlen, hc⟩ := q
  obtain ⟨G, wk, hG⟩ := wk
  have noD := not_own s1 hD
  have MD := s1.fresh hD
  refine lc_it wk (fun i H2 => ∃ M2 ds vs, H2 D = some (.lst vs) ∧ Reps K H2 ds vs ∧ ds.length ≤ i ∧ StE K σ H2 env M2 ∧ Ext env H1 M1 H2 M2 ∧ M2 D = none ∧
    wCmpr (ok env) (fun x M2 R => wTg t x (wipeE env t.slots) fun env' => wTs F io env' M2 (fun b M3 => if b = true then wE F ie env' M3 (fun y M4 => R (some y) M4) X0 else R none M3) X0) (xs.drop i) M2
      (fun ys M3 => (fun xs M' => ∀ p vs H', Ext env H M H' M' → StE K σ H' env M' → H' p = some (.lst vs) → Reps K H' xs vs → M' p = none → (M p = none → H p = none) → (∀ (i : Nat) q o', env[i]? = some (.own q o') → q ≠ p) → Q (.ref p) H') (ds ++ ys) M3))
    ?_ ?_ ?_ ?_
  · exact ⟨M1, [], [], L2.upd_same, rfl, Nat.zero_le _, s1.alc (Alc.new hD), Ext.alc (Alc.new hD), MD, by simpa using hc⟩
  · rintro i H2 _ ⟨M2, ds, vs, e1, e2, e3, s2, x2, e4, hc⟩
    exact hG H2 σ env M2 (fun a o h n no _ => (x2 a o h n no).1) s2 (wCmpr_ok hc)
  · rintro i x H2 H3 hi ⟨M2, ds, vs, e1, e2, e3, s2, x2, e4, hc⟩ ⟨al, d, hd, rd⟩
    rw [List.drop_eq_getElem_cons hi] at hc
    have hd' : xs[i] = d := by rw [List.getElem?_eq_getElem hi] at hd; exact Option.some.inj hd
    rw [hd'] at hc
    obtain ⟨_, hc⟩ := hc
    have s3 : StE K σ H3 env M2 := s2.alc al
    have hw : L2.wipe (L2.wipe σ t.slots) t.slots = L2.wipe σ t.slots := by
      have : ∀ (vs ws : List Nat), (∀ v ∈ vs, v ∈ ws) → L2.wipe (L2.wipe σ vs) ws = L2.wipe σ ws := fun vs ws => by
        induction vs with
        | nil => intro _; rfl
        | cons v vs ih =>
          intro h
          show L2.wipe ((L2.wipe σ vs).set v none) ws = _
          rw [wipe_set (h v List.mem_cons_self)]
          exact ih fun u hu => h u (List.mem_cons_of_mem _ hu)
      exact this _ _ fun _ h => h
    refine hg (s3.wipe (vs := t.slots)) rd (wTg_mono (fun e q σ2 s4 wp => ?_) (wTg_keep hc))
    obtain ⟨q, kp⟩ := q
    refine ⟨wp.trans hw, htt _ _ _ ⟨e, M2, s4, wTs_mono hF io (fun b M3 q H4 x4 s5 => ?_) (fun _ _ z => z.elim) q⟩⟩
    have t4 : Tm K H3 H4 := x4.tm s4
    have D3 : H3 D = some (.lst vs) := al _ _ e1
    have noDe : ∀ (j : Nat) q o', e[j]? = some (.own q o') → q ≠ D := fun j q o' h => noD j q o' (wipe_own.mp (kp.own j q o' h).1).1
    obtain ⟨D4, M3D⟩ := x4 D _ D3 e4 noDe
    cases b with
    | false =>
      refine ⟨M3, ds, vs, D4, (e2.mono al.tm).mono t4, by omega, s3.unblk kp x4 s5 t4, ?_, M3D, q⟩
      exact x2.trans ((Ext.alc al).trans (Ext.unblk kp x4))
    | true =>
      refine ⟨e, M3, s5, wE_mono hF ie (fun y M4 q v H5 x5 s6 ry => ?_) (fun _ _ z => z.elim) q⟩
      have t5 : Tm K H4 H5 := x5.tm s5
      obtain ⟨D5, M4D⟩ := x5 D _ D4 M3D noDe
      have s7 : StE K σ H5 env M4 := (s3.unblk kp x4 s5 t4).unblk kp x5 s6 t5
      have rr : Reps K H5 (ds ++ [y]) (vs ++ [v]) := Reps.append (((e2.mono al.tm).mono t4).mono t5) ⟨v, [], rfl, ry, rfl⟩
      have hup : Tm K H5 (L2.upd H5 D (.lst (vs ++ [v]))) := upd_tm (fun _ z => by rw [D5] at z; cases z) fun _ _ z => by rw [D5] at z; cases z
      have hl : vs.length = ds.length := e2.length.symm
      refine ⟨vs, D5, by rw [hl]; omega, M4, ds ++ [y], vs ++ [v], L2.upd_same, rr.mono hup, by simp; omega, s7.other D5 M4D noD, ?_, M4D, by simpa using q⟩
      refine fun a o h n no => ?_
      have ha : a ≠ D := fun z => by subst z; rw [hD] at h; cases h
      rw [L2.upd_ne ha]
      exact (x2.trans ((Ext.alc al).trans ((Ext.unblk kp x4).trans (Ext.unblk kp x5)))) a o h n no
  · rintro H2 ⟨M2, ds, vs, e1, e2, e3, s2, x2, e4, hc⟩
    rw [List.drop_length] at hc
    have := hc.2
    simp only [List.append_nil] at this
    exact this D vs H2 (x1.trans x2) s2 e1 e2 e4 (fun hM => new_none x1 s1 hM hD) noD
theorem Kp.wide {is js : List Nat} {e : Env} (k : Kp is (wipeE env (is ++ js)) e) : Kp (is ++ js) (wipeE env (is ++ js)) e where
  len := k.len
  own := fun j p o h => ⟨(k.own j p o h).1, (wipe_own.mp (k.own j p o h).1).2⟩
  out := fun j h => k.out j fun z => h (List.mem_append_left _ z)
theorem wipe_in (σ : L2.St) : ∀ (vs ws : List Nat), (∀ v ∈ vs, v ∈ ws) → L2.wipe (L2.wipe σ vs) ws = L2.wipe σ ws := fun vs ws => by
  induction vs with
  | nil => intro _; rfl
  | cons v vs ih =>
    intro h
    show L2.wipe ((L2.wipe σ vs).set v none) ws = _
    rw [wipe_set (h v List.mem_cons_self)]
    exact ih fun u hu => h u (List.mem_cons_of_mem _ hu)
theorem wipe_app (σ : L2.St) : ∀ (is js : List Nat), L2.wipe σ (is ++ js) = L2.wipe (L2.wipe σ js) is
  | [], _ => rfl
  | i :: is, js => by
    show (L2.wipe σ (is ++ js)).set i none = (L2.wipe (L2.wipe σ js) is).set i none
    rw [wipe_app σ is js]
theorem wipe_wide {σ σ' : L2.St} {is js : List Nat} (h : L2.wipe σ' is = L2.wipe σ is) : L2.wipe σ' (is ++ js) = L2.wipe σ (is ++ js) := by
  rw [← wipe_in σ' is (is ++ js) fun v hv => List.mem_append_left _ hv, h, wipe_in σ is (is ++ js) fun v hv => List.mem_append_left _ hv]
def delH (H : Hp) (p : Addr) : Hp := fun a => if a = p then none else H a
theorem delH_at {p : Addr} : delH H p p = none := if_pos rfl
theorem delH_ne {a p : Addr} (h : a ≠ p) : delH H p a = H a := if_neg h
theorem Ext.del {p : Addr} (x : Ext env H M H1 M1) : Ext env (delH H p) M H1 M1 := fun a o h n no => by
  have ha : a ≠ p := fun z => by subst z; rw [delH_at] at h; cases h
  rw [delH_ne ha] at h
  exact x a o h n no
theorem StE.del {p : Addr} {vs : List V} (s : StE K σ H env M) (h : H p = some (.lst vs)) (hM : M p = none) (no : ∀ (i : Nat) q o', env[i]? = some (.own q o') → q ≠ p) : StE K σ (delH H p) env M := by
  have ne : ∀ {a o}, H a = some o → o ≠ .lst vs → delH H p a = some o := fun {a o} e n => by
    rw [delH_ne fun z => n (by subst z; rw [h] at e; cases e; rfl)]; exact e
  have t : Tm K H (delH H p) := tm_mk (fun a vs h => ne h fun z => nomatch z) (fun a o vs h => ne h fun z => nomatch z) (fun a o vs h => ne h fun z => nomatch z)
  refine ⟨s.len, fun i d e => ?_, fun i q o' e => ?_, s.inj, fun a u e => ?_⟩
  · obtain ⟨v, h1, h2⟩ := s.vals i d e; exact ⟨v, h1, h2.mono t⟩
  · obtain ⟨h1, h2, h3⟩ := s.owns i q o' e
    exact ⟨h1, h2.step (fun u e => by rw [delH_ne (no i q o' ‹_›)]; exact e) t, h3⟩
  · have hp : a ≠ p := fun z => by subst z; rw [hM] at e; cases e
    exact (s.mem a u e).step (fun u e => by rw [delH_ne hp]; exact e) t
theorem wCmp2_ok {ok : Mem → Prop} {el : Nat → D → Mem → (List D → Mem → Prop) → Prop} {n : Nat} {xs : List D} {R : QL} (h : wCmp2 ok el n xs M R) : ok M := by
  cases xs with
  | nil => exact h.1
  | cons x xs => exact h.1
theorem comp2_core (hF : FMono F) {ie : IE} {t t1 : Tg} {it it1 : II} {io : Option IT} {g g1 : TG} {tt : TT}
    (hg : ∀ {d : D} {v : V} {σ : L2.St} {H : Hp} {env : Env} {M : Mem} {Q : L2.St → Hp → Prop}, StE K σ H env M → Rep K H d v →
      wTg t d env (fun e => ∀ σ', StE K σ' H e M → L2.wipe σ' t.slots = L2.wipe σ t.slots → Q σ' H) → g v σ H Q)
    (hg1 : ∀ {d : D} {v : V} {σ : L2.St} {H : Hp} {env : Env} {M : Mem} {Q : L2.St → Hp → Prop}, StE K σ H env M → Rep K H d v →
      wTg t1 d env (fun e => ∀ σ', StE K σ' H e M → L2.wipe σ' t1.slots = L2.wipe σ t1.slots → Q σ' H) → g1 v σ H Q)
    (htt : ∀ σ H Q, liftT K RX W0 (wTs F io) σ H Q → tt σ H Q) {σ : L2.St} {H : Hp} {Q : VK}
    (h : liftN K RX W (wN F (.comp2 ie t it t1 it1 io)) σ H Q) : tLc2 (liftI K RX W (wI F it)) g tYes (liftI K RX W0 (wI F it1)) g1 tt (liftE K RX W0 (wE F ie)) (t.slots ++ t1.slots) t1.slots σ H Q := by
  obtain ⟨env, M, s, h⟩ := h
  refine ⟨env, M, s, wI_mono hF it (fun xs ok M1 q J H1 x1 s1 wk D hD => ?_) (fun _ _ q => q) h⟩
  obtain ⟨G, wk, hG⟩ := wk
  have noD := not_own s1 hD
  have MD := s1.fresh hD
  generalize hEL : (fun (n : Nat) (x : DL.D) (M2 : Mem) (R : List DL.D → Mem → Prop) => wTg t x (wipeE env (t.slots ++ t1.slots)) fun env1 => wI F it1 env1 M2 (fun ys ok1 M3 => n + ys.length ≤ sizeLine ∧
        wCmpr (ok1 env1) (fun y M4 R' => wTg t1 y (wipeE env1 t1.slots) fun env2 => wTs F io env2 M4 (fun b M5 => if b = true then wE F ie env2 M5 (fun z M6 => R' (some z) M6) X0 else R' none M5) X0) ys M3 R) X0) = EL at q
  generalize hPO : (fun (xs : List DL.D) (M' : Mem) => ∀ p vs H', Ext env H M H' M' → StE K σ H' env M' → H' p = some (.lst vs) → Reps K H' xs vs → M' p = none → (M p = none → H p = none) → (∀ (i : Nat) q o', env[i]? = some (.own q o') → q ≠ p) → Q (.ref p) H') = PO at q
  let Pv : Nat → Hp → Prop := fun i H2 => ∃ M2 ds vs, H2 D = some (.lst vs) ∧ Reps K H2 ds vs ∧ StE K σ H2 env M2 ∧ Ext env H1 M1 H2 M2 ∧ M2 D = none ∧
    wCmp2 (ok env) EL ds.length (xs.drop i) M2 (fun ys M3 => PO (ds ++ ys) M3)
  refine ⟨fun i m H => m = xs.length - i ∧ i ≤ xs.length ∧ Pv i H, ⟨xs.length, by simp, Nat.zero_le _, M1, [], [], L2.upd_same, rfl, s1.alc (Alc.new hD), Ext.alc (Alc.new hD), MD, by simpa using q⟩, ?_⟩
  rintro i m H2 ⟨rfl, hi, p⟩
  have gg : G H2 := by
    obtain ⟨M2, ds, vs, e1, e2, s2, x2, e4, hc⟩ := p
    exact hG H2 σ env M2 (fun a o h n no _ => (x2 a o h n no).1) s2 (wCmp2_ok hc)
  obtain ⟨M2, ds, vs, e1, e2, s2, x2, e4, hc⟩ := p
  by_cases hlt : i < xs.length
  · refine .inr ⟨wk.goes i H2 hlt gg, Pv (i + 1), fun H' p' => ⟨xs.length - (i + 1), by omega, rfl, hlt, p'⟩, fun x H3 y => ?_⟩
    obtain ⟨al, d, hd, rd⟩ := wk.yields i H2 x H3 hlt gg y
    rw [List.drop_eq_getElem_cons hlt] at hc
    have hd' : xs[i] = d := by rw [List.getElem?_eq_getElem hlt] at hd; exact Option.some.inj hd
    rw [hd'] at hc
    obtain ⟨_, hc⟩ := hc
    rw [← hEL] at hc
    have s3 : StE K σ H3 env M2 := s2.alc al
    refine hg (s3.wipe (vs := t.slots ++ t1.slots)) rd (wTg_mono (fun e q σ2 s4 wp => ?_) (wTg_keep hc))
    obtain ⟨q, kp0⟩ := q
    have kp := kp0.wide
    refine ⟨(wipe_wide wp).trans (wipe_in σ _ _ fun _ h => h), ?_⟩
    unfold tYes
    simp only [↓reduceIte]
    have D3 : H3 D = some (.lst vs) := al _ _ e1
    have noDe : ∀ (j : Nat) q o', e[j]? = some (.own q o') → q ≠ D := fun j q o' h => noD j q o' (wipe_own.mp (kp.own j q o' h).1).1
    refine ⟨e, M2, s4, wI_mono hF it1 (fun ys ok1 M3 q J1 H4 x4 s5 wk1 => ?_) (fun _ _ z => z.elim) q⟩
    obtain ⟨hlen, q⟩ := q
    obtain ⟨G1, wk1, hG1⟩ := wk1
    obtain ⟨D4, M3D⟩ := x4 D _ D3 e4 noDe
    let Pv1 : Nat → Hp → Prop := fun j H5 => ∃ M4 es us, H5 D = some (.lst us) ∧ Reps K H5 (ds ++ es) us ∧ es.length ≤ j ∧ StE K σ2 H5 e M4 ∧ Ext e (delH H4 D) M3 H5 M4 ∧ Ext e (delH H3 D) M2 H5 M4 ∧ M4 D = none ∧
      wCmpr (ok1 e) (fun y M4 R' => wTg t1 y (wipeE e t1.slots) fun env2 => wTs F io env2 M4 (fun b M5 => if b = true then wE F ie env2 M5 (fun z M6 => R' (some z) M6) X0 else R' none M5) X0) (ys.drop j) M4
        (fun zs M5 => wCmp2 (ok env) EL (ds.length + (es ++ zs).length) (xs.drop (i + 1)) M5 fun ws M6 => PO (ds ++ ((es ++ zs) ++ ws)) M6)
    have s4m : StE K σ2 (delH H3 D) e M2 := s4.del D3 e4 noDe
    have s3m : StE K σ (delH H3 D) env M2 := s3.del D3 e4 noD
    have xm : Ext env H1 M1 (delH H3 D) M2 := fun a o h n no => by
      have ha : a ≠ D := fun z => by subst z; rw [hD] at h; cases h
      obtain ⟨h1, h2⟩ := x2 a o h n no
      exact ⟨(delH_ne ha).trans (al _ _ h1), h2⟩
    have t4 : Tm K H3 H4 := x4.tm s4
    refine ⟨fun j k H => k = ys.length - j ∧ j ≤ ys.length ∧ Pv1 j H, ⟨ys.length, by simp, Nat.zero_le _, M3, [], vs, D4, by simpa using (e2.mono al.tm).mono t4, Nat.zero_le _, s5, Ext.del Ext.refl, Ext.del x4, M3D, ?_⟩, ?_⟩
    · rw [hEL] at q
      simpa using q
    rintro j k H5 ⟨rfl, hj, p1⟩
    have gg1 : G1 H5 := by
      obtain ⟨M4, es, us, f1, f2, f3, s6, x6, x7, f4, hc1⟩ := p1
      refine hG1 H5 σ2 e M4 (fun a o h n no hb => ?_) s6 (wCmpr_ok hc1)
      by_cases ha : a = D
      · subst ha
        rw [D4] at h; cases h
        have := hb ⟨_, rfl⟩ e4
        rw [D3] at this; cases this
      · exact (x6 a o ((delH_ne ha).trans h) n no).1
    obtain ⟨M4, es, us, f1, f2, f3, s6, x6, x7, f4, hc1⟩ := p1
    have t5 : Tm K (delH H3 D) H5 := x7.tm s4m
    by_cases hlt1 : j < ys.length
    · refine .inr ⟨wk1.goes j H5 hlt1 gg1, Pv1 (j + 1), fun H' p' => ⟨ys.length - (j + 1), by omega, rfl, hlt1, p'⟩, fun x' H6 y' => ?_⟩
      obtain ⟨al1, d1, hd1, rd1⟩ := wk1.yields j H5 x' H6 hlt1 gg1 y'
      rw [List.drop_eq_getElem_cons hlt1] at hc1
      have hd1' : ys[j] = d1 := by rw [List.getElem?_eq_getElem hlt1] at hd1; exact Option.some.inj hd1
      rw [hd1'] at hc1
      obtain ⟨_, hc1⟩ := hc1
      have s7 : StE K σ2 H6 e M4 := s6.alc al1
      refine hg1 (s7.wipe (vs := t1.slots)) rd1 (wTg_mono (fun e' q σ3 s8 wp1 => ?_) (wTg_keep hc1))
      obtain ⟨q, kp1⟩ := q
      refine ⟨wp1.trans (wipe_in σ2 _ _ fun _ h => h), htt _ _ _ ⟨e', M4, s8, wTs_mono hF io (fun b M5 q H7 x8 s9 => ?_) (fun _ _ z => z.elim) q⟩⟩
      have t8 : Tm K H6 H7 := x8.tm s8
      have D6 : H6 D = some (.lst us) := al1 _ _ f1
      have noDe' : ∀ (j : Nat) q o', e'[j]? = some (.own q o') → q ≠ D := fun j q o' h => noDe j q o' (wipe_own.mp (kp1.own j q o' h).1).1
      obtain ⟨D7, M5D⟩ := x8 D _ D6 f4 noDe'
      cases b with
      | false =>
        have xe : Ext e H5 M4 H7 M5 := (Ext.alc al1).trans (Ext.unblk kp1 x8)
        exact ⟨M5, es, us, D7, (f2.mono al1.tm).mono t8, by omega, s7.unblk kp1 x8 s9 t8, x6.trans xe, x7.trans xe, M5D, q⟩
      | true =>
        refine ⟨e', M5, s9, wE_mono hF ie (fun z M6 q v H8 x9 s10 ry => ?_) (fun _ _ z => z.elim) q⟩
        have t9 : Tm K H7 H8 := x9.tm s9
        obtain ⟨D8, M6D⟩ := x9 D _ D7 M5D noDe'
        have s11 : StE K σ2 H8 e M6 := (s7.unblk kp1 x8 s9 t8).unblk kp1 x9 s10 t9
        have rr : Reps K H8 ((ds ++ es) ++ [z]) (us ++ [v]) := Reps.append (((f2.mono al1.tm).mono t8).mono t9) ⟨v, [], rfl, ry, rfl⟩
        have hup : Tm K H8 (L2.upd H8 D (.lst (us ++ [v]))) := upd_tm (fun _ z => by rw [D8] at z; cases z) fun _ _ z => by rw [D8] at z; cases z
        have hl : us.length = ds.length + es.length := by rw [← f2.length, List.length_append]
        have xe : Ext e H5 M4 H8 M6 := (Ext.alc al1).trans ((Ext.unblk kp1 x8).trans (Ext.unblk kp1 x9))
        refine ⟨us, D8, by rw [hl]; omega, M6, es ++ [z], us ++ [v], L2.upd_same, ?_, by simp; omega, s11.other D8 M6D noDe, ?_, ?_, M6D, by simpa using q⟩
        · rw [← List.append_assoc]; exact rr.mono hup
        · intro a o h n no
          have ha : a ≠ D := fun z => by subst z; rw [delH_at] at h; cases h
          rw [L2.upd_ne ha]
          exact (x6.trans xe) a o h n no
        · intro a o h n no
          have ha : a ≠ D := fun z => by subst z; rw [delH_at] at h; cases h
          rw [L2.upd_ne ha]
          exact (x7.trans xe) a o h n no
    · have ej : j = ys.length := by omega
      subst ej
      rw [List.drop_length] at hc1
      obtain ⟨_, hc1⟩ := hc1
      refine .inl ⟨wk1.stops H5 gg1, M4, ds ++ es, us, f1, f2, s3m.unblk kp x7 s6 t5, xm.trans (Ext.unblk kp x7), f4, ?_⟩
      simpa using hc1
  · have ei : i = xs.length := by omega
    subst ei
    rw [List.drop_length] at hc
    have hq := hc.2
    rw [← hPO] at hq
    simp only [List.append_nil] at hq
    exact .inl ⟨wk.stops H2 gg, hq D vs H2 (x1.trans x2) s2 e1 e2 e4 (fun hM => new_none x1 s1 hM hD) noD⟩
theorem jn_comp (hF : FMono F) {elt tg iter : Expr} {ifs : List Expr} {scope : Scope} {own : List (Str × Nat)} {pos : Pos} {ie : IE} {t : Tg} {it : II} {io : Option IT} {g : TG} {tt : TT}
    (hc : X.calm = true) (hN : X.N.Nodup) (hi : PI X tg iter (liftI X.K RX W (wI F it))) (ok : BlkOk X.N X.env.scope scope own) (hown : own.map (·.2) = t.slots)
    (hg : ∀ (s : Shared) (H : Hp) (C : Addr) (cl : List (Str × Addr)) (fp : List Addr), GOk (X.blk s H scope (compEnvC scope cl C X.env) fp) t tg g)
    (ht : ∀ (s : Shared) (H : Hp) (C : Addr) (cl : List (Str × Addr)) (fp : List Addr), PTs (X.blk s H scope (compEnvC scope cl C X.env) fp) ifs tt)
    (htt : ∀ σ H Q, liftT X.K RX W0 (wTs F io) σ H Q → tt σ H Q)
    (he : ∀ (s : Shared) (H : Hp) (C : Addr) (cl : List (Str × Addr)) (fp : List Addr), PE (X.blk s H scope (compEnvC scope cl C X.env) fp) elt (liftE X.K RX W0 (wE F ie)))
    (hs : ∀ x, foldedSetIterable iter X.env x = pure x) : PE X (.ListComp elt [⟨tg, iter, ifs, 0⟩] scope pos) (liftN X.K RX W (wN F (.comp ie t it io))) :=
  PE.imp (pe_lc hc hN hi ok (fun s H C cl fp => (hg s H C cl fp).pg) ht he hs) fun σ H Q h => by
    rw [hown]
    exact comp_core hF (fun {d v σ H env M Q} s r w => (hg ⟨X.s_0.heap, X.s_0.gens, X.s_0.drawn, X.s_0.toks, X.s_0.os⟩ X.H_0 0 [] []).go s r w) htt h
theorem js_setLc (hF : FMono F) {i : Nat} {y : Str} {py : Pos} {elt tg iter : Expr} {ifs : List Expr} {scope : Scope} {own : List (Str × Nat)} {pos spos : Pos} {ie : IE} {t : Tg} {it : II} {io : Option IT} {g : TG} {tt : TT}
    (hc : X.calm = true) (hN : X.N.Nodup) (hy : X.N[i]? = some y) (hyl : X.env.scope.names.lookup y = some .local) (hsw : swapsWith (.ListComp elt [⟨tg, iter, ifs, 0⟩] scope pos) (some (.Name y py)) spos.line X.env = pure true)
    (hi : PI X tg iter (liftI X.K RX W (wI F it))) (ok : BlkOk X.N X.env.scope scope own) (hown : own.map (·.2) = t.slots)
    (hg : ∀ (s : Shared) (H : Hp) (C : Addr) (cl : List (Str × Addr)) (fp : List Addr), GOk (X.blk s H scope (compEnvC scope cl C X.env) fp) t tg g)
    (ht : ∀ (s : Shared) (H : Hp) (C : Addr) (cl : List (Str × Addr)) (fp : List Addr), PTs (X.blk s H scope (compEnvC scope cl C X.env) fp) ifs tt)
    (htt : ∀ σ H Q, liftT X.K RX W0 (wTs F io) σ H Q → tt σ H Q)
    (he : ∀ (s : Shared) (H : Hp) (C : Addr) (cl : List (Str × Addr)) (fp : List Addr), PE (X.blk s H scope (compEnvC scope cl C X.env) fp) elt (liftE X.K RX W0 (wE F ie)))
    (hs : ∀ x, foldedSetIterable iter X.env x = pure x) : PS X (.Assign [.Name y py] (.ListComp elt [⟨tg, iter, ifs, 0⟩] scope pos) spos) (tAsg (liftN X.K RX W (wN F (.comp ie t it io))) (gName i)) :=
  PS.imp (ps_setLc hc hN hy hyl hsw hi ok (fun s H C cl fp => (hg s H C cl fp).pg) ht he hs) fun D σ H h => by
    rw [hown]
    exact comp_core hF (fun {d v σ H env M Q} s r w => (hg ⟨X.s_0.heap, X.s_0.gens, X.s_0.drawn, X.s_0.toks, X.s_0.os⟩ X.H_0 0 [] []).go s r w) htt h

theorem jn_comp2 (hF : FMono F) {elt tg iter tg1 iter1 : Expr} {ifs1 : List Expr} {scope : Scope} {own : List (Str × Nat)} {pos spos : Pos} {ie : IE} {t t1 : Tg} {it it1 : II} {io : Option IT} {g g1 : TG} {tt : TT}
    (hc : X.calm = true) (hN : X.N.Nodup)
    (hi : PI X tg iter (liftI X.K RX W (wI F it))) (ok : BlkOk X.N X.env.scope scope own) (hown : own.map (·.2) = t.slots ++ t1.slots)
    (hg : ∀ (s : Shared) (H : Hp) (C : Addr) (cl : List (Str × Addr)) (fp : List Addr), GOk (X.blk s H scope (compEnvC scope cl C X.env) fp) t tg g) (hg1 : ∀ (s : Shared) (H : Hp) (C : Addr) (cl : List (Str × Addr)) (fp : List Addr), GOk (X.blk s H scope (compEnvC scope cl C X.env) fp) t1 tg1 g1)
    (hi1 : ∀ (s : Shared) (H : Hp) (C : Addr) (cl : List (Str × Addr)) (fp : List Addr), PI (X.blk s H scope (compEnvC scope cl C X.env) fp) tg1 iter1 (liftI X.K RX W0 (wI F it1)))
    (ht : ∀ (s : Shared) (H : Hp) (C : Addr) (cl : List (Str × Addr)) (fp : List Addr), PTs (X.blk s H scope (compEnvC scope cl C X.env) fp) ifs1 tt)
    (htt : ∀ σ H Q, liftT X.K RX W0 (wTs F io) σ H Q → tt σ H Q)
    (he : ∀ (s : Shared) (H : Hp) (C : Addr) (cl : List (Str × Addr)) (fp : List Addr), PE (X.blk s H scope (compEnvC scope cl C X.env) fp) elt (liftE X.K RX W0 (wE F ie)))
    (hs : ∀ x, foldedSetIterable iter X.env x = pure x) (hs1 : ∀ env x, foldedSetIterable iter1 env x = pure x) : PE X (.ListComp elt [⟨tg, iter, [], 0⟩, ⟨tg1, iter1, ifs1, 0⟩] scope pos) (liftN X.K RX W (wN F (.comp2 ie t it t1 it1 io))) :=
  PE.imp (pe_lc2 (vs1 := t1.slots) hc hN hi ok (fun i h => by rw [hown]; exact List.mem_append_right _ h) (fun s H C cl fp => (hg s H C cl fp).pg) (fun _ _ _ _ _ => pts_nil) hi1 (fun s H C cl fp => (hg1 s H C cl fp).pg) ht he hs hs1) fun σ H Q h => by
    rw [hown]
    exact comp2_core hF (fun {d v σ H env M Q} s r w => (hg ⟨X.s_0.heap, X.s_0.gens, X.s_0.drawn, X.s_0.toks, X.s_0.os⟩ X.H_0 0 [] []).go s r w) (fun {d v σ H env M Q} s r w => (hg1 ⟨X.s_0.heap, X.s_0.gens, X.s_0.drawn, X.s_0.toks, X.s_0.os⟩ X.H_0 0 [] []).go s r w) htt h
theorem js_setLc2 (hF : FMono F) {i : Nat} {y : Str} {py : Pos} {elt tg iter tg1 iter1 : Expr} {ifs1 : List Expr} {scope : Scope} {own : List (Str × Nat)} {pos spos : Pos} {ie : IE} {t t1 : Tg} {it it1 : II} {io : Option IT} {g g1 : TG} {tt : TT}
    (hc : X.calm = true) (hN : X.N.Nodup) (hy : X.N[i]? = some y) (hyl : X.env.scope.names.lookup y = some .local) (hsw : swapsWith (.ListComp elt [⟨tg, iter, [], 0⟩, ⟨tg1, iter1, ifs1, 0⟩] scope pos) (some (.Name y py)) spos.line X.env = pure true)
    (hi : PI X tg iter (liftI X.K RX W (wI F it))) (ok : BlkOk X.N X.env.scope scope own) (hown : own.map (·.2) = t.slots ++ t1.slots)
    (hg : ∀ (s : Shared) (H : Hp) (C : Addr) (cl : List (Str × Addr)) (fp : List Addr), GOk (X.blk s H scope (compEnvC scope cl C X.env) fp) t tg g) (hg1 : ∀ (s : Shared) (H : Hp) (C : Addr) (cl : List (Str × Addr)) (fp : List Addr), GOk (X.blk s H scope (compEnvC scope cl C X.env) fp) t1 tg1 g1)
    (hi1 : ∀ (s : Shared) (H : Hp) (C : Addr) (cl : List (Str × Addr)) (fp : List Addr), PI (X.blk s H scope (compEnvC scope cl C X.env) fp) tg1 iter1 (liftI X.K RX W0 (wI F it1)))
    (ht : ∀ (s : Shared) (H : Hp) (C : Addr) (cl : List (Str × Addr)) (fp : List Addr), PTs (X.blk s H scope (compEnvC scope cl C X.env) fp) ifs1 tt)
    (htt : ∀ σ H Q, liftT X.K RX W0 (wTs F io) σ H Q → tt σ H Q)
    (he : ∀ (s : Shared) (H : Hp) (C : Addr) (cl : List (Str × Addr)) (fp : List Addr), PE (X.blk s H scope (compEnvC scope cl C X.env) fp) elt (liftE X.K RX W0 (wE F ie)))
    (hs : ∀ x, foldedSetIterable iter X.env x = pure x) (hs1 : ∀ env x, foldedSetIterable iter1 env x = pure x) : PS X (.Assign [.Name y py] (.ListComp elt [⟨tg, iter, [], 0⟩, ⟨tg1, iter1, ifs1, 0⟩] scope pos) spos) (tAsg (liftN X.K RX W (wN F (.comp2 ie t it t1 it1 io))) (gName i)) :=
  PS.imp (ps_setLc2 (vs1 := t1.slots) hc hN hy hyl hsw hi ok (fun i h => by rw [hown]; exact List.mem_append_right _ h) (fun s H C cl fp => (hg s H C cl fp).pg) (fun _ _ _ _ _ => pts_nil) hi1 (fun s H C cl fp => (hg1 s H C cl fp).pg) ht he hs hs1) fun D σ H h => by
    rw [hown]
    exact comp2_core hF (fun {d v σ H env M Q} s r w => (hg ⟨X.s_0.heap, X.s_0.gens, X.s_0.drawn, X.s_0.toks, X.s_0.os⟩ X.H_0 0 [] []).go s r w) (fun {d v σ H env M Q} s r w => (hg1 ⟨X.s_0.heap, X.s_0.gens, X.s_0.drawn, X.s_0.toks, X.s_0.os⟩ X.H_0 0 [] []).go s r w) htt h

/-! ### other new lists -/
theorem jn_copy (hF : FMono F) {l : IL} {e : Expr} {p pos : Pos} (hg : Gl X "list") (hm : X.mg "list" = none) (h : PE X e (liftL X.K RX W (wL F l))) (hs : starEach [e] X.env = [(false, eval e X.env)]) :
    PE X (.Call (.Name "list" p) [e] [] pos) (liftN X.K RX W (wN F (.copy l))) :=
  PE.imp (pe_callTy call_list_of hg hm boot_list (pa_cons h pa_nil hs) (he := hs) (hpl := rfl)) fun σ H Q ⟨env, M, s, h⟩ => ⟨env, M, s, wL_mono hF l (fun xs M1 q p vs H1 x1 s1 hl r => by
    refine ⟨p, vs, rfl, .inl hl, fun l hp => ?_⟩
    have a := Alc.new (o := .lst vs) hp
    exact q l vs _ (x1.trans (Ext.alc a)) (s1.alc a) L2.upd_same (r.mono a.tm) (s1.fresh hp) (fun hM => new_none x1 s1 hM hp) (not_own s1 hp)) (fun _ _ q => q) h⟩
theorem jn_copyT (hF : FMono F) {ie : IE} {e : Expr} {p pos : Pos} (hg : Gl X "list") (hm : X.mg "list" = none) (h : PE X e (liftE X.K RX W (wE F ie))) (hs : starEach [e] X.env = [(false, eval e X.env)]) :
    PE X (.Call (.Name "list" p) [e] [] pos) (liftN X.K RX W (wN F (.copyT ie))) :=
  PE.imp (pe_callTy call_list_of hg hm boot_list (pa_cons h pa_nil hs) (he := hs) (hpl := rfl)) fun σ H Q ⟨env, M, s, h⟩ => ⟨env, M, s, wE_mono hF ie (fun d M1 q v H1 x1 s1 r1 => by
    obtain ⟨xs, rfl, q⟩ := q
    obtain ⟨p, vs, rfl, hl, r⟩ := r1
    refine ⟨p, vs, rfl, .inr hl, fun l hp => ?_⟩
    have a := Alc.new (o := .lst vs) hp
    exact q l vs _ (x1.trans (Ext.alc a)) (s1.alc a) L2.upd_same (r.mono a.tm) (s1.fresh hp) (fun hM => new_none x1 s1 hM hp) (not_own s1 hp)) (fun _ _ q => q) h⟩

/-! ### calls -/
/-- what a def promises -/
def spL (K : PySem.W.Frag) (RX : RXT) (t : List D → Mem → QE → QX → Prop) : Sp := fun vs H Q E => ∃ ds M, Reps K H ds vs ∧ MemOk K H M ∧
  t ds M (fun d M' => ∀ v H', Ext [] H M H' M' → MemOk K H' M' → Rep K H' d v → Q v H') (fun x M' => ∀ c dd H', Ext [] H M H' M' → MemOk K H' M' → RX H' c dd x → E c dd H')
/-- a def at hand -/
def Callee (X : Cx) (RX : RXT) (k : Nat) (x : Str) (t : List D → Mem → QE → QX → Prop) : Prop :=
  ∃ f fd ps, X.mg x = some (.ref f) ∧ PySem.W.keepIn X.K (.ref f) = true ∧ Binds X.K fd ps [] ∧ FnOk X.prog X.w X.K X.mg X.base (L2.CX X.prog X.w) k f fd ps (spL X.K RX t)
theorem StE.hide {i : Nat} (s : StE K σ H env M) : StE K σ H (env.set i .no) M where
  len := by simp [s.len]
  vals := fun j e h => by
    by_cases hj : j = i
    · subst hj
      by_cases hl : j < env.length
      · rw [List.getElem?_set_self hl] at h; cases h
      · rw [List.getElem?_eq_none (by simpa using Nat.not_lt.mp hl)] at h; cases h
    · rw [List.getElem?_set_ne (Ne.symm hj)] at h
      exact s.vals j e h
  owns := fun j p o h => s.owns j p o (own_setNo h).1
  inj := fun j k p o o' h h' => s.inj j k p o o' (own_setNo h).1 (own_setNo h').1
  mem := s.mem
structure Aft (K : PySem.W.Frag) (σ : L2.St) (env : Env) (H : Hp) (M : Mem) (H' : Hp) (M' : Mem) (ls : List (Nat × Option MO)) : Prop where
  mem : MemOk K H' M'
  tm : Tm K H H'
  aft : ∀ H'' M'', Ext [] H' M' H'' M'' → MemOk K H'' M'' → backs M'' ls → Ext env H M H'' (drps M'' ls) ∧ StE K σ H'' env (drps M'' ls)
def liftAs (K : PySem.W.Frag) (RX : RXT) (W : WX) (t : Env → Mem → (List D → List (Nat × Option MO) → Mem → Prop) → QX → Prop) : TA := fun σ H Q => ∃ env M, StE K σ H env M ∧
  t env M (fun ds ls M' => ∀ vs H', Aft K σ env H M H' M' ls → Reps K H' ds vs → Q vs H') (postX K RX W σ H env M)
theorem Ext.weak (x : Ext [] H M H1 M1) : Ext env H M H1 M1 := fun a o h n _ => x a o h n fun i q o' e => by simp at e
theorem StE.ext (s : StE K σ H env M) (x : Ext [] H M H1 M1) (m : MemOk K H1 M1) : StE K σ H1 env M1 where
  len := s.len
  vals := fun i d e => by obtain ⟨v, h1, h2⟩ := s.vals i d e; exact ⟨v, h1, h2.mono (Ext.tm0 s.mem x)⟩
  owns := fun i p o e => by
    obtain ⟨h1, h2, h3⟩ := s.owns i p o e
    have go : ∀ u, H p = some u → H1 p = some u ∧ M1 p = none := fun u hu => x p u hu h3 fun i q o' e => by simp at e
    refine ⟨h1, h2.step (fun u hu => (go u hu).1) (Ext.tm0 s.mem x), ?_⟩
    cases e5 : H p with
    | none => exact absurd e5 h2.notTup.2.2
    | some u => exact (go u e5).2
  inj := s.inj
  mem := m
theorem Aft.nil (s : StE K σ H env M) : Aft K σ env H M H M [] := ⟨s.mem, Tm.refl, fun H'' M'' x m _ => ⟨x.weak, s.ext x m⟩⟩
theorem js_nil : PA X [] (liftAs X.K RX W (wAs F .nil)) := PA.imp pa_nil fun σ H Q ⟨env, M, s, h⟩ => h [] H (Aft.nil s) rfl
theorem js_cons (hF : FMono F) {e : Expr} {es : List Expr} {ie : IE} {ies : IAs} (ha : PE X e (liftE X.K RX W (wE F ie))) (hr : PA X es (liftAs X.K RX W (wAs F ies)))
    (hs : starEach (e :: es) X.env = (false, eval e X.env) :: starEach es X.env) : PA X (e :: es) (liftAs X.K RX W (wAs F (.cons ie ies))) :=
  PA.imp (pa_cons ha hr hs) fun σ H Q ⟨env, M, s, h⟩ => ⟨env, M, s, wE_mono hF ie (fun d M1 q v H1 x1 s1 r1 =>
    ⟨env, M1, s1, wAs_mono hF ies (fun ds ls M2 q vs H2 af r2 => q (v :: vs) H2 ⟨af.mem, (x1.tm s).trans af.tm, fun H'' M'' x m b => by
      obtain ⟨y1, y2⟩ := af.aft H'' M'' x m b
      exact ⟨x1.trans y1, y2⟩⟩ ⟨v, vs, rfl, r1.mono af.tm, r2⟩) (fun _ _ q => q.go x1) q⟩) (fun _ _ q => q) h⟩
theorem js_tmp (hF : FMono F) {e : Expr} {es : List Expr} {n : IN} {ies : IAs} (ha : PE X e (liftN X.K RX W (wN F n))) (hr : PA X es (liftAs X.K RX W (wAs F ies)))
    (hs : starEach (e :: es) X.env = (false, eval e X.env) :: starEach es X.env) : PA X (e :: es) (liftAs X.K RX W (wAs F (.tmp n ies))) :=
  PA.imp (pa_cons ha hr hs) fun σ H Q ⟨env, M, s, h⟩ => ⟨env, M, s, wN_mono hF n (fun xs M1 q p us H1 x1 s1 hp r1 hM hf no =>
    ⟨env, upd M1 p (.lst xs), s1.put hp r1 hM no, wAs_mono hF ies (fun ds ls M2 q vs H2 af r2 => q (.ref p :: vs) H2 ⟨af.mem, (x1.tm s).trans af.tm, fun H'' M'' x m b => by
      obtain ⟨y1, y2⟩ := af.aft H'' M'' x m b
      refine ⟨fun a o h n k => ?_, y2.sub Sub.drp⟩
      obtain ⟨z1, z2⟩ := x1 a o h n k
      have ha : a ≠ p := fun z => by subst z; rw [hf n] at h; cases h
      obtain ⟨z3, z4⟩ := y1 a o z1 (by rw [upd_other ha]; exact z2) k
      exact ⟨z3, by show drp _ p a = none; rw [drp_other ha]; exact z4⟩⟩ ⟨.ref p, vs, rfl, rfl, r2⟩) (fun _ _ z => z.elim) (q p hM)⟩) (fun _ _ q => q) h⟩
theorem js_lend (hF : FMono F) {i : Nat} {x : Str} {pos : Pos} {es : List Expr} {ies : IAs} (hN : X.N[i]? = some x) (hv : Vis X.env.scope x) (hd : (x == ("__debug__" : Str)) = false) (hcd : (x == ("__classdict__" : Str)) = false)
    (hr : PA X es (liftAs X.K RX W (wAs F ies))) (hs : starEach (.Name x pos :: es) X.env = (false, eval (.Name x pos) X.env) :: starEach es X.env) : PA X (.Name x pos :: es) (liftAs X.K RX W (wAs F (.lend i ies))) :=
  PA.imp (pa_cons (pe_var (i := i) hN hv hd hcd) hr hs) fun σ H Q ⟨env, M, s, p, o, e, h⟩ => by
    obtain ⟨h1, h2, h3⟩ := s.owns i p o e
    have s' : StE X.K σ H (env.set i .no) (upd M p o) := by
      refine ⟨s.hide.len, s.hide.vals, fun j q o' e' => ?_, s.hide.inj, fun a u e' => ?_⟩
      · obtain ⟨g1, g2, g3⟩ := s.hide.owns j q o' e'
        refine ⟨g1, g2, ?_⟩
        rw [upd_other (fun z => by subst z; obtain ⟨k1, k2⟩ := own_setNo e'; exact k2 (s.inj j i q o' o k1 e))]
        exact g3
      · by_cases hp : a = p
        · subst hp; rw [upd_self] at e'; cases e'; exact h2
        · rw [upd_other hp] at e'; exact s.mem a u e'
    refine ⟨_, h1, env.set i .no, upd M p o, s', wAs_mono hF ies (fun ds ls M2 q vs H2 af r2 => q (.ref p :: vs) H2 ⟨af.mem, af.tm, fun H'' M'' x m b => ?_⟩ ⟨.ref p, vs, rfl, rfl, r2⟩) (fun _ _ z => z.elim) h⟩
    obtain ⟨b1, b2⟩ := b
    obtain ⟨y1, y2⟩ := af.aft H'' M'' x m b2
    refine ⟨fun a u ha n k => ?_, ?_⟩
    · have hap : a ≠ p := (k i p o e).symm
      obtain ⟨z3, z4⟩ := y1 a u ha (by rw [upd_other hap]; exact n) fun j q o' e' => k j q o' (own_setNo e').1
      exact ⟨z3, by show drp _ p a = none; rw [drp_other hap]; exact z4⟩
    · have neq : ∀ (j : Nat) q o', (env.set i .no)[j]? = some (.own q o') → q ≠ p := fun j q o' e' z => by
        subst z
        have := (y2.owns j _ o' e').2.2
        rw [b1] at this; cases this
      have back : ∀ (j : Nat) q o', env[j]? = some (.own q o') → j ≠ i → (env.set i .no)[j]? = some (.own q o') := fun j q o' e' hj => by
        rw [List.getElem?_set_ne (Ne.symm hj)]; exact e'
      refine ⟨s.len, fun j d e' => ?_, fun j q o' e' => ?_, s.inj, fun a u e' => ?_⟩
      · by_cases hj : j = i
        · subst hj; rw [e] at e'; cases e'
        · exact y2.vals j d (by rw [List.getElem?_set_ne (Ne.symm hj)]; exact e')
      · by_cases hj : j = i
        · subst hj; rw [e] at e'; cases e'
          exact ⟨h1, y2.mem p o b1, drp_self⟩
        · obtain ⟨g1, g2, g3⟩ := y2.owns j q o' (back j q o' e' hj)
          refine ⟨g1, g2, ?_⟩
          show drp _ p q = none
          rw [drp_other (neq j q o' (back j q o' e' hj))]; exact g3
      · exact y2.mem a u (Sub.drp a u e')
theorem call_go (hF : FMono F) {f : Nat} {as : IAs} {σ : L2.St} {H : Hp} {Q : VK} (h : liftE K RX W (wE F (.call f as)) σ H Q) :
    liftAs K RX W (wAs F as) σ H fun vs H1 => spL K RX (F f) vs H1 Q (WE W σ) := by
  obtain ⟨env, M, s, h⟩ := h
  refine ⟨env, M, s, wAs_mono hF as (fun ds ls M1 q vs H1 af r => ⟨ds, M1, r, af.mem, hF.mono (fun d M2 q v H2 x2 m2 rv => ?_) (fun x M2 q c dd H2 x2 m2 rx => ?_) q⟩) (fun _ _ q => q) h⟩
  · obtain ⟨y1, y2⟩ := af.aft H2 M2 x2 m2 q.1
    exact q.2 v H2 y1 y2 rv
  · obtain ⟨y1, y2⟩ := af.aft H2 M2 x2 m2 q.1
    exact q.2 c dd H2 y1 y2 rx
theorem je_call (hF : FMono F) {f : Nat} {as : IAs} {x : Str} {e : Expr} {es : List Expr} {k : Nat} {p pos : Pos} (tk : Takes X W) (hr : Room k X.A) (hg : Gl X x) (cl : Callee X RX k x (F f)) (ha : PA X (e :: es) (liftAs X.K RX W (wAs F as)))
    (hdb : (x == ("__debug__" : Str)) = false) (he : starEach (e :: es) X.env = (false, eval e X.env) :: starEach es X.env) (hpl : (backTo pos (starEach es X.env)).any (·.1) = false) :
    PE X (.Call (.Name x p) (e :: es) [] pos) (liftE X.K RX W (wE F (.call f as))) := by
  obtain ⟨a, fd, ps, hm, hk, hb, fo⟩ := cl
  exact PE.imp (pe_callS fo hr hg hm hk hb (fun σ => passAt tk σ) ha hdb he hpl) fun σ H Q h => call_go hF h
theorem pe_callS0 {CX : CXT} {k : Nat} {f : Addr} {fd : FuncData} {ps : List Str} {sp : Sp} {E : L2.St → XK} {x : Str} {p pos : Pos} (F : FnOk X.prog X.w X.K X.mg X.base CX k f fd ps sp) (hr : Room k X.A) (hg : Gl X x) (hm : X.mg x = some (.ref f))
    (hk : PySem.W.keepIn X.K (.ref f) = true) (hb : Binds X.K fd ps []) (hx : ∀ σ, PassesAt CX X σ (E σ)) (hdb : (x == ("__debug__" : Str)) = false) : PE X (.Call (.Name x p) [] [] pos) (tCallS sp E tNil) := by
  refine ⟨fun pins s σ H Q I h => ?_⟩
  refine wpAny_Call_Name_kw (ld_glob I hg hm ?_ hdb)
  exact PySem.W.callWith_K0 I.kIn hk (run_fnS (us := []) F hr hb (hx σ) I .nil h)
theorem je_call0 (hF : FMono F) {f : Nat} {x : Str} {k : Nat} {p pos : Pos} (tk : Takes X W) (hr : Room k X.A) (hg : Gl X x) (cl : Callee X RX k x (F f)) (hdb : (x == ("__debug__" : Str)) = false) :
    PE X (.Call (.Name x p) [] [] pos) (liftE X.K RX W (wE F (.call f .nil))) := by
  obtain ⟨a, fd, ps, hm, hk, hb, fo⟩ := cl
  exact PE.imp (pe_callS0 fo hr hg hm hk hb (fun σ => passAt tk σ) hdb) fun σ H Q h => by
    obtain ⟨env, M, s, h⟩ := call_go hF h
    exact h [] H (Aft.nil s) rfl
/-- list[i], x in list -/
theorem je_lidxO (hF : FMono F) {i : Nat} {x : Str} {b : Expr} {ib : IE} {p pos : Pos} (hN : X.N[i]? = some x) (hv : Vis X.env.scope x) (hd : (x == ("__debug__" : Str)) = false) (hcd : (x == ("__classdict__" : Str)) = false)
    (hb : PE X b (liftE X.K RX W (wE F ib))) (hs : PlainIx b) : PE X (.Subscript (.Name x p) b pos) (liftE X.K RX W (wE F (.lidx (.own i) ib))) :=
  PE.imp (pe_ix ix_list (pe_var (i := i) hN hv hd hcd) hb hs) fun σ H Q ⟨env, M, s, p, xs, e, h⟩ => by
    obtain ⟨h1, _⟩ := s.owns i p _ e
    refine ⟨_, h1, env, M, s, wE_mono hF ib (fun y M2 q u H2 x2 s2 r2 => ?_) (fun _ _ q => q) h⟩
    obtain ⟨k, v, rfl, e2, q⟩ := q
    cases r2
    obtain ⟨_, ⟨vs, h2, h3⟩, _⟩ := s2.owns i p _ e
    obtain ⟨z, e3, r⟩ := h3.atI e2
    exact ⟨p, vs, k, z, rfl, rfl, SqL.of h2, e3, (q.go x2).at s2 r⟩
theorem je_lidxN (hF : FMono F) {a b : Expr} {n : IN} {ib : IE} {pos : Pos} (ha : PE X a (liftN X.K RX W (wN F n))) (hb : PE X b (liftE X.K RX W (wE F ib))) (hs : PlainIx b) :
    PE X (.Subscript a b pos) (liftE X.K RX W (wE F (.lidx (.new n) ib))) :=
  PE.imp (pe_ix ix_list ha hb hs) fun σ H Q ⟨env, M, s, h⟩ => ⟨env, M, s, wN_mono hF n (fun xs M1 q p vs H1 x1 s1 hp r hM hf no => ⟨env, M1, s1, wE_mono hF ib (fun y M2 q u H2 x2 s2 r2 => by
    obtain ⟨k, v, rfl, e2, q⟩ := q
    cases r2
    obtain ⟨z, e3, r⟩ := (r.mono (x2.tm s1)).atI e2
    exact ⟨p, vs, k, z, rfl, rfl, SqL.of (x2 p _ hp hM no).1, e3, (q.go (x1.trans x2)).at s2 r⟩) (fun _ _ q => q.go x1) q⟩) (fun _ _ q => q) h⟩
theorem op_inL (neg : Bool) (hu : X.A.units + 100 < cLine) : OpR X (compareOp (if neg then .NotIn else .In)) (fun x y H Q => ∃ d p vs ds, y = .ref p ∧ Rep X.K H d x ∧ SqL X.K H p vs ∧ Reps X.K H ds vs ∧ D.flat 60 d = true ∧ D.flats 60 ds = true ∧ Q (.bl (neg != ds.any fun z => D.eqv z d)) H) := by
  intro pins s σ H x y v u Q I rx ry h
  obtain ⟨d, p, vs, ds, rfl, r, hl, rs, f, g, q⟩ := h
  cases ry
  cases neg with
  | true => exact notin_lst hu I rx r hl rs f g ⟨.bl _, H, I, rfl, by simpa using q⟩
  | false => exact in_lst hu I rx r hl rs f g ⟨.bl _, H, I, rfl, by simpa using q⟩
theorem je_linn (hF : FMono F) (neg : Bool) (hu : X.A.units + 100 < cLine) {a b : Expr} {ia : IE} {l : IL} {pos : Pos} (ha : PE X a (liftE X.K RX W (wE F ia))) (hb : PE X b (liftL X.K RX W (wL F l))) (hm : behindInMarks (if neg then .NotIn else .In) b = false) :
    PE X (.Compare a [if neg then .NotIn else .In] [b] pos) (liftE X.K RX W (wE F (.linn neg ia l))) :=
  PE.imp (pe_cmpR (op_inL neg hu) ha hb hm) fun σ H Q ⟨env, M, s, h⟩ => by
    refine ⟨env, M, s, wE_mono hF ia (fun d M1 q x H1 x1 s1 r1 => ?_) (fun _ _ q => q) h⟩
    refine ⟨env, M1, s1, wL_mono hF l (fun xs M2 q p vs H2 x2 s2 hl r2 => ?_) (fun _ _ q => q.go x1) q⟩
    exact ⟨d, p, vs, xs, rfl, r1.mono (x2.tm s1), hl, r2, q.1, q.2.1, (postE.go (x1.trans x2) q.2.2).at s2 (d := .bl _) rfl⟩
theorem jt_linn (hF : FMono F) (neg : Bool) (hu : X.A.units + 100 < cLine) {a b : Expr} {ia : IE} {l : IL} {pos : Pos} (ha : PE X a (liftE X.K RX W (wE F ia))) (hb : PE X b (liftL X.K RX W (wL F l))) (hm : behindInMarks (if neg then .NotIn else .In) b = false) :
    PT X (.Compare a [if neg then .NotIn else .In] [b] pos) (liftT X.K RX W (wT F (.v (.linn neg ia l)))) :=
  PT.imp (pt_cmpR (op_inL neg hu) ha hb hm) fun σ H Q ⟨env, M, s, h⟩ => by
    refine ⟨env, M, s, wE_mono hF ia (fun d M1 q x H1 x1 s1 r1 => ?_) (fun _ _ q => q) h⟩
    refine ⟨env, M1, s1, wL_mono hF l (fun xs M2 q p vs H2 x2 s2 hl r2 => ?_) (fun _ _ q => q.go x1) q⟩
    exact ⟨d, p, vs, xs, rfl, r1.mono (x2.tm s1), hl, r2, q.1, q.2.1, _, rfl, q.2.2 H2 (x1.trans x2) s2⟩
end
end DL
/-! Soundness: statements. -/
namespace DL
open PySem PySem.Spec PyProof.Rows L2

section
variable {X : Cx} {RX : RXT} {W : WX} {F : FS}
variable {K : PySem.W.Frag} {σ : L2.St} {H H1 H2 : Hp} {env : Env} {M M1 M2 : Mem} {Q : VK} {B : Hp} {D : Ends}
def ktOf (K : PySem.W.Frag) (RX : RXT) (W : WX) (B : Hp) (D : Ends) : Kt where
  nx := fun e m => ∀ σ' H', StE K σ' H' e m → BO B H' e m → D.nx σ' H'
  rt := fun d m => ∀ v H', MemOk K H' m → BR B H' m → Rep K H' d v → D.rt v H'
  bk := fun e m => ∀ σ' H', StE K σ' H' e m → BO B H' e m → D.bk σ' H'
  ct := fun e m => ∀ σ' H', StE K σ' H' e m → BO B H' e m → D.ct σ' H'
  xc := fun x e m => ∀ c dd σ' H', StE K σ' H' e m → BO B H' e m → RX H' c dd x → W c dd σ' H'
def liftS (K : PySem.W.Frag) (RX : RXT) (W : WX) (w : Env → Mem → Kt → Prop) : TS := fun D σ H => ∃ env M B, StE K σ H env M ∧ BO B H env M ∧ w env M (ktOf K RX W B D)
theorem BO.step (b : BO B H env M) (x : Ext env H M H1 M1) : BO B H1 env M1 := fun a o e =>
  let ⟨h1, h2, h3⟩ := b a o e
  let ⟨h4, h5⟩ := x a o h1 h2 h3
  ⟨h4, h5, h3⟩
theorem BO.br (b : BO B H env M) : BR B H M := fun a o e => let ⟨h1, h2, _⟩ := b a o e; ⟨h1, h2⟩
theorem BO.envs {e : Env} (b : BO B H env M) (h : ∀ (i : Nat) q o', e[i]? = some (.own q o') → ∃ (j : Nat) (o2 : MO), env[j]? = some (.own q o2)) : BO B H e M := fun a o e =>
  let ⟨h1, h2, h3⟩ := b a o e
  ⟨h1, h2, fun i q o' e' => let ⟨j, o2, e2⟩ := h i q o' e'; h3 j q o2 e2⟩
theorem Kp.bo {is : List Nat} {e : Env} (k : Kp is env e) (b : BO B H env M) : BO B H e M := b.envs fun i q o' e' => ⟨i, o', (k.own i q o' e').1⟩
theorem xc_post {x : Xn} {M' : Mem} (b : BO B H env M) (h : (ktOf K RX W B D).xc x env M') : postX K RX W σ H env M x M' := fun c dd H' x' s' r => h c dd σ H' s' (b.step x') r
/-- an expression, then what follows -/
theorem exp_go (hF : FMono F) {e : IE} (s : StE K σ H env M) (b : BO B H env M) {q : DL.D → Mem → Prop} {R : VK} (h : wE F e env M q fun x m => (ktOf K RX W B D).xc x env m)
    (hq : ∀ d M1 v H1, Ext env H M H1 M1 → StE K σ H1 env M1 → BO B H1 env M1 → Rep K H1 d v → q d M1 → R v H1) : liftE K RX W (wE F e) σ H R :=
  ⟨env, M, s, wE_mono hF e (fun d M1 q v H1 x1 s1 r1 => hq d M1 v H1 x1 s1 (b.step x1) r1 q) (fun _ _ q => xc_post b q) h⟩
theorem js_pass {pos : Pos} : PS X (.Pass pos) (liftS X.K RX W (wS F .pass)) := PS.imp ps_pass fun D σ H ⟨env, M, B, s, b, q⟩ => q σ H s b
theorem js_brk {pos : Pos} : PS X (.Break pos) (liftS X.K RX W (wS F .brk)) := PS.imp ps_break fun D σ H ⟨env, M, B, s, b, q⟩ => q σ H s b
theorem js_cnt {pos : Pos} : PS X (.Continue pos) (liftS X.K RX W (wS F .cnt)) := PS.imp ps_continue fun D σ H ⟨env, M, B, s, b, q⟩ => q σ H s b
theorem js_ret (hF : FMono F) {e : Expr} {ie : IE} {pos : Pos} (h : PE X e (liftE X.K RX W (wE F ie))) : PS X (.Return (some e) pos) (liftS X.K RX W (wS F (.ret ie))) :=
  PS.imp (ps_ret h) fun D σ H ⟨env, M, B, s, b, q⟩ => exp_go hF s b q fun d M1 v H1 x1 s1 b1 r q => q v H1 s1.mem b1.br r
theorem js_retN {pos : Pos} : PS X (.Return none pos) (liftS X.K RX W (wS F .retN)) := PS.imp ps_retN fun D σ H ⟨env, M, B, s, b, q⟩ => q .non H s.mem b.br rfl
theorem js_retO {i : Nat} {x : Str} {p pos : Pos} (hN : X.N[i]? = some x) (hv : Vis X.env.scope x) (hd : (x == ("__debug__" : Str)) = false) (hcd : (x == ("__classdict__" : Str)) = false) :
    PS X (.Return (some (.Name x p)) pos) (liftS X.K RX W (wS F (.retO i))) :=
  PS.imp (ps_ret (pe_var (i := i) hN hv hd hcd)) fun D σ H ⟨env, M, B, s, b, p, o, e, q⟩ => by
    obtain ⟨h1, h2, h3⟩ := s.owns i p o e
    refine ⟨_, h1, q h3 _ H (fun a u e' => ?_) (fun a u e' => ?_) rfl⟩
    · by_cases hp : a = p
      · subst hp; rw [upd_self] at e'; cases e'; exact h2
      · rw [upd_other hp] at e'; exact s.mem a u e'
    · obtain ⟨g1, g2, g3⟩ := b a u e'
      exact ⟨g1, by rw [upd_other (g3 i p o e).symm]; exact g2⟩
theorem js_exp (hF : FMono F) {e : Expr} {ie : IE} {pos : Pos} (h : PE X e (liftE X.K RX W (wE F ie))) (hs : swapsWith e none pos.line X.env = pure false) : PS X (.Expr e pos) (liftS X.K RX W (wS F (.exp ie))) :=
  PS.imp (ps_expr h hs) fun D σ H ⟨env, M, B, s, b, q⟩ => exp_go hF s b q fun d M1 v H1 x1 s1 b1 r q => q σ H1 s1 b1
theorem js_asg (hF : FMono F) {tg e : Expr} {t : Tg} {g : TG} {ie : IE} {pos : Pos} (h : PE X e (liftE X.K RX W (wE F ie))) (hg : GOk X t tg g) (hs : swapsWithSole [tg] e pos.line X.env = pure false) (hw : swappedStores [tg] e X.env = pure none)
    (h1 : (assignEach [tg] X.env).map (·.2) = [assign tg X.env]) : PS X (.Assign [tg] e pos) (liftS X.K RX W (wS F (.asg t ie))) :=
  PS.imp (ps_asg h hg.pg hs hw h1) fun D σ H ⟨env, M, B, s, b, q⟩ => exp_go hF s b q fun d M1 v H1 x1 s1 b1 r q =>
    hg.go s1 r (wTg_mono (fun e ⟨q, k⟩ σ' s' _ => q σ' H1 s' (k.bo b1)) (wTg_keep q))
/-- a slot becomes a new list -/
theorem StE.setOwn {i : Nat} {p : Addr} {xs : List DL.D} {vs : List V} (s : StE K σ H env M) (h : H p = some (.lst vs)) (r : Reps K H xs vs) (hM : M p = none) (no : ∀ (j : Nat) q o', env[j]? = some (.own q o') → j ≠ i → q ≠ p) :
    StE K (σ.set i (some (.ref p))) H (env.set i (.own p (.lst xs))) M := by
  have cs : ∀ (j : Nat) z, (env.set i (.own p (.lst xs)))[j]? = some z → (j = i ∧ z = .own p (.lst xs) ∧ i < env.length) ∨ (j ≠ i ∧ env[j]? = some z) := fun j z e => by
    by_cases hj : j = i
    · subst hj
      by_cases hl : j < env.length
      · rw [List.getElem?_set_self hl] at e; cases e; exact .inl ⟨rfl, rfl, hl⟩
      · rw [List.getElem?_eq_none (by simpa using Nat.not_lt.mp hl)] at e; cases e
    · rw [List.getElem?_set_ne (Ne.symm hj)] at e; exact .inr ⟨hj, e⟩
  refine ⟨by simp [s.len], fun j d e => ?_, fun j q o' e => ?_, fun j k q o o' e e' => ?_, s.mem⟩
  · rcases cs j _ e with ⟨_, z, _⟩ | ⟨hj, e⟩
    · cases z
    · obtain ⟨v, h1, h2⟩ := s.vals j d e
      exact ⟨v, by rw [List.getElem?_set_ne (Ne.symm hj)]; exact h1, h2⟩
  · rcases cs j _ e with ⟨rfl, z, hl⟩ | ⟨hj, e⟩
    · cases z
      exact ⟨by rw [List.getElem?_set_self (s.len ▸ hl)], ⟨vs, h, r⟩, hM⟩
    · obtain ⟨h1, h2, h3⟩ := s.owns j q o' e
      exact ⟨by rw [List.getElem?_set_ne (Ne.symm hj)]; exact h1, h2, h3⟩
  · rcases cs j _ e with ⟨hj, z, hl⟩ | ⟨hj, e1⟩
    · rcases cs k _ e' with ⟨hk, z', hl'⟩ | ⟨hk, e2⟩
      · rw [hj, hk]
      · cases z; exact absurd rfl (no k _ o' e2 hk)
    · rcases cs k _ e' with ⟨hk, z', hl'⟩ | ⟨hk, e2⟩
      · cases z'; exact absurd rfl (no j _ o e1 hj)
      · exact s.inj j k q o o' e1 e2
/-- .. the same list, written -/
theorem StE.wrOwn {i : Nat} {p : Addr} {o : MO} {xs : List DL.D} {vs vs' : List V} (s : StE K σ H env M) (e : env[i]? = some (.own p o)) (h : H p = some (.lst vs)) (r : Reps K H xs vs') :
    StE K σ (L2.upd H p (.lst vs')) (env.set i (.own p (.lst xs))) M := by
  obtain ⟨h1, h2, h3⟩ := s.owns i p o e
  have t : Tm K H (L2.upd H p (.lst vs')) := upd_tm (fun _ z => by rw [h] at z; cases z) fun _ _ z => by rw [h] at z; cases z
  have hl : i < env.length := (List.getElem?_eq_some_iff.mp e).1
  have cs : ∀ (j : Nat) z, (env.set i (.own p (.lst xs)))[j]? = some z → (j = i ∧ z = .own p (.lst xs)) ∨ (j ≠ i ∧ env[j]? = some z) := fun j z e => by
    by_cases hj : j = i
    · subst hj; rw [List.getElem?_set_self hl] at e; cases e; exact .inl ⟨rfl, rfl⟩
    · rw [List.getElem?_set_ne (Ne.symm hj)] at e; exact .inr ⟨hj, e⟩
  refine ⟨by simp [s.len], fun j d e => ?_, fun j q o' e' => ?_, fun j k q o1 o2 e1 e2 => ?_, fun a u e' => ?_⟩
  · rcases cs j _ e with ⟨_, z⟩ | ⟨hj, e⟩
    · cases z
    · obtain ⟨v, h1, h2⟩ := s.vals j d e; exact ⟨v, h1, h2.mono t⟩
  · rcases cs j _ e' with ⟨hj, z⟩ | ⟨hj, e1⟩
    · cases z; subst hj; exact ⟨h1, ⟨vs', L2.upd_same, r.mono t⟩, h3⟩
    · obtain ⟨g1, g2, g3⟩ := s.owns j q o' e1
      have hq : q ≠ p := fun z => by subst z; exact hj (s.inj j i q o' o e1 e)
      exact ⟨g1, g2.step (fun u hu => by rw [L2.upd_ne hq]; exact hu) t, g3⟩
  · have go : ∀ (j : Nat) q o1, (env.set i (.own p (.lst xs)))[j]? = some (.own q o1) → ∃ o2, env[j]? = some (.own q o2) := fun j q o1 e1 => by
      rcases cs j _ e1 with ⟨hj, z⟩ | ⟨hj, e5⟩
      · cases z; subst hj; exact ⟨o, e⟩
      · exact ⟨o1, e5⟩
    obtain ⟨o3, e3⟩ := go j q o1 e1
    obtain ⟨o4, e4⟩ := go k q o2 e2
    exact s.inj j k q o3 o4 e3 e4
  · have ha : a ≠ p := fun z => by subst z; rw [h3] at e'; cases e'
    exact (s.mem a u e').step (fun u hu => by rw [L2.upd_ne ha]; exact hu) t
theorem bo_own {i : Nat} {p : Addr} {o o' : MO} (b : BO B H env M) (e : env[i]? = some (.own p o)) {vs : List V} : BO B (L2.upd H p (.lst vs)) (env.set i (.own p o')) M := fun a u ea => by
  obtain ⟨h1, h2, h3⟩ := b a u ea
  have ha : p ≠ a := h3 i p o e
  refine ⟨by rw [L2.upd_ne ha.symm]; exact h1, h2, fun j q o2 e2 => ?_⟩
  by_cases hj : j = i
  · subst hj
    rw [List.getElem?_set_self (List.getElem?_eq_some_iff.mp e).1] at e2
    cases e2; exact ha
  · rw [List.getElem?_set_ne (Ne.symm hj)] at e2; exact h3 j q o2 e2
theorem bo_new {i : Nat} {p : Addr} {o' : MO} (b : BO B H1 env M1) (hp : B p = none) : BO B H1 (env.set i (.own p o')) M1 := fun a u ea => by
  obtain ⟨h1, h2, h3⟩ := b a u ea
  refine ⟨h1, h2, fun j q o2 e2 => ?_⟩
  by_cases hj : j = i
  · subst hj
    by_cases hl : j < env.length
    · rw [List.getElem?_set_self hl] at e2; cases e2
      intro z; subst z; rw [hp] at ea; cases ea
    · rw [List.getElem?_eq_none (by simpa using Nat.not_lt.mp hl)] at e2; cases e2
  · rw [List.getElem?_set_ne (Ne.symm hj)] at e2; exact h3 j q o2 e2
theorem asgN_go (hF : FMono F) {i : Nat} {n : IN} {D : Ends} {σ : L2.St} {H : Hp} (h : liftS K RX W (wS F (.asgN i n)) D σ H) : tAsg (liftN K RX W (wN F n)) (gName i) D σ H := by
  obtain ⟨env, M, B, s, b, q⟩ := h
  refine ⟨env, M, s, wN_mono hF n (fun xs M1 q p vs H1 x1 s1 hp r hM hf no => ?_) (fun _ _ q => xc_post b q) q⟩
  have b1 := b.step x1
  refine q p hM _ H1 (s1.setOwn hp r hM fun j q o' e _ => no j q o' e) (bo_new b1 ?_)
  cases e : B p with
  | none => rfl
  | some u =>
    obtain ⟨h1, h2, _⟩ := b p u e
    rw [hf h2] at h1; cases h1
theorem js_asgN (hF : FMono F) {i : Nat} {x : Str} {e : Expr} {n : IN} {p pos : Pos} (hN : X.N.Nodup) (hi : X.N[i]? = some x) (hx : Loc X.env.scope x) (h : PE X e (liftN X.K RX W (wN F n))) (hs : swapsWith e (some (.Name x p)) pos.line X.env = pure false)
    (hf : X.fn x = true ∨ X.env.scope.names.lookup x = some .local) : PS X (.Assign [.Name x p] e pos) (liftS X.K RX W (wS F (.asgN i n))) :=
  PS.imp (ps_set hN hi hx h hs hf) fun D σ H h => asgN_go hF h
theorem js_asgNc (hF : FMono F) {i : Nat} {n : IN} {e : Stmt} (h : PS X e (tAsg (liftN X.K RX W (wN F n)) (gName i))) : PS X e (liftS X.K RX W (wS F (.asgN i n))) := PS.imp h fun D σ H h => asgN_go hF h
theorem asgM_go (hF : FMono F) {i : Nat} {n : IN} {D : Ends} {σ : L2.St} {H : Hp} (h : liftS K RX W (wS F (.asgM i n)) D σ H) : tAsg (liftN K RX W (wN F n)) (gName i) D σ H := by
  obtain ⟨env, M, B, s, b, q⟩ := h
  refine ⟨env, M, s, wN_mono hF n (fun xs M1 q p vs H1 x1 s1 hp r hM hf no => ?_) (fun _ _ q => xc_post b q) q⟩
  have b1 := b.step x1
  have s2 := s1.put hp r hM no
  refine q p hM _ H1 (s2.setVal (d := .ref p) rfl) ((Kp.set (i := i) (d := .ref p)).bo (fun a u e => ?_))
  obtain ⟨e1, e2, e3⟩ := b1 a u e
  refine ⟨e1, ?_, e3⟩
  rw [upd_other (fun z => ?_)]
  · exact e2
  · subst z
    obtain ⟨h1, h2, _⟩ := b _ u e
    rw [hf h2] at h1; cases h1
theorem js_par (hF : FMono F) {i j : Nat} {x y : Str} {a b : Expr} {ia ib : IE} {px py pt pos : Pos} {kt k2 pt2} (hc : X.calm = true) (hN : X.N.Nodup) (hi : X.N[i]? = some x) (hj : X.N[j]? = some y) (hij : i ≠ j)
    (hx : X.env.scope.names.lookup x = some .local) (hy : X.env.scope.names.lookup y = some .local) (ha : PE X a (liftE X.K RX W (wE F ia))) (hb : PE X b (liftE X.K RX W (wE F ib)))
    (hs1 : starEach [a, b] X.env = (false, eval a X.env) :: starEach [b] X.env) (hs2 : starEach [b] X.env = [(false, eval b X.env)])
    (hw : swappedStores [.Tuple [.Name x px, .Name y py] kt pt] (.Tuple [a, b] k2 pt2) X.env = pure (some [x, y]))
    (hs : swapsWithSole [.Tuple [.Name x px, .Name y py] kt pt] (.Tuple [a, b] k2 pt2) pos.line X.env = pure false) :
    PS X (.Assign [.Tuple [.Name x px, .Name y py] kt pt] (.Tuple [a, b] k2 pt2) pos) (liftS X.K RX W (wS F (.par i j ia ib))) :=
  PS.imp (ps_par hc hN hi hj hij hx hy (pa_cons ha (pa_cons hb pa_nil hs2) hs1) hw hs) fun D σ H ⟨env, M, B, s, b, q⟩ => exp_go hF s b q fun d M1 v H1 x1 s1 b1 r q =>
    exp_go hF s1 b1 q fun d2 M2 v2 H2 x2 s2 b2 r2 q => by
      refine ⟨v, v2, rfl, q _ H2 ((s2.setVal (r.mono (x2.tm s1))).setVal r2) ?_⟩
      exact (Kp.set (env := env.set i (.val d)) (i := j) (d := d2)).bo ((Kp.set (env := env) (i := i) (d := d)).bo b2)
theorem aug_ok (o : BOp) {pins : List (Addr × Obj)} {s : Shared} {x y : V} {v u : Value} {dx dy : DL.D} {Q : VK} (I : L2.Inv X pins σ H s) (rx : L2.RelV x v) (ry : L2.RelV y u) (hx : Rep X.K H dx x) (hy : Rep X.K H dy y)
    (w : wAug o dx dy fun z => ∀ v H', Alc H H' → Rep X.K H' z v → Q v H') : wpAny (model X.prog X.w) X.A (inplaceOp o.py v u) (EP X pins σ Q) X.xe s := by
  unfold wAug at w
  split at w
  · cases dy <;> first | exact w.1.elim | skip
    cases hx; cases hy; exact iop_fdiv pins s σ H _ _ _ _ _ I rx ry ⟨_, _, rfl, rfl, ⟨w.2.1.1, w.1⟩, w.2.2 _ _ Alc.refl rfl⟩
  · cases dy <;> first | exact w.elim | skip
    cases hx; cases hy; exact iop_add pins s σ H _ _ _ _ _ I rx ry ⟨_, _, rfl, rfl, w _ _ Alc.refl rfl⟩
  · cases dy <;> first | exact w.elim | skip
    cases hx; cases hy; exact iop_sub pins s σ H _ _ _ _ _ I rx ry ⟨_, _, rfl, rfl, w _ _ Alc.refl rfl⟩
  · cases dy <;> first | exact w.elim | skip
    cases hx; cases hy; exact iop_mul pins s σ H _ _ _ _ _ I rx ry ⟨_, _, rfl, rfl, w.1, w.2 _ _ Alc.refl rfl⟩
  · cases dy <;> first | exact w.elim | skip
    cases hx; cases hy; exact iop_mod pins s σ H _ _ _ _ _ I rx ry ⟨_, _, rfl, rfl, w.1, w.2 _ _ Alc.refl rfl⟩
  · cases dy <;> first | exact w.elim | skip
    cases hx; cases hy; exact iop_add_str pins s σ H _ _ _ _ _ I rx ry ⟨_, _, rfl, rfl, w.1, w.2 _ _ Alc.refl rfl⟩
  · exact w.elim
def rAug (K : PySem.W.Frag) (o : BOp) : TIp := fun x y H Q => ∃ dx dy, Rep K H dx x ∧ Rep K H dy y ∧ wAug o dx dy fun z => ∀ v H', Alc H H' → Rep K H' z v → Q v H'
theorem ip_aug (o : BOp) : PIp X o.py (rAug X.K o) := fun pins s σ H x y v u Q I rx ry ⟨dx, dy, hx, hy, w⟩ => aug_ok o I rx ry hx hy w
theorem js_aug (hF : FMono F) {o : BOp} {i : Nat} {x : Str} {e : Expr} {ie : IE} {p pos : Pos} (hN : X.N.Nodup) (hi : X.N[i]? = some x) (hx : Loc X.env.scope x) (h : PE X e (liftE X.K RX W (wE F ie)))
    (hf : X.fn x = true ∨ X.env.scope.names.lookup x = some .local) : PS X (.AugAssign (.Name x p) o.py e pos) (liftS X.K RX W (wS F (.aug i o ie))) :=
  PS.imp (ps_aug hN hi hx h (ip_aug o) hf) fun D σ H ⟨env, M, B, s, b, d, e, q⟩ => by
    obtain ⟨v, h1, h2⟩ := s.vals i d e
    refine ⟨v, h1, exp_go hF s b q fun d2 M1 u H1 x1 s1 b1 r q => ⟨d, d2, h2.mono (x1.tm s), r, wAug_mono (fun z q v H' a r => ?_) q⟩⟩
    exact q _ H' ((s1.alc a).setVal r) ((Kp.set (env := env) (i := i) (d := z)).bo (b1.step (Ext.alc a)))
/-! ### lists of one's own -/
theorem js_app (hF : FMono F) {i : Nat} {x : Str} {e : Expr} {ie : IE} {p ap cp pos : Pos} (hN : X.N[i]? = some x) (hv : Vis X.env.scope x) (hd : (x == ("__debug__" : Str)) = false) (hcd : (x == ("__classdict__" : Str)) = false)
    (h : PE X e (liftE X.K RX W (wE F ie))) (hs : starEach [e] X.env = [(false, eval e X.env)]) (hl : (ap.endLine == cp.line) = true) :
    PS X (.Expr (.Call (.Attribute (.Name x p) "append" ap) [e] [] cp) pos) (liftS X.K RX W (wS F (.app i ie))) :=
  PS.imp (ps_expr (pe_bm PySem.F.plainAttrs_list PySem.F.slot_list_append PySem.F.type_list_append mt_append (pe_var (i := i) hN hv hd hcd) (pa_cons h pa_nil hs) (hfew := by rw [hs]; rfl) (hline := hl) (hs := hs) (hplain := by rfl))) fun D σ H ⟨env, M, B, s, b, q⟩ => by
    obtain ⟨p, xs, e, q⟩ := q
    obtain ⟨h1, ⟨vs, h2, h3⟩, h4⟩ := s.owns i p _ e
    refine ⟨_, h1, .inl ⟨rfl, vs, SqL.of h2⟩, exp_go hF s b q fun d M1 v H1 x1 s1 b1 r q => ?_⟩
    obtain ⟨_, ⟨us, h5, h6⟩, _⟩ := s1.owns i p _ e
    refine ⟨p, us, v, rfl, rfl, h5, by rw [← h6.length]; exact q.1, ?_⟩
    exact q.2 σ _ (s1.wrOwn e h5 (Reps.append h6 ⟨v, [], rfl, r, rfl⟩)) (bo_own b1 e)
theorem js_set (hF : FMono F) {i : Nat} {x : Str} {e k : Expr} {ie ik : IE} {p sp pos : Pos} (hN : X.N[i]? = some x) (hv : Vis X.env.scope x) (hd : (x == ("__debug__" : Str)) = false) (hcd : (x == ("__classdict__" : Str)) = false)
    (h : PE X e (liftE X.K RX W (wE F ie))) (hk : PE X k (liftE X.K RX W (wE F ik))) (hns : ∀ lo hi st q, k ≠ .Slice lo hi st q) (hs : swapsWithSole [.Subscript (.Name x p) k sp] e pos.line X.env = pure false) (hw : swappedStores [.Subscript (.Name x p) k sp] e X.env = pure none) :
    PS X (.Assign [.Subscript (.Name x p) k sp] e pos) (liftS X.K RX W (wS F (.set i ik ie))) :=
  PS.imp (ps_asg h (pg_sub (pe_var (i := i) hN hv hd hcd) hk set_list (by intro v; cases k <;> first | rfl | exact absurd rfl (hns _ _ _ _))) hs hw rfl) fun D σ H ⟨env, M, B, s, b, q⟩ => by
    obtain ⟨p, xs, e, q⟩ := q
    refine exp_go hF s b q fun d M1 v H1 x1 s1 b1 r q => ?_
    obtain ⟨h1, _⟩ := s1.owns i p _ e
    refine ⟨_, h1, exp_go hF s1 b1 q fun y M2 u H2 x2 s2 b2 r2 q => ?_⟩
    obtain ⟨j, m, rfl, hm, q⟩ := q
    cases r2
    obtain ⟨_, ⟨us, h5, h6⟩, _⟩ := s2.owns i p _ e
    refine ⟨p, us, j, m, rfl, rfl, h5, by rw [← h6.length]; exact hm, ?_⟩
    exact q σ _ (s2.wrOwn e h5 (h6.set (r.mono (x2.tm s1)) m)) (bo_own b2 e)
theorem js_pop (hF : FMono F) {i j : Nat} {x y : Str} {p q ap cp pos : Pos} (hNd : X.N.Nodup) (hi : X.N[i]? = some x) (hx : Loc X.env.scope x) (hf : X.fn x = true ∨ X.env.scope.names.lookup x = some .local) (hN : X.N[j]? = some y) (hv : Vis X.env.scope y)
    (hd : (y == ("__debug__" : Str)) = false) (hcd : (y == ("__classdict__" : Str)) = false) (hl : (ap.endLine == cp.line) = true) :
    PS X (.Assign [.Name x p] (.Call (.Attribute (.Name y q) "pop" ap) [] [] cp) pos) (liftS X.K RX W (wS F (.pop i j))) :=
  PS.imp (ps_set hNd hi hx (pe_bm0 PySem.F.plainAttrs_list PySem.F.slot_list_pop PySem.F.type_list_pop mt_pop (pe_var (i := j) hN hv hd hcd) (hline := hl)) (by rfl) hf) fun D σ H ⟨env, M, B, s, b, p, xs, z, e, hz, hij, q⟩ => by
    obtain ⟨h1, ⟨vs, h2, h3⟩, h4⟩ := s.owns j p _ e
    obtain ⟨v, hv, r⟩ := h3.get (by rw [List.getLast?_eq_getElem?] at hz; exact hz)
    refine ⟨_, h1, .inl ⟨rfl, vs, SqL.of h2⟩, p, vs, v, rfl, rfl, h2, by rw [← h3.length]; exact hv, ?_⟩
    have t : Tm X.K H (L2.upd H p (.lst vs.dropLast)) := upd_tm (fun _ z => by rw [h2] at z; cases z) fun _ _ z => by rw [h2] at z; cases z
    exact q _ _ ((s.wrOwn e h2 h3.dropLast).setVal (r.mono t)) ((Kp.set (i := i) (d := z)).bo (bo_own b e))
/-! ### lists of the memory -/
theorem bo_mem {p : Addr} {o o' : MO} (b : BO B H env M) (e : M p = some o) {vs : List V} : BO B (L2.upd H p (.lst vs)) env (upd M p o') := fun a u ea => by
  obtain ⟨h1, h2, h3⟩ := b a u ea
  have ha : a ≠ p := fun z => by subst z; rw [h2] at e; cases e
  exact ⟨by rw [L2.upd_ne ha]; exact h1, by rw [upd_other ha]; exact h2, h3⟩
theorem js_mapp (hF : FMono F) {l e : Expr} {il ie : IE} {ap cp pos : Pos} (hl : PE X l (liftE X.K RX W (wE F il))) (h : PE X e (liftE X.K RX W (wE F ie))) (hs : starEach [e] X.env = [(false, eval e X.env)]) (hb : attributeBase l "append" X.env (eval l X.env) = eval l X.env)
    (hli : (ap.endLine == cp.line) = true) : PS X (.Expr (.Call (.Attribute l "append" ap) [e] [] cp) pos) (liftS X.K RX W (wS F (.mapp il ie))) :=
  PS.imp (ps_expr (pe_bm PySem.F.plainAttrs_list PySem.F.slot_list_append PySem.F.type_list_append mt_append hl (pa_cons h pa_nil hs) (hbase := hb) (hfew := by rw [hs]; rfl) (hline := hli) (hs := hs) (hplain := by rfl))) fun D σ H ⟨env, M, B, s, b, q⟩ => by
    refine exp_go hF s b q fun d M1 v H1 x1 s1 b1 r q => ?_
    obtain ⟨a, ys, rfl, e, q⟩ := q
    cases r
    obtain ⟨vs, h2, h3⟩ := s1.mem a _ e
    refine ⟨.inl ⟨rfl, vs, SqL.of h2⟩, exp_go hF s1 b1 q fun d2 M2 v2 H2 x2 s2 b2 r2 q => ?_⟩
    obtain ⟨xs, e2, hsz, q⟩ := q
    obtain ⟨us, h5, h6⟩ := s2.mem a _ e2
    refine ⟨a, us, v2, rfl, rfl, h5, by rw [← h6.length]; exact hsz, ?_⟩
    exact q σ _ (s2.write h5 e2 (Reps.append h6 ⟨v2, [], rfl, r2, rfl⟩)) (bo_mem b2 e2)
theorem js_mset (hF : FMono F) {l k e : Expr} {il ik ie : IE} {sp pos : Pos} (hl : PE X l (liftE X.K RX W (wE F il))) (hk : PE X k (liftE X.K RX W (wE F ik))) (h : PE X e (liftE X.K RX W (wE F ie))) (hns : ∀ lo hi st q, k ≠ .Slice lo hi st q)
    (hs : swapsWithSole [.Subscript l k sp] e pos.line X.env = pure false) (hw : swappedStores [.Subscript l k sp] e X.env = pure none) : PS X (.Assign [.Subscript l k sp] e pos) (liftS X.K RX W (wS F (.mset il ik ie))) :=
  PS.imp (ps_asg h (pg_sub hl hk set_list (by intro v; cases k <;> first | rfl | exact absurd rfl (hns _ _ _ _))) hs hw rfl) fun D σ H ⟨env, M, B, s, b, q⟩ => by
    refine exp_go hF s b q fun d M1 v H1 x1 s1 b1 r q => ?_
    refine exp_go hF s1 b1 q fun y M2 u H2 x2 s2 b2 r2 q => ?_
    refine exp_go hF s2 b2 q fun z M3 u3 H3 x3 s3 b3 r3 q => ?_
    obtain ⟨a, xs, j, m, rfl, e, rfl, hm, q⟩ := q
    cases r2; cases r3
    obtain ⟨us, h5, h6⟩ := s3.mem a _ e
    refine ⟨a, us, j, m, rfl, rfl, h5, by rw [← h6.length]; exact hm, ?_⟩
    exact q σ _ (s3.write h5 e (h6.set ((r.mono (x2.tm s1)).mono (x3.tm s2)) m)) (bo_mem b3 e)
theorem get_list : PGet X (fun o i H Q => ∃ p xs k v, o = .ref p ∧ i = .int k ∧ SqL X.K H p xs ∧ L2.atI xs k = some v ∧ Q v H) := by
  intro pins s σ H o i ov iv Q I ro ri h
  obtain ⟨p, xs, k, z, rfl, rfl, hq, he, q⟩ := h
  cases ro
  obtain ⟨t, rfl⟩ := ri
  obtain ⟨its, r, pl, hz⟩ := I.list hq
  obtain ⟨j, h1, h2, h3, h4, h5⟩ := atI_get he
  obtain ⟨w, ew, rw'⟩ := r.get h2
  have hl := r.length
  have hn := line63
  have fin : EP X pins σ Q w s := ⟨z, H, I, rw', q⟩
  by_cases h0 : 0 ≤ k
  · have hj : k.toNat = j := by
      rw [seqIndex_of h0 h5] at h1
      exact Option.some.inj h1
    exact wpAny_getItem_list pl.isList h0 (by omega) (by rw [hj]; simpa using ew) fin
  · have hj : (k + (its.toArray.size : Int)).toNat = j := by
      rw [seqIndex_neg (by omega) h4] at h1
      rw [List.size_toArray, ← hl]
      exact Option.some.inj h1
    exact wpAny_getItem_list_neg pl.isList (by omega) (by rw [List.size_toArray] <;> omega) (by omega) (by rw [hj]; simpa using ew) fin
theorem atI_ix {α : Type} {xs : List α} {j : Int} {m : Nat} {v : α} (h : ixN xs.length j = some m) (e : xs[m]? = some v) : L2.atI xs j = some v := by
  unfold L2.atI; rw [h]; exact e
theorem js_maug (hF : FMono F) {o : BOp} {l k e : Expr} {il ik ie : IE} {sp pos : Pos} (hl : PE X l (liftE X.K RX W (wE F il))) (hk : PE X k (liftE X.K RX W (wE F ik))) (h : PE X e (liftE X.K RX W (wE F ie))) (hns : ∀ lo hi st q, k ≠ .Slice lo hi st q) :
    PS X (.AugAssign (.Subscript l k sp) o.py e pos) (liftS X.K RX W (wS F (.maug il ik o ie))) :=
  PS.imp (ps_augS hl hk get_list h (ip_aug o) set_list (by intro ov iv new; cases k <;> first | rfl | exact absurd rfl (hns _ _ _ _))) fun D σ H ⟨env, M, B, s, b, q⟩ => by
    refine exp_go hF s b q fun d M1 v H1 x1 s1 b1 r q => ?_
    refine exp_go hF s1 b1 q fun y M2 u H2 x2 s2 b2 r2 q => ?_
    obtain ⟨a, xs, j, m, z, rfl, e, rfl, hm, ez, q⟩ := q
    cases r; cases r2
    obtain ⟨us, h5, h6⟩ := s2.mem a _ e
    obtain ⟨zv, hz, rz⟩ := h6.atI (atI_ix hm ez)
    refine ⟨a, us, j, zv, rfl, rfl, SqL.of h5, hz, ?_⟩
    refine exp_go hF s2 b2 q fun z2 M3 u3 H3 x3 s3 b3 r3 q => ?_
    refine ⟨z, z2, rz.mono (x3.tm s2), r3, wAug_mono (fun w q v H' al rw' => ?_) q⟩
    obtain ⟨xs', e', hlen, q⟩ := q
    have s4 := s3.alc al
    obtain ⟨us', h7, h8⟩ := s4.mem a _ e'
    refine ⟨a, us', j, m, rfl, rfl, h7, by rw [← h8.length, hlen]; exact hm, ?_⟩
    exact q σ _ (s4.write h7 e' (h8.set rw' m)) (bo_mem (b3.step (Ext.alc al)) e')
/-! ### blocks -/
theorem js_nil' : PSs X [] (liftS X.K RX W (wSs F [])) := PSs.imp pss_nil fun D σ H ⟨env, M, B, s, b, q⟩ => q σ H s b
theorem js_cons' (hF : FMono F) {st : Stmt} {rest : List Stmt} {is : IS} {iss : List IS} (h : PS X st (liftS X.K RX W (wS F is))) (hr : PSs X rest (liftS X.K RX W (wSs F iss))) : PSs X (st :: rest) (liftS X.K RX W (wSs F (is :: iss))) :=
  PSs.imp (pss_cons h hr) fun D σ H ⟨env, M, B, s, b, q⟩ => ⟨env, M, B, s, b, by
    refine wS_mono hF is ?_ q
    exact ⟨fun e m q σ' H' s' b' => ⟨e, m, B, s', b', q⟩, fun _ _ q => q, fun _ _ q => q, fun _ _ q => q, fun _ _ _ q => q⟩⟩
theorem js_ite (hF : FMono F) {c : Expr} {a b : List Stmt} {ic : IT} {ia ib : List IS} {pos : Pos} (hc : PT X c (liftT X.K RX W (wT F ic))) (ha : PSs X a (liftS X.K RX W (wSs F ia))) (hb : PSs X b (liftS X.K RX W (wSs F ib))) :
    PS X (.If c a b pos) (liftS X.K RX W (wS F (.ite ic ia ib))) :=
  PS.imp (ps_if hc ha hb) fun D σ H ⟨env, M, B, s, b, q⟩ => ⟨env, M, s, wT_mono hF ic (fun k M1 q H1 x1 s1 => by
    cases k with
    | true => exact ⟨env, M1, B, s1, b.step x1, q⟩
    | false => exact ⟨env, M1, B, s1, b.step x1, q⟩) (fun _ _ q => xc_post b q) q⟩
theorem js_whl (hF : FMono F) {c : Expr} {body : List Stmt} {ic : IT} {ib : List IS} {pos : Pos} (hp : PassesOwn (model X.prog X.w) X.A X.env X.xe) (hc : PT X c (liftT X.K RX W (wT F ic))) (hb : PSs X body (liftS X.K RX W (wSs F ib))) :
    PS X (.While c body [] pos) (liftS X.K RX W (wS F (.whl ic ib))) :=
  PS.imp (ps_while hp hc hb) fun D σ H ⟨env, M, B, s, b, q⟩ => by
    obtain ⟨Wv, ⟨m0, h0⟩, hs⟩ := q
    refine ⟨fun m σ H => ∃ env M, StE X.K σ H env M ∧ BO B H env M ∧ Wv m env M, ⟨m0, env, M, s, b, h0⟩, fun m σ H ⟨env, M, s, b, hW⟩ => ?_⟩
    refine ⟨env, M, s, wT_mono hF ic (fun k M1 q H1 x1 s1 => ?_) (fun _ _ q => xc_post b q) (hs m env M hW)⟩
    cases k with
    | false => exact q σ H1 s1 (b.step x1)
    | true =>
      refine ⟨fun σ' H' => ∃ m', m' < m ∧ ∃ env M, StE X.K σ' H' env M ∧ BO B H' env M ∧ Wv m' env M, fun σ' H' ⟨m', h1, h2⟩ => ⟨m', h1, h2⟩, env, M1, B, s1, b.step x1, ?_⟩
      refine wSs_mono hF ib ?_ q
      exact ⟨fun e m ⟨m', h1, h2⟩ σ' H' s' b' => ⟨m', h1, e, m, s', b', h2⟩, fun _ _ q => q, fun _ _ q => q, fun e m ⟨m', h1, h2⟩ σ' H' s' b' => ⟨m', h1, e, m, s', b', h2⟩, fun _ _ _ q => q⟩
open Classical in
/-- what is no part of the state -/
noncomputable def Fg (env : Env) (H : Hp) (M : Mem) : Hp := fun a => if M a = none ∧ (∀ (i : Nat) q o', env[i]? = some (.own q o') → q ≠ a) then H a else none
theorem Fg_bo : BO (Fg env H M) H env M := fun a o e => by
  unfold Fg at e
  split at e
  · rename_i h; exact ⟨e, h.1, h.2⟩
  · cases e
theorem Fg_in {a : Addr} {o : HO} (e : H a = some o) (n : M a = none) (k : ∀ (i : Nat) q o', env[i]? = some (.own q o') → q ≠ a) : Fg env H M a = some o := by
  unfold Fg
  rw [if_pos ⟨n, k⟩]; exact e
theorem BO.down {B' : Hp} (b : BO B H env M) {H' : Hp} {e' : Env} {M' : Mem} (b' : BO (Fg env H M) H' e' M') : BO B H' e' M' := fun a o e =>
  let ⟨h1, h2, h3⟩ := b a o e
  b' a o (Fg_in h1 h2 h3)
theorem BR.down (b : BO B H env M) {H' : Hp} {M' : Mem} (b' : BR (Fg env H M) H' M') : BR B H' M' := fun a o e =>
  let ⟨h1, h2, h3⟩ := b a o e
  b' a o (Fg_in h1 h2 h3)
theorem wFor_ok {ok : Env → Mem → Prop} {bd : DL.D → Env → Mem → Kt → Prop} {xs : List DL.D} {K' : Kt} (h : wFor ok bd xs env M K') : ok env M := by
  cases xs with
  | nil => exact h.1
  | cons x xs => exact h.1
theorem js_for (hF : FMono F) {tg iter : Expr} {body : List Stmt} {t : Tg} {g : TG} {it : II} {ib : List IS} {pos : Pos} (hp : PassesOwn (model X.prog X.w) X.A X.env X.xe) (hc : X.calm = true) (hi : PI X tg iter (liftI X.K RX W (wI F it))) (hg : GOk X t tg g)
    (hb : PSs X body (liftS X.K RX W (wSs F ib))) (hs : ∀ x, foldedSetIterable iter X.env x = pure x) : PS X (.For tg iter body [] pos) (liftS X.K RX W (wS F (.for_ t it ib))) :=
  PS.imp (ps_for hp hc hi hg.pg hb hs) fun D σ H ⟨env, M, B, s, b, q⟩ => by
    unfold wS at q
    refine ⟨env, M, s, wI_mono hF it (fun xs ok M1 q J H1 x1 s1 wk => ?_) (fun _ _ q => xc_post b q) q⟩
    obtain ⟨G, wk, hG⟩ := wk
    have b1 := b.step x1
    refine for_it wk (fun i σ2 H2 => ∃ env2 M2, StE X.K σ2 H2 env2 M2 ∧ BO (Fg env H1 M1) H2 env2 M2 ∧
      wFor ok (fun x e m K' => wTg t x e fun e' => wSs F ib e' m K') (xs.drop i) env2 M2 (ktOf X.K RX W B D)) ?_ ?_ ?_ ?_
    · exact ⟨env, M1, s1, Fg_bo, by simpa using q⟩
    · rintro i σ2 H2 _ ⟨env2, M2, s2, b2, q⟩
      exact hG H2 σ2 env2 M2 (fun a o h n k _ => (b2 a o (Fg_in h n k)).1) s2 (wFor_ok q)
    · rintro i x σ2 H2 H3 hi ⟨env2, M2, s2, b2, q⟩ ⟨al, d, hd, rd⟩
      rw [List.drop_eq_getElem_cons hi] at q
      have hd' : xs[i] = d := by rw [List.getElem?_eq_getElem hi] at hd; exact Option.some.inj hd
      rw [hd'] at q
      obtain ⟨_, q⟩ := q
      have s3 := s2.alc al
      have b3 := b2.step (Ext.alc (M := M2) al)
      refine hg.go s3 rd (wTg_mono (fun e ⟨q, kp⟩ σ' s' _ => ?_) (wTg_keep q))
      refine ⟨e, M2, Fg env H1 M1, s', kp.bo b3, wSs_mono hF ib ?_ q⟩
      exact ⟨fun e m q σ' H' s' b' => ⟨e, m, s', b', q⟩, fun d m q v H' m' b' r => q v H' m' (BR.down b1 b') r, fun e m q σ' H' s' b' => q σ' H' s' (b1.down (B' := B) b'),
        fun e m q σ' H' s' b' => ⟨e, m, s', b', q⟩, fun x e m q c dd σ' H' s' b' r => q c dd σ' H' s' (b1.down (B' := B) b') r⟩
    · rintro σ2 H2 ⟨env2, M2, s2, b2, q⟩
      rw [List.drop_length] at q
      exact q.2 σ2 H2 s2 (b1.down (B' := B) b2)
end
end DL
/-! Soundness: methods of lists and texts; reversed, enumerate. -/
namespace DL
open PySem PySem.Spec PyProof.Rows L2
section
variable {X : Cx} {RX : RXT} {W : WX} {F : FS}
variable {K : PySem.W.Frag} {σ : L2.St} {H H1 H2 : Hp} {env : Env} {M M1 M2 : Mem} {Q : VK}
theorem Ext.write {p : Addr} {o o' : MO} {vs' : List V} (e : M p = some o) : Ext env H M (L2.upd H p (.lst vs')) (upd M p o') := fun a u ea n no => by
  have ha : a ≠ p := fun z => by subst z; rw [e] at n; cases n
  exact ⟨by rw [L2.upd_ne ha]; exact ea, by rw [upd_other ha]; exact n⟩
theorem strs_of : ∀ {ys : List Str} {us : List V}, Reps K H (ys.map D.str) us → us = ys.map V.str
  | [], us, r => r
  | y :: ys, us, r => by
    obtain ⟨v, us', rfl, h1, h2⟩ := r
    rw [strs_of h2]
    cases h1
    rfl
theorem reps_strs : ∀ {ys : List Str}, Reps K H (ys.map D.str) (ys.map V.str)
  | [] => rfl
  | y :: ys => ⟨.str y, _, rfl, rfl, reps_strs⟩
theorem Reps.erase' : ∀ {ds : List D} {vs : List V} (n : Nat), Reps K H ds vs → Reps K H (ds.eraseIdx n) (vs.eraseIdx n)
  | [], _, _, r => by cases r; rfl
  | d :: ds, _, 0, r => by
    obtain ⟨v, us, rfl, h1, h2⟩ := r
    exact h2
  | d :: ds, _, n + 1, r => by
    obtain ⟨v, us, rfl, h1, h2⟩ := r
    exact ⟨v, _, rfl, h1, Reps.erase' n h2⟩
def Mth.py : Mth → String
  | .append => "append" | .pop => "pop" | .popAt => "pop" | .reverse => "reverse" | .extend => "extend" | .insert => "insert" | .split => "split" | .join => "join"
def Mth.T (m : Mth) : String := match m.lst with | true => "list" | false => "str"
theorem ty_go {m : Mth} {d : D} {x : V} (s : StE K σ H env M) (r : Rep K H d x) (h : wTy m d M) : tyV K m.T x H := by
  cases hm : m.lst with
  | true =>
    have hT : m.T = "list" := by unfold Mth.T; rw [hm]
    have h' : ∃ a xs, d = .ref a ∧ M a = some (.lst xs) := by unfold wTy at h; rw [hm] at h; exact h
    obtain ⟨a, xs, rfl, e2⟩ := h'
    obtain ⟨vs, h2, _⟩ := s.mem a _ e2
    cases r
    rw [hT]
    exact .inl ⟨rfl, vs, SqL.of h2⟩
  | false =>
    have hT : m.T = "str" := by unfold Mth.T; rw [hm]
    have h' : ∃ s, d = .str s := by unfold wTy at h; rw [hm] at h; exact h
    obtain ⟨z, rfl⟩ := h'
    cases r
    rw [hT]
    exact rfl
abbrev MethR (K : PySem.W.Frag) (m : Mth) (r : V → List V → Hp → VK → Prop) : Prop := ∀ {d : D} {ds : List D} {x : V} {vs : List V} {H : Hp} {M : Mem} {env : Env} {σ : L2.St} {Q : VK}, StE K σ H env M → Rep K H d x → Reps K H ds vs → wMth m d ds M (postE K σ H env M Q) → r x vs H Q
theorem mr_append : MethR K .append rAppend := fun {d ds x vs H M env σ Q} s r rs w => by
  cases d with
  | ref a =>
    rcases ds with _ | ⟨y, _ | ⟨_, _⟩⟩
    · simp [wMth] at w
    · obtain ⟨xs, h1, h2, q⟩ := w
      obtain ⟨v, _, rfl, hv, rfl⟩ := rs
      cases r
      obtain ⟨us, h5, h6⟩ := s.mem a _ h1
      exact ⟨a, us, v, rfl, rfl, h5, by rw [← h6.length]; exact h2, q .non _ (Ext.write h1) (s.write h5 h1 (Reps.append h6 ⟨v, [], rfl, hv, rfl⟩)) rfl⟩
    · simp [wMth] at w
  | _ => simp [wMth] at w
theorem mr_pop : MethR K .pop rPop := fun {d ds x vs H M env σ Q} s r rs w => by
  cases d with
  | ref a =>
    rcases ds with _ | ⟨y, t⟩
    rotate_left
    · simp [wMth] at w
    · obtain ⟨xs, y, h1, h2, q⟩ := w
      cases rs
      cases r
      obtain ⟨us, h5, h6⟩ := s.mem a _ h1
      obtain ⟨v, hv, rv⟩ := h6.get (by rw [List.getLast?_eq_getElem?] at h2; exact h2)
      have t : Tm K H (L2.upd H a (.lst us.dropLast)) := upd_tm (fun _ z => by rw [h5] at z; cases z) fun _ _ z => by rw [h5] at z; cases z
      exact ⟨a, us, v, rfl, rfl, h5, by rw [← h6.length]; exact hv, q v _ (Ext.write h1) (s.write h5 h1 h6.dropLast) (rv.mono t)⟩
  | _ => simp [wMth] at w
theorem mr_popAt : MethR K .popAt rPopAt := fun {d ds x vs H M env σ Q} s r rs w => by
  cases d with
  | ref a =>
    rcases ds with _ | ⟨y, _ | ⟨_, _⟩⟩
    · simp [wMth] at w
    rotate_left
    · simp [wMth] at w
    cases y with
    | int i =>
      obtain ⟨xs, k, y, h1, h2, h3, h4, q⟩ := w
      obtain ⟨v0, _, rfl, hv, rfl⟩ := rs
      cases hv
      cases r
      obtain ⟨us, h5, h6⟩ := s.mem a _ h1
      obtain ⟨v, hv, rv⟩ := h6.get h4
      have t : Tm K H (L2.upd H a (.lst (us.eraseIdx k))) := upd_tm (fun _ z => by rw [h5] at z; cases z) fun _ _ z => by rw [h5] at z; cases z
      exact ⟨a, us, i, k, v, rfl, rfl, h5, h2.1, h2.2, by rw [← h6.length]; exact (ixN_seq h3).1, hv, q v _ (Ext.write h1) (s.write h5 h1 (h6.erase' k)) (rv.mono t)⟩
    | _ => simp [wMth] at w
  | _ => simp [wMth] at w
theorem mr_reverse : MethR K .reverse rReverse := fun {d ds x vs H M env σ Q} s r rs w => by
  cases d with
  | ref a =>
    rcases ds with _ | ⟨y, t⟩
    rotate_left
    · simp [wMth] at w
    · obtain ⟨xs, h1, q⟩ := w
      cases rs
      cases r
      obtain ⟨us, h5, h6⟩ := s.mem a _ h1
      exact ⟨a, us, rfl, rfl, h5, q .non _ (Ext.write h1) (s.write h5 h1 h6.reverse) rfl⟩
  | _ => simp [wMth] at w
theorem mr_extend : MethR K .extend rExtend := fun {d ds x vs H M env σ Q} s r rs w => by
  cases d with
  | ref a =>
    rcases ds with _ | ⟨y, _ | ⟨_, _⟩⟩
    · simp [wMth] at w
    rotate_left
    · simp [wMth] at w
    cases y with
    | ref b =>
      obtain ⟨xs, ys, h1, h2, h3, q⟩ := w
      obtain ⟨v0, _, rfl, hv, rfl⟩ := rs
      cases hv
      cases r
      obtain ⟨us, h5, h6⟩ := s.mem a _ h1
      obtain ⟨ws, h7, h8⟩ := s.mem b _ h2
      exact ⟨a, b, us, ws, rfl, rfl, h5, h7, by rw [← h6.length, ← h8.length]; exact h3, q .non _ (Ext.write h1) (s.write h5 h1 (Reps.append h6 h8)) rfl⟩
    | _ => simp [wMth] at w
  | _ => simp [wMth] at w
def rInsert : V → List V → Hp → VK → Prop := fun x vs H Q => ∃ (l : Addr) (xs : List V) (i : Int) (y : V), x = .ref l ∧ vs = [.int i, y] ∧ H l = some (.lst xs) ∧ xs.length < sizeLine ∧ 0 ≤ i ∧ i < 2 ^ 63 ∧
    Q .non (L2.upd H l (.lst (xs.take i.toNat ++ [y] ++ xs.drop i.toNat)))
theorem mr_insert : MethR K .insert rInsert := fun {d ds x vs H M env σ Q} s r rs w => by
  cases d with
  | ref a =>
    rcases ds with _ | ⟨z, _ | ⟨y, _ | ⟨_, _⟩⟩⟩
    · simp [wMth] at w
    · cases z <;> simp [wMth] at w
    rotate_left
    · cases z <;> simp [wMth] at w
    cases z with
    | int i =>
      obtain ⟨xs, h1, h2, h3, q⟩ := w
      obtain ⟨v0, _, rfl, hv, v1, _, rfl, hv1, rfl⟩ := rs
      cases hv
      cases r
      obtain ⟨us, h5, h6⟩ := s.mem a _ h1
      exact ⟨a, us, i, v1, rfl, rfl, h5, by rw [← h6.length]; exact h2, h3.1, h3.2, q .non _ (Ext.write h1) (s.write h5 h1 (Reps.append (Reps.append (h6.take _) ⟨v1, [], rfl, hv1, rfl⟩) (h6.drop _))) rfl⟩
    | _ => simp [wMth] at w
  | _ => simp [wMth] at w
def rSplit : V → List V → Hp → VK → Prop := fun x xs H Q => ∃ a b, x = .str a ∧ xs = [.str b] ∧ (b.length == 0) = false ∧ a.length + 2 ≤ sizeLine ∧ rNewStrs (Txt.split a b) H Q
theorem mr_split : MethR K .split rSplit := fun {d ds x vs H M env σ Q} s r rs w => by
  cases d with
  | str a =>
    rcases ds with _ | ⟨y, _ | ⟨_, _⟩⟩
    · simp [wMth] at w
    rotate_left
    · simp [wMth] at w
    cases y with
    | str b =>
      obtain ⟨h1, h2, q⟩ := w
      obtain ⟨v0, _, rfl, hv, rfl⟩ := rs
      cases hv
      cases r
      refine ⟨a, b, rfl, rfl, h1, h2, fun p hp => ?_⟩
      have hM : M p = none := s.fresh hp
      have al : Alc H (L2.upd H p (.lst ((Txt.split a b).map V.str))) := Alc.new hp
      refine q p hM _ _ (fun c o e n no => ?_) ((s.alc al).put L2.upd_same (reps_strs (ys := Txt.split a b)) hM fun i q o' e z => ?_) rfl
      · have hc : c ≠ p := fun z => by subst z; rw [hp] at e; cases e
        exact ⟨al _ _ e, by rw [upd_other hc]; exact n⟩
      · subst z
        exact not_own s hp i _ o' e rfl
    | _ => simp [wMth] at w
  | _ => simp [wMth] at w
def rJoin (K : PySem.W.Frag) : V → List V → Hp → VK → Prop := fun x xs H Q => ∃ a p, ∃ ys : List Str, x = .str a ∧ xs = [.ref p] ∧ (SqL K H p (ys.map V.str) ∨ SqT K H p (ys.map V.str)) ∧
    (ys.map (·.length)).sum + ys.length * a.length ≤ 16777216 ∧ Q (.str (Txt.join a ys)) H
theorem mr_join : MethR K .join (rJoin K) := fun {d ds x vs H M env σ Q} s r rs w => by
  cases d with
  | str a =>
    rcases ds with _ | ⟨y, _ | ⟨_, _⟩⟩
    · simp [wMth] at w
    rotate_left
    · simp [wMth] at w
    cases y with
    | ref b =>
      obtain ⟨ys, h1, h2, q⟩ := w
      obtain ⟨v0, _, rfl, hv, rfl⟩ := rs
      cases hv
      cases r
      obtain ⟨us, h5, h6⟩ := s.mem b _ h1
      rw [strs_of h6] at h5
      exact ⟨a, b, ys, rfl, rfl, .inl (SqL.of h5), h2, q.at s (d := .str _) rfl⟩
    | tup xs =>
      obtain ⟨ys, rfl, h2, q⟩ := w
      obtain ⟨v0, _, rfl, ⟨p, us, rfl, h5, h6⟩, rfl⟩ := rs
      cases r
      rw [strs_of h6] at h5
      exact ⟨a, p, ys, rfl, rfl, .inr h5, h2, q.at s (d := .str _) rfl⟩
    | _ => simp [wMth] at w
  | _ => simp [wMth] at w
theorem meth_go (hF : FMono F) {m : Mth} {r : V → List V → Hp → VK → Prop} (hr : MethR K m r) {o : IE} {es : IEs} {σ : L2.St} {H : Hp} {Q : VK} (h : liftE K RX W (wE F (.meth m o es)) σ H Q) :
    tBM K m.T r (liftE K RX W (wE F o)) (liftA K RX W (wEs F es)) σ H Q := by
  obtain ⟨env, M, s, h⟩ := h
  exact ⟨env, M, s, wE_mono hF o (fun d M1 q v H1 x1 s1 r1 => ⟨ty_go s1 r1 q.1, env, M1, s1, wEs_mono hF es (fun ds M2 q vs H2 x2 s2 r2 => hr s2 (r1.mono (x2.tm s1)) r2 (wMth_mono (fun _ _ q => q.go (x1.trans x2)) q)) (fun _ _ q => q.go x1) q.2⟩) (fun _ _ q => q) h⟩
theorem meth_go0 (hF : FMono F) {m : Mth} {r : V → List V → Hp → VK → Prop} (hr : MethR K m r) {o : IE} {σ : L2.St} {H : Hp} {Q : VK} (h : liftE K RX W (wE F (.meth m o .nil)) σ H Q) :
    tBM0 K m.T r (liftE K RX W (wE F o)) σ H Q := by
  obtain ⟨env, M, s, h⟩ := h
  exact ⟨env, M, s, wE_mono hF o (fun d M1 q v H1 x1 s1 r1 => ⟨ty_go s1 r1 q.1, hr s1 r1 (vs := []) (ds := []) rfl (wMth_mono (fun _ _ q => q.go x1) q.2)⟩) (fun _ _ q => q) h⟩
/-- o.m() -/
theorem je_meth0 (hF : FMono F) {m : Mth} (hm : m = .pop ∨ m = .reverse) {o : IE} {e : Expr} {ap cp : Pos} (h : PE X e (liftE X.K RX W (wE F o))) (hb : attributeBase e (m.py : Str) X.env (eval e X.env) = eval e X.env) (hl : (ap.endLine == cp.line) = true) :
    PE X (.Call (.Attribute e (m.py : Str) ap) [] [] cp) (liftE X.K RX W (wE F (.meth m o .nil))) := by
  rcases hm with rfl | rfl
  · exact PE.imp (pe_bm0 PySem.F.plainAttrs_list PySem.F.slot_list_pop PySem.F.type_list_pop mt_pop h (hbase := hb) (hline := hl)) fun σ H Q w => meth_go0 hF mr_pop w
  · exact PE.imp (pe_bm0 PySem.F.plainAttrs_list PySem.F.slot_list_reverse PySem.F.type_list_reverse mt_reverse h (hbase := hb) (hline := hl)) fun σ H Q w => meth_go0 hF mr_reverse w
/-- o.m(e, ..) -/
theorem je_methN (hF : FMono F) {m : Mth} (hm : m ≠ .pop ∧ m ≠ .reverse) {o : IE} {is : IEs} {e a : Expr} {as : List Expr} {ap cp : Pos} (h : PE X e (liftE X.K RX W (wE F o))) (ha : PA X (a :: as) (liftA X.K RX W (wEs F is))) (hb : attributeBase e (m.py : Str) X.env (eval e X.env) = eval e X.env) (hl : (ap.endLine == cp.line) = true)
    (hfew : ((backTo cp (starEach (a :: as) X.env)).all (fun x => !x.1) && (backToKw cp (keywordEach [] X.env)).all (fun x => x.1.isSome)
      && decide ((a :: as).length + ([] : List Keyword).length + (if ([] : List Keyword).isEmpty then 0 else 1) < 30)) = true)
    (hs : starEach (a :: as) X.env = (false, eval a X.env) :: starEach as X.env) (hplain : (backTo cp (starEach as X.env)).any (·.1) = false) :
    PE X (.Call (.Attribute e (m.py : Str) ap) (a :: as) [] cp) (liftE X.K RX W (wE F (.meth m o is))) := by
  cases m with
  | append => exact PE.imp (pe_bm PySem.F.plainAttrs_list PySem.F.slot_list_append PySem.F.type_list_append mt_append h ha (hbase := hb) (hfew := hfew) (hline := hl) (hs := hs) (hplain := hplain)) fun σ H Q w => meth_go hF mr_append w
  | pop => exact absurd rfl hm.1
  | popAt => exact PE.imp (pe_bm PySem.F.plainAttrs_list PySem.F.slot_list_pop PySem.F.type_list_pop mt_popAt h ha (hbase := hb) (hfew := hfew) (hline := hl) (hs := hs) (hplain := hplain)) fun σ H Q w => meth_go hF mr_popAt w
  | reverse => exact absurd rfl hm.2
  | extend => exact PE.imp (pe_bm PySem.F.plainAttrs_list PySem.F.slot_list_extend PySem.F.type_list_extend mt_extend h ha (hbase := hb) (hfew := hfew) (hline := hl) (hs := hs) (hplain := hplain)) fun σ H Q w => meth_go hF mr_extend w
  | insert => exact PE.imp (pe_bm PySem.F.plainAttrs_list PySem.F.slot_list_insert PySem.F.type_list_insert mt_insert h ha (hbase := hb) (hfew := hfew) (hline := hl) (hs := hs) (hplain := hplain)) fun σ H Q w => meth_go hF mr_insert w
  | split => exact PE.imp (pe_bm PySem.F.plainAttrs_str PySem.F.slot_str_split PySem.F.type_str_split mt_split h ha (hbase := hb) (hfew := hfew) (hline := hl) (hs := hs) (hplain := hplain)) fun σ H Q w => meth_go hF mr_split w
  | join => exact PE.imp (pe_bm PySem.F.plainAttrs_str PySem.F.slot_str_join PySem.F.type_str_join mt_join h ha (hbase := hb) (hfew := hfew) (hline := hl) (hs := hs) (hplain := hplain)) fun σ H Q w => meth_go hF mr_join w
/-- tuple(reversed(l)) -/
theorem je_tupRev (hF : FMono F) {l : IL} {e : Expr} {p p2 pos pos2 : Pos} (hc : X.calm = true) (hg : Gl X "tuple") (hm : X.mg "tuple" = none) (hg2 : Gl X "reversed") (hm2 : X.mg "reversed" = none) (h : PE X e (liftL X.K RX W (wL F l)))
    (hs : starEach [e] X.env = (false, eval e X.env) :: starEach [] X.env) :
    PE X (.Call (.Name "tuple" p) [.Call (.Name "reversed" p2) [e] [] pos2] [] pos) (liftE X.K RX W (wE F (.tupRev l))) :=
  PE.imp (RT.pe_tupRev hc hg hm hg2 hm2 h hs rfl) fun σ H Q ⟨env, M, s, h⟩ => ⟨env, M, s, wL_mono hF l (fun xs M1 q p us H1 x1 s1 hs' r =>
    ⟨p, us, rfl, hs', fun t ht => (q.go x1).alc s1 (d := .tup xs.reverse) (Alc.new ht) ⟨t, _, rfl, SqT.of L2.upd_same, r.reverse.mono (Alc.new ht).tm⟩⟩) (fun _ _ q => q) h⟩
theorem je_dead {e : Expr} : PE X e (liftE X.K RX W (wE F .dead)) := ⟨fun pins s σ H Q I q => by obtain ⟨env, M, s, h⟩ := q; exact h.elim⟩
theorem js_dead {e : Stmt} : PS X e (liftS X.K RX W (wS F .dead)) := ⟨fun pins s σ H D I q => by obtain ⟨env, M, B, s, b, h⟩ := q; exact h.elim⟩
/-! ### reversed, enumerate -/
theorem walk_revT {a : Addr} {xs : List D} : Walk (RT.ItvT K a xs.length) xs.reverse.length (fun H => ∃ vs, SqT K H a vs ∧ Reps K H xs vs) (YD K xs.reverse) := by
  rw [List.length_reverse]
  refine ⟨fun i H hi ⟨vs, h1, h2⟩ => ?_, fun H ⟨vs, h1, h2⟩ => Nat.le_refl _, fun i H x H' hi ⟨vs, h1, h2⟩ ⟨e, y⟩ => ?_⟩
  · have := h2.length
    exact ⟨hi, vs, vs[xs.length - 1 - i]'(by omega), h1, List.getElem?_eq_getElem _⟩
  · subst e
    obtain ⟨d, g1, g2⟩ := h2.get' (y vs h1)
    exact ⟨Alc.refl, d, by rw [List.getElem?_reverse hi]; exact g1, g2⟩
theorem walk_revL {a : Addr} {xs : List D} : Walk (Itv K a xs.length) xs.reverse.length (fun H => ∃ vs, SqL K H a vs ∧ Reps K H xs vs) (YD K xs.reverse) := by
  rw [List.length_reverse]
  refine ⟨fun i H hi ⟨vs, h1, h2⟩ => ?_, fun H ⟨vs, h1, h2⟩ => Nat.le_refl _, fun i H x H' hi ⟨vs, h1, h2⟩ ⟨e, y⟩ => ?_⟩
  · have := h2.length
    exact ⟨hi, vs, vs[xs.length - 1 - i]'(by omega), h1, List.getElem?_eq_getElem _⟩
  · subst e
    obtain ⟨d, g1, g2⟩ := h2.get' (y vs h1)
    exact ⟨Alc.refl, d, by rw [List.getElem?_reverse hi]; exact g1, g2⟩
theorem ji_rev (hF : FMono F) {tg e : Expr} {ie : IE} {p pos : Pos} (hg : Gl X "reversed") (hm : X.mg "reversed" = none) (h : PE X e (liftE X.K RX W (wE F ie))) (hs : starEach [e] X.env = (false, eval e X.env) :: starEach [] X.env) :
    PI X tg (.Call (.Name "reversed" p) [e] [] pos) (liftI X.K RX W (wI F (.rev ie))) :=
  PI.imp (RT.pi_revA hg hm h hs) fun σ H R ⟨env, M, s, h⟩ => ⟨env, M, s, wE_mono hF ie (fun d M1 q v H1 x1 s1 r1 => by
    cases d with
    | tup xs =>
      obtain ⟨a, vs, rfl, h1, h2⟩ := r1
      refine ⟨a, vs, rfl, .inr ⟨h1, ?_⟩⟩
      rw [← h2.length]
      exact q _ H1 x1 s1 ⟨_, walk_revT, fun H' σ' env' M' k s' _ => ⟨vs, (tm_for s1 k _ _).1 h1, h2.mono (tm_for s1 k)⟩⟩
    | ref a =>
      cases r1
      obtain ⟨xs, e, q⟩ := q
      obtain ⟨vs, h2, h3⟩ := s1.mem _ _ e
      refine ⟨a, vs, rfl, .inl ⟨SqL.of h2, ?_⟩⟩
      rw [← h3.length]
      refine q _ H1 x1 s1 ⟨_, walk_revL, fun H' σ' env' M' k s' o => ?_⟩
      obtain ⟨vs', h5, h6⟩ := s'.mem _ _ o
      exact ⟨vs', SqL.of h5, h6⟩
    | _ => simp [wRevIt] at q) (fun _ _ q => q) h⟩
theorem walk_enT {a : Addr} {xs : List D} : Walk (DLK.IteT K a xs.length) (xs.mapIdx fun i x => D.tup [.int (i : Int), x]).length (fun H => ∃ vs, SqT K H a vs ∧ Reps K H xs vs) (YD K (xs.mapIdx fun i x => .tup [.int (i : Int), x])) := by
  rw [List.length_mapIdx]
  refine ⟨fun i H hi ⟨vs, h1, h2⟩ => ?_, fun H ⟨vs, h1, h2⟩ => ⟨Nat.le_refl _, vs, h1, h2.length.symm⟩, fun i H x H' hi ⟨vs, h1, h2⟩ ⟨T, u, e1, e2, e3, y⟩ => ?_⟩
  · have := h2.length
    exact ⟨hi, vs, vs[i]'(by omega), h1, this.symm, List.getElem?_eq_getElem _⟩
  · subst e1 e3
    obtain ⟨d, g1, g2⟩ := h2.get' (y vs h1)
    refine ⟨Alc.new e2, .tup [.int (i : Int), d], ?_, T, [.int (i : Int), u], rfl, SqT.of L2.upd_same, .int (i : Int), [u], rfl, rfl, u, [], rfl, g2.mono (Alc.new e2).tm, rfl⟩
    rw [List.getElem?_mapIdx, g1]; rfl
theorem walk_enL {a : Addr} {xs : List D} : Walk (Ite K a) (xs.mapIdx fun i x => D.tup [.int (i : Int), x]).length (fun H => ∃ vs, SqL K H a vs ∧ Reps K H xs vs) (YD K (xs.mapIdx fun i x => .tup [.int (i : Int), x])) := by
  rw [List.length_mapIdx]
  refine ⟨fun i H hi ⟨vs, h1, h2⟩ => ?_, fun H ⟨vs, h1, h2⟩ => ⟨vs, h1, by rw [h2.length]; exact Nat.le_refl _⟩, fun i H x H' hi ⟨vs, h1, h2⟩ ⟨T, u, e1, e2, e3, y⟩ => ?_⟩
  · have := h2.length
    exact ⟨vs, vs[i]'(by omega), h1, List.getElem?_eq_getElem _⟩
  · subst e1 e3
    obtain ⟨d, g1, g2⟩ := h2.get' (y vs h1)
    refine ⟨Alc.new e2, .tup [.int (i : Int), d], ?_, T, [.int (i : Int), u], rfl, SqT.of L2.upd_same, .int (i : Int), [u], rfl, rfl, u, [], rfl, g2.mono (Alc.new e2).tm, rfl⟩
    rw [List.getElem?_mapIdx, g1]; rfl
theorem ji_enum (hF : FMono F) {e : Expr} {ie : IE} {p pos tpos : Pos} {elts : List Expr} {kk : Nat} (hg : Gl X "enumerate") (hm : X.mg "enumerate" = none) (h : PE X e (liftE X.K RX W (wE F ie))) (hs : starEach [e] X.env = (false, eval e X.env) :: starEach [] X.env) :
    PI X (.Tuple elts kk tpos) (.Call (.Name "enumerate" p) [e] [] pos) (liftI X.K RX W (wI F (.enum ie))) :=
  PI.imp (DLK.pi_enumA hg hm h hs) fun σ H R ⟨env, M, s, h⟩ => ⟨env, M, s, wE_mono hF ie (fun d M1 q v H1 x1 s1 r1 => by
    cases d with
    | tup xs =>
      obtain ⟨a, vs, rfl, h1, h2⟩ := r1
      refine ⟨a, vs, rfl, .inr ⟨h1, ?_⟩⟩
      rw [← h2.length]
      exact q _ H1 x1 s1 ⟨_, walk_enT, fun H' σ' env' M' k s' _ => ⟨vs, (tm_for s1 k _ _).1 h1, h2.mono (tm_for s1 k)⟩⟩
    | ref a =>
      cases r1
      obtain ⟨xs, e, q⟩ := q
      obtain ⟨vs, h2, h3⟩ := s1.mem _ _ e
      refine ⟨a, vs, rfl, .inl ⟨SqL.of h2, ?_⟩⟩
      refine q _ H1 x1 s1 ⟨_, walk_enL, fun H' σ' env' M' k s' o => ?_⟩
      obtain ⟨vs', h5, h6⟩ := s'.mem _ _ o
      exact ⟨vs', SqL.of h5, h6⟩
    | _ => simp [wEnum] at q) (fun _ _ q => q) h⟩
/-! ### sorted -/
theorem reps_ints : ∀ {ys : List Int}, Reps K H (ys.map D.int) (ys.map V.int)
  | [] => rfl
  | y :: ys => ⟨.int y, _, rfl, rfl, reps_ints⟩
def rSrt (K : PySem.W.Frag) : List V → Hp → VK → Prop := fun vs H Q => ∃ p us xs, vs = [.ref p] ∧ SqL K H p us ∧ Reps K H xs us ∧ wSorted xs fun ys => ∀ q ws, H q = none → Reps K H ys ws → Q (.ref q) (L2.upd H q (.lst ws))
theorem call_srt : CallR X (.builtin "sorted") (rSrt X.K) := by
  intro pins s σ H vs us Q I r h
  obtain ⟨p, us', xs, rfl, hs, hr, w⟩ := h
  rcases w with ⟨ns, rfl, h64, w⟩ | ⟨ns, rfl, h64, w⟩
  · have e := ints_reps hr
    subst e
    exact cr_sorted pins s σ H _ us Q I r ⟨p, ns, rfl, hs, h64, fun ns' q h1 h2 hq => w ns' h1 h2 q _ hq reps_ints⟩
  · have e := strs_of hr
    subst e
    exact cr_sortedS pins s σ H _ us Q I r ⟨p, ns, rfl, hs, h64, fun ns' q h1 h2 hq => w ns' h1 h2 q _ hq reps_strs⟩
theorem je_sorted (hF : FMono F) {l : IL} {e : Expr} {t : TE} (h : PE X e t) (ht : ∀ σ H Q, (liftL X.K RX W (wL F l) σ H fun x H1 => rSrt X.K [x] H1 Q) → t σ H Q) : PE X e (liftE X.K RX W (wE F (.sorted l))) :=
  PE.imp h fun σ H Q ⟨env, M, s, h⟩ => ht σ H Q ⟨env, M, s, wL_mono hF l (fun xs M1 q p us H1 x1 s1 hs r => ⟨p, us, xs, rfl, hs, r, wSorted_mono (fun ys q t ws ht' rw' => by
    have hM : M1 t = none := s1.fresh ht'
    have al : Alc H1 (L2.upd H1 t (.lst ws)) := Alc.new ht'
    refine ((q t hM).go x1) (.ref t) _ (fun c o e n no => ?_) ((s1.alc al).put L2.upd_same (rw'.mono al.tm) hM fun i q o' e z => ?_) rfl
    · have hc : c ≠ t := fun z => by subst z; rw [ht'] at e; cases e
      exact ⟨al _ _ e, by rw [upd_other hc]; exact n⟩
    · subst z
      exact not_own s1 ht' i _ o' e rfl) q⟩) (fun _ _ q => q) h⟩
end
end DL
/-! Soundness: dicts. -/
namespace DL
open PySem PySem.Spec PyProof.Rows L2
section
variable {X : Cx} {pins : List (Addr × Obj)} {σ : L2.St} {H : Hp} {s : Shared}
mutual
theorem nis_of (I : Inv X pins σ H s) : ∀ {n : Nat} {d : D} {x : V} {v : Value}, D.kt n d = true → Rep X.K H d x → RelV x v → NestedIs s.heap d.nk v ∧ d.nk.depth ≤ n ∧ DLK.nk0 d.nk = true
  | n, .non, x, v, _, r, rv => by
    cases r; cases rv
    exact ⟨.none, by simp [D.nk, NestedKey.depth], by simp [D.nk, DLK.nk0]⟩
  | n, .int i, x, v, _, r, rv => by
    cases r
    obtain ⟨t, rfl⟩ := rv
    exact ⟨.int _ _, by simp [D.nk, NestedKey.depth], by simp [D.nk, DLK.nk0]⟩
  | n + 1, .tup xs, x, v, h, r, rv => by
    obtain ⟨a, vs, rfl, hq, q⟩ := r
    cases rv
    obtain ⟨its, rs, ⟨o, h1, h2, m, h3⟩, _⟩ := I.tuple hq
    obtain ⟨k1, k2, k3⟩ := niss_of I (n := n) (by simpa [D.kt] using h) q rs
    refine ⟨.tup h1 h2 h3 (by simpa using k1), ?_, ?_⟩
    · simp only [D.nk, NestedKey.depth]; omega
    · simp only [D.nk, DLK.nk0]; exact k3
  | 0, .tup xs, x, v, h, r, rv => by simp [D.kt] at h
  | n, .bl _, x, v, h, r, rv => by cases n <;> simp [D.kt] at h
  | n, .str _, x, v, h, r, rv => by cases n <;> simp [D.kt] at h
  | n, .ref _, x, v, h, r, rv => by cases n <;> simp [D.kt] at h
  | n, .rl _, x, v, h, r, rv => by cases n <;> simp [D.kt] at h
theorem niss_of (I : Inv X pins σ H s) : ∀ {n : Nat} {ds : List D} {xs : List V} {vs : List Value}, D.kts n ds = true → Reps X.K H ds xs → Vals xs vs → NestedAll s.heap (D.nks ds) vs ∧ NestedKey.depthAll (D.nks ds) ≤ n ∧ DLK.nk0s (D.nks ds) = true
  | n, [], xs, vs, _, r, rv => by
    cases r; cases rv
    exact ⟨.nil, Nat.zero_le _, rfl⟩
  | n, d :: ds, xs, vs, h, r, rv => by
    obtain ⟨x, r', rfl, h1, h2⟩ := r
    cases rv with
    | cons g1 g2 =>
      have h' : D.kt n d = true ∧ D.kts n ds = true := by simpa [D.kts] using h
      obtain ⟨a1, a2, a3⟩ := nis_of I h'.1 h1 g1
      obtain ⟨b1, b2, b3⟩ := niss_of I h'.2 h2 g2
      refine ⟨.cons a1 b1, ?_, ?_⟩
      · simp only [D.nks, NestedKey.depthAll]; omega
      · simp only [D.nks, DLK.nk0s, a3, b3]; rfl
end
mutual
theorem nk_inj : ∀ {n m : Nat} {a b : D}, D.kt n a = true → D.kt m b = true → a.nk = b.nk → a = b
  | n, m, .non, .non, _, _, _ => rfl
  | n, m, .int i, .int j, _, _, h => by simp [D.nk] at h; rw [h]
  | n + 1, m + 1, .tup xs, .tup ys, h1, h2, h => by
    have h3 : D.nks xs = D.nks ys := by simpa [D.nk] using h
    rw [nks_inj (n := n) (m := m) (by simpa [D.kt] using h1) (by simpa [D.kt] using h2) h3]
  | 0, m, .tup xs, b, h1, _, _ => by simp [D.kt] at h1
  | n, 0, a, .tup xs, _, h2, _ => by simp [D.kt] at h2
  | n, m, .non, .int j, _, _, h => by simp [D.nk] at h
  | n, m, .int j, .non, _, _, h => by simp [D.nk] at h
  | n, m + 1, .non, .tup j, _, _, h => by simp [D.nk] at h
  | n + 1, m, .tup j, .non, _, _, h => by simp [D.nk] at h
  | n, m + 1, .int i, .tup j, _, _, h => by simp [D.nk] at h
  | n + 1, m, .tup j, .int i, _, _, h => by simp [D.nk] at h
  | n, m, .bl _, b, h, _, _ => by cases n <;> simp [D.kt] at h
  | n, m, .str _, b, h, _, _ => by cases n <;> simp [D.kt] at h
  | n, m, .ref _, b, h, _, _ => by cases n <;> simp [D.kt] at h
  | n, m, .rl _, b, h, _, _ => by cases n <;> simp [D.kt] at h
  | n, m, a, .bl _, _, h, _ => by cases m <;> simp [D.kt] at h
  | n, m, a, .str _, _, h, _ => by cases m <;> simp [D.kt] at h
  | n, m, a, .ref _, _, h, _ => by cases m <;> simp [D.kt] at h
  | n, m, a, .rl _, _, h, _ => by cases m <;> simp [D.kt] at h
theorem nks_inj : ∀ {n m : Nat} {as bs : List D}, D.kts n as = true → D.kts m bs = true → D.nks as = D.nks bs → as = bs
  | n, m, [], [], _, _, _ => rfl
  | n, m, [], _ :: _, _, _, h => by simp [D.nks] at h
  | n, m, _ :: _, [], _, _, h => by simp [D.nks] at h
  | n, m, a :: as, b :: bs, h1, h2, h => by
    have h1' : D.kt n a = true ∧ D.kts n as = true := by simpa [D.kts] using h1
    have h2' : D.kt m b = true ∧ D.kts m bs = true := by simpa [D.kts] using h2
    have h' : a.nk = b.nk ∧ D.nks as = D.nks bs := by simpa [D.nks] using h
    rw [nk_inj h1'.1 h2'.1 h'.1, nks_inj h1'.2 h2'.2 h'.2]
end
mutual
theorem D.beq_self : ∀ d : D, D.beq d d = true
  | .non => rfl
  | .bl b => by simp [D.beq]
  | .int b => by simp [D.beq]
  | .str b => by simp [D.beq]
  | .ref b => by simp [D.beq]
  | .tup xs => by rw [D.beq]; exact D.beqs_self xs
  | .rl xs => by rw [D.beq]; exact D.beqs_self xs
theorem D.beqs_self : ∀ ds : List D, D.beqs ds ds = true
  | [] => rfl
  | d :: ds => by rw [D.beqs, D.beq_self d, D.beqs_self ds]; rfl
end
theorem D.beq_iff {a b : D} : D.beq a b = true ↔ a = b := ⟨D.beq_eq, fun h => by rw [h]; exact D.beq_self b⟩
theorem pk_inj {a b : D} {k : L2.Key} (h : a.pk = some k) (h' : b.pk = some k) : a = b := by
  cases a <;> cases b <;> first | (simp [D.pk] at h; done) | (simp [D.pk] at h'; done) | (have e := h.trans h'.symm; simpa [D.pk] using e)
/-- what is there, and what stands for it -/
def OV (K : PySem.W.Frag) (H : Hp) (o : Option D) (o' : Option V) : Prop := (o = none ∧ o' = none) ∨ ∃ d v, o = some d ∧ o' = some v ∧ Rep K H d v
theorem dget_k {K : PySem.W.Frag} {H : Hp} {k : D} {k' : L2.Key} (hk : k.pk = some k') : ∀ {es : List (D × D)} {kvs : List (L2.Key × V)}, Paired (fun (p : D × D) (q : L2.Key × V) => p.1.pk = some q.1 ∧ Rep K H p.2 q.2) es kvs → OV K H (dget es k) (valV kvs k')
  | _, _, .nil => .inl ⟨rfl, rfl⟩
  | p :: es, q :: kvs, .cons h t => by
    by_cases e : p.1 = k
    · have e2 : q.1 = k' := by have := h.1; rw [e, hk] at this; exact (Option.some.inj this).symm
      right
      refine ⟨p.2, q.2, ?_, valV_pos e2, h.2⟩
      unfold dget
      rw [List.find?_cons, D.beq_iff.mpr e]; rfl
    · have e2 : ¬ q.1 = k' := fun z => e (pk_inj (by rw [h.1, z]) hk)
      have e3 : D.beq p.1 k = false := by
        cases e4 : D.beq p.1 k with
        | false => rfl
        | true => exact absurd (D.beq_eq e4) e
      have ih := dget_k hk t
      rw [valV_neg e2]
      have : dget (p :: es) k = dget es k := by unfold dget; rw [List.find?_cons, e3]
      rw [this]; exact ih
theorem any_dget {k : D} : ∀ {es : List (D × D)}, (es.any fun p => D.beq p.1 k) = (dget es k).isSome
  | [] => rfl
  | p :: es => by
    unfold dget
    rw [List.any_cons, List.find?_cons]
    cases e : D.beq p.1 k with
    | true => rfl
    | false => rw [Bool.false_or, any_dget (es := es)]; rfl
theorem paired_map {α β : Type} {F : α → β → Prop} {f : α → α} {g : β → β} (h : ∀ a b, F a b → F (f a) (g b)) : ∀ {l : List α} {m : List β}, Paired F l m → Paired F (l.map f) (m.map g)
  | _, _, .nil => .nil
  | _, _, .cons a b => .cons (h _ _ a) (paired_map h b)
theorem dput_k {K : PySem.W.Frag} {H : Hp} {k d : D} {k' : L2.Key} {v : V} (hk : k.pk = some k') (hv : Rep K H d v) {es : List (D × D)} {kvs : List (L2.Key × V)} (r : Paired (fun (p : D × D) (q : L2.Key × V) => p.1.pk = some q.1 ∧ Rep K H p.2 q.2) es kvs) :
    Paired (fun (p : D × D) (q : L2.Key × V) => p.1.pk = some q.1 ∧ Rep K H p.2 q.2) (dput es k d) (putK kvs k' v) := by
  have e : (kvs.any fun kv => decide (kv.1 = k')) = (es.any fun p => D.beq p.1 k) := by
    rw [valV_any, any_dget]
    rcases dget_k hk r with ⟨a, b⟩ | ⟨x, y, a, b, _⟩
    · rw [a, b]; rfl
    · rw [a, b]; rfl
  unfold dput putK
  rw [e]
  by_cases a : (es.any fun p => D.beq p.1 k) = true
  · rw [if_pos a, if_pos a]
    refine paired_map (fun p q h => ?_) r
    by_cases e1 : p.1 = k
    · have e2 : q.1 = k' := by have := h.1; rw [e1, hk] at this; exact (Option.some.inj this).symm
      rw [if_pos (D.beq_iff.mpr e1), if_pos e2]; exact ⟨h.1, hv⟩
    · have e2 : ¬ q.1 = k' := fun z => e1 (pk_inj (by rw [h.1, z]) hk)
      rw [if_neg (fun z => e1 (D.beq_eq z)), if_neg e2]; exact h
  · rw [if_neg a, if_neg a]
    exact Paired.snoc r ⟨hk, hv⟩
abbrev NR (K : PySem.W.Frag) (H : Hp) : D × D → DLK.XE → Prop := fun p q => p.1.kt 8 = true ∧ p.1.nk = q.1 ∧ Rep K H p.1 (.ref q.2.1) ∧ ∃ v, RelV v q.2.2 ∧ Rep K H p.2 v
theorem dget_n {K : PySem.W.Frag} {H : Hp} {k : D} (hk : k.kt 8 = true) : ∀ {es : List (D × D)} {xs : List DLK.XE}, Paired (NR K H) es xs → (dget es k = none ∧ atKey xs k.nk = none) ∨ ∃ d p v, dget es k = some d ∧ atKey xs k.nk = some p ∧ RelV v p.2 ∧ Rep K H d v
  | _, _, .nil => .inl ⟨rfl, rfl⟩
  | p :: es, q :: xs, .cons h t => by
    by_cases e : p.1 = k
    · have e2 : q.1 = k.nk := by rw [← h.2.1, e]
      right
      obtain ⟨v, h1, h2⟩ := h.2.2.2
      refine ⟨p.2, q.2, v, ?_, ?_, h1, h2⟩
      · unfold dget
        rw [List.find?_cons, D.beq_iff.mpr e]; rfl
      · simp [atKey, List.find?_cons, e2]
    · have e2 : ¬ q.1 = k.nk := fun z => e (nk_inj h.1 hk (by rw [h.2.1, z]))
      have e3 : D.beq p.1 k = false := by
        cases e4 : D.beq p.1 k with
        | false => rfl
        | true => exact absurd (D.beq_eq e4) e
      have ih := dget_n hk t
      have : dget (p :: es) k = dget es k := by unfold dget; rw [List.find?_cons, e3]
      rw [this]
      have : atKey (q :: xs) k.nk = atKey xs k.nk := by simp [atKey, List.find?_cons, e2]
      rw [this]; exact ih
theorem dput_n {K : PySem.W.Frag} {H : Hp} {k d : D} {b : Addr} {v : V} {u : Value} (hk : k.kt 8 = true) (hb : Rep K H k (.ref b)) (rv : RelV v u) (hv : Rep K H d v) {es : List (D × D)} {xs : List DLK.XE} (r : Paired (NR K H) es xs) :
    Paired (NR K H) (dput es k d) (storedH xs k.nk b u) := by
  have e : (atKey xs k.nk).isSome = (es.any fun p => D.beq p.1 k) := by
    rw [any_dget]
    rcases dget_n hk r with ⟨a, b⟩ | ⟨x, y, z, a, b, _⟩
    · rw [a, b]; rfl
    · rw [a, b]; rfl
  unfold dput storedH
  rw [e]
  by_cases a : (es.any fun p => D.beq p.1 k) = true
  · rw [if_pos a, if_pos a]
    refine paired_map (fun p q h => ?_) r
    unfold putAt
    by_cases e1 : p.1 = k
    · have e2 : q.1 = k.nk := by rw [← h.2.1, e1]
      rw [if_pos (D.beq_iff.mpr e1), if_pos e2]; exact ⟨h.1, h.2.1, h.2.2.1, v, rv, hv⟩
    · have e2 : ¬ q.1 = k.nk := fun z => e1 (nk_inj h.1 hk (by rw [h.2.1, z]))
      rw [if_neg (fun z => e1 (D.beq_eq z)), if_neg e2]; exact h
  · rw [if_neg a, if_neg a]
    exact Paired.snoc r ⟨hk, rfl, hb, v, rv, hv⟩
/-! ### a dict and a key at hand -/
theorem kt_tup {K : PySem.W.Frag} {H : Hp} {d : D} {b : Addr} {n : Nat} (h : d.kt n = true) (r : Rep K H d (.ref b)) : d.plain = false := by
  cases d <;> first | rfl | (cases r) | (cases n <;> simp [D.kt] at h)
theorem pk_plain {d : D} {k : L2.Key} (h : d.pk = some k) : d.plain = true := by cases d <;> simp_all [D.pk, D.plain]
theorem dk_split {a : Addr} {es : List (D × D)} {k : D} {y : V} (I : Inv X pins σ H s) (ok : OOk X.K H a (.dct es)) (hk : DkOk es k) (r : Rep X.K H k y) :
    (∃ kvs k', H a = some (.dK kvs) ∧ Paired (fun (p : D × D) (q : L2.Key × V) => p.1.pk = some q.1 ∧ Rep X.K H p.2 q.2) es kvs ∧ k.pk = some k' ∧ y = kV k') ∨
    ∃ xs b, y = .ref b ∧ k.kt 8 = true ∧ Paired (NR X.K H) es xs ∧ DLK.DkN X s a xs k.nk b ∧ Mut (H a) := by
  obtain ⟨h1, h2⟩ := hk
  have nested : ∀ xs, Paired (NR X.K H) es xs → (k.plain = false) → (s.heap.DictOfH (nestedKind X.prog X.w) a xs ∧ xs.length ≤ sizeLine ∧ (a == sysModules) = false) → (∀ x ∈ xs, DLK.nk0 x.1 = true) → Mut (H a) → ∃ xs b, y = .ref b ∧ k.kt 8 = true ∧ Paired (NR X.K H) es xs ∧ DLK.DkN X s a xs k.nk b ∧ Mut (H a) := fun xs pr hp hd hn mu => by
    cases k with
    | tup ks =>
      have hk8 : D.kt 8 (.tup ks) = true := by simpa [D.keyOk] using h1
      obtain ⟨b, vs, rfl, hq, q⟩ := r
      obtain ⟨g1, g2, g3⟩ := nis_of I hk8 ⟨b, vs, rfl, hq, q⟩ (show RelV (.ref b) (.ref b) from rfl)
      exact ⟨xs, b, rfl, hk8, pr, ⟨hd.1, hd.2.1, hd.2.2, hn, g3, g1, g2⟩, mu⟩
    | int i => simp [D.plain] at hp
    | str i => simp [D.plain] at hp
    | _ => simp [D.keyOk] at h1
  rcases ok with ⟨kvs, e1, e2⟩ | ⟨h0, xs, e1, e2⟩
  · cases hp : k.plain with
    | true =>
      left
      cases k with
      | int i => cases r; exact ⟨kvs, .inl i, e1, e2, rfl, rfl⟩
      | str i => cases r; exact ⟨kvs, .inr i, e1, e2, rfl, rfl⟩
      | _ => simp [D.plain] at hp
    | false =>
      have : es = [] := by
        cases es with
        | nil => rfl
        | cons p es =>
          have z := (h2 p List.mem_cons_self).2
          cases e2 with
          | cons g _ => rw [pk_plain g.1, hp] at z; cases z
      subst this
      cases e2
      obtain ⟨dd, sm⟩ := DLK.n_empty I e1
      exact .inr (nested [] .nil hp ⟨dd, Nat.zero_le _, sm⟩ (fun x hx => nomatch hx) (by rw [e1]; exact True.intro))
  · have hp : k.plain = false := by
      cases es with
      | nil => exact absurd rfl h0
      | cons p es =>
        have z := (h2 p List.mem_cons_self).2
        cases e2 with
        | cons g _ => rw [← z]; exact kt_tup g.1 g.2.2.1
    have kn : ∀ x ∈ xs, DLK.nk0 x.1 = true ∧ (nestedKind X.prog X.w).is s.heap x.1 x.2.1 := by
      intro x hx
      obtain ⟨p, g1, g2, g3, _⟩ := Paired.right e2 x hx
      obtain ⟨m1, m2, m3⟩ := nis_of I g1 g3 (show RelV (.ref x.2.1) (.ref x.2.1) from rfl)
      rw [g2] at m1 m2 m3
      exact ⟨m3, m1, m2⟩
    obtain ⟨z, sm, dd⟩ := DLK.nd_of I.hok e1 (fun x hx => (kn x hx).1) (fun x hx => (kn x hx).2)
    exact .inr (nested xs e2 hp ⟨dd, z, sm⟩ (fun x hx => (kn x hx).1) (by rw [e1]; exact True.intro))
section
variable {a : Addr} {es : List (D × D)} {k d : D} {y : V} {u : Value} {A : Around} {E : Value → Shared → Prop}
theorem dd_isD (I : Inv X pins σ H s) (ok : OOk X.K H a (.dct es)) : s.TypeIs (.ref a) "dict" ∧ (∀ b, Value.ref a = .ref b → ∃ ob, s.heap.get? b = some ob ∧ ob.dict = none) := by
  rcases ok with ⟨kvs, e1, e2⟩ | ⟨h0, xs, e1, e2⟩
  · obtain ⟨h1, h2, _⟩ := isD_at I (.inl ⟨kvs, .inl e1⟩)
    exact ⟨h1, h2⟩
  · obtain ⟨⟨z, hd, o, es, ep, f1, f2, f3, _⟩, _⟩ := (show ObjOk X.prog X.w H s.heap a (DLK.ND a xs) from I.hok a _ e1)
    refine ⟨⟨o, f1, f2.1⟩, fun b q => ?_⟩
    cases q
    exact ⟨o, f1, f2.2.1⟩
theorem dd_get {Q : Value → Shared → Prop} (hu : A.units + 100 < cLine) (I : Inv X pins σ H s) (ok : OOk X.K H a (.dct es)) (hk : DkOk es k) (r : Rep X.K H k y) (ry : RelV y u) (g : dget es k = some d)
    (h : ∀ v w' s', Inv X pins σ H s' → RelV v w' → Rep X.K H d v → Q w' s') : wpAny (model X.prog X.w) A (getItem (.ref a) u) Q E s := by
  rcases dk_split I ok hk r with ⟨kvs, k', e1, pr, hk', rfl⟩ | ⟨xs, b, rfl, h8, pr, dn, mu⟩
  · rcases dget_k hk' pr with ⟨z, _⟩ | ⟨d', v, z1, z2, z3⟩
    · rw [g] at z; cases z
    · rw [g] at z1; cases z1
      have dg : DGet H a (kV k') (some v) := by rw [← z2]; exact DGet.k e1
      exact d_getItem (by omega) I dg ry fun w' s' I' rw' => h v w' s' I' rw' z3
  · cases ry
    rcases dget_n h8 pr with ⟨z, _⟩ | ⟨d', p, v, z1, z2, z3, z4⟩
    · rw [g] at z; cases z
    · rw [g] at z1; cases z1
      exact DLK.n_get (by omega) I dn z2 fun s' I' => h v _ s' I' z3 z4
theorem dd_in {Q : Value → Shared → Prop} (neg : Bool) (hu : A.units + 100 < cLine) (I : Inv X pins σ H s) (ok : OOk X.K H a (.dct es)) (hk : DkOk es k) (r : Rep X.K H k y) (ry : RelV y u)
    (h : ∀ s', Inv X pins σ H s' → Q (.bool (neg != (dget es k).isSome)) s') : wpAny (model X.prog X.w) A (compareOp (if neg then .NotIn else .In) u (.ref a)) Q E s := by
  rcases dk_split I ok hk r with ⟨kvs, k', e1, pr, hk', rfl⟩ | ⟨xs, b, rfl, h8, pr, dn, mu⟩
  · have e : (dget es k).isSome = (valV kvs k').isSome := by
      rcases dget_k hk' pr with ⟨z1, z2⟩ | ⟨d', v, z1, z2, z3⟩ <;> rw [z1, z2] <;> rfl
    rw [e] at h
    cases neg with
    | true => exact d_notIn (by omega) I (DGet.k e1) ry fun s' I' => by simpa using h s' I'
    | false => exact d_in (by omega) I (DGet.k e1) ry fun s' I' => by simpa using h s' I'
  · cases ry
    have e : (dget es k).isSome = (atKey xs k.nk).isSome := by
      rcases dget_n h8 pr with ⟨z1, z2⟩ | ⟨d', p, v, z1, z2, z3, z4⟩ <;> rw [z1, z2] <;> rfl
    rw [e] at h
    cases neg with
    | true => exact DLK.n_notIn (by omega) I dn fun s' I' => by simpa using h s' I'
    | false => exact DLK.n_in (by omega) I dn fun s' I' => by simpa using h s' I'
theorem dd_get2 {z : D} {zv : V} {zu : Value} {Q : Value → Shared → Prop} (hu : A.units + 100 < cLine) (I : Inv X pins σ H s) (ok : OOk X.K H a (.dct es)) (hk : DkOk es k) (r : Rep X.K H k y) (ry : RelV y u) (rz : Rep X.K H z zv) (rzu : RelV zv zu)
    (h : ∀ v w' s', Inv X pins σ H s' → RelV v w' → Rep X.K H ((dget es k).getD z) v → Q w' s') : wpAny (model X.prog X.w) A (call (.builtin "dict.get") [.ref a, u, zu]) Q E s := by
  rcases dk_split I ok hk r with ⟨kvs, k', e1, pr, hk', rfl⟩ | ⟨xs, b, rfl, h8, pr, dn, mu⟩
  · refine d_get2 (by omega) I (DGet.k e1) ry rzu fun w' s' I' rw' => ?_
    rcases dget_k hk' pr with ⟨z1, z2⟩ | ⟨d', v, z1, z2, z3⟩
    · rw [z1] at h; rw [z2] at rw'; exact h zv w' s' I' rw' rz
    · rw [z1] at h; rw [z2] at rw'; exact h v w' s' I' rw' z3
  · cases ry
    refine DLK.n_get2 (by omega) I dn fun s' I' => ?_
    rcases dget_n h8 pr with ⟨z1, z2⟩ | ⟨d', p, v, z1, z2, z3, z4⟩
    · rw [z1] at h; rw [z2]; exact h zv _ s' I' rzu rz
    · rw [z1] at h; rw [z2]; exact h v _ s' I' z3 z4
theorem dd_get1 {Q : Value → Shared → Prop} (hu : A.units + 100 < cLine) (I : Inv X pins σ H s) (ok : OOk X.K H a (.dct es)) (hk : DkOk es k) (r : Rep X.K H k y) (ry : RelV y u)
    (h : ∀ v w' s', Inv X pins σ H s' → RelV v w' → Rep X.K H ((dget es k).getD .non) v → Q w' s') : wpAny (model X.prog X.w) A (call (.builtin "dict.get") [.ref a, u]) Q E s := by
  rcases dk_split I ok hk r with ⟨kvs, k', e1, pr, hk', rfl⟩ | ⟨xs, b, rfl, h8, pr, dn, mu⟩
  · refine d_get1 (by omega) I (DGet.k e1) ry fun w' s' I' rw' => ?_
    rcases dget_k hk' pr with ⟨z1, z2⟩ | ⟨d', v, z1, z2, z3⟩
    · rw [z1] at h; rw [z2] at rw'; exact h .non w' s' I' rw' rfl
    · rw [z1] at h; rw [z2] at rw'; exact h v w' s' I' rw' z3
  · cases ry
    refine DLK.n_get1 (by omega) I dn fun s' I' => ?_
    rcases dget_n h8 pr with ⟨z1, z2⟩ | ⟨d', p, v, z1, z2, z3, z4⟩
    · rw [z1] at h; rw [z2]; exact h .non _ s' I' rfl rfl
    · rw [z1] at h; rw [z2]; exact h v _ s' I' z3 z4
theorem dput_ne {es : List (D × D)} {k v : D} : dput es k v ≠ [] := by
  unfold dput
  split
  · rename_i h
    intro z
    rw [List.map_eq_nil_iff] at z
    subst z
    simp at h
  · simp
theorem dd_set {v : V} {r' : Value} {Q : Unit → Shared → Prop} (hu : A.units + 100 < cLine) (I : Inv X pins σ H s) (ok : OOk X.K H a (.dct es)) (hk : DkOk es k) (r : Rep X.K H k y) (ry : RelV y u) (rd : Rep X.K H d v) (rv : RelV v r') (hl : es.length < sizeLine)
    (h : ∀ ho s', Inv X pins σ (L2.upd H a ho) s' → OOk X.K (L2.upd H a ho) a (.dct (dput es k d)) → Q () s') : wpAny (model X.prog X.w) A (setItem (.ref a) u r') Q E s := by
  have t : ∀ {ho}, Tm X.K H (L2.upd H a ho) := fun {ho} => upd_tm ok.notTup.1 ok.notTup.2.1
  rcases dk_split I ok hk r with ⟨kvs, k', e1, pr, hk', rfl⟩ | ⟨xs, b, rfl, h8, pr, dn, mu⟩
  · have hkl : kvs.length < sizeLine := by rw [← Paired.length pr]; exact hl
    refine d_setItem (by omega) I (DPut.k e1 hkl) ry rv fun s' I' => h _ s' I' (.inl ⟨_, L2.upd_same, ?_⟩)
    exact L2.Paired.mapP (dput_k hk' rd pr) fun p q z => ⟨z.1, z.2.mono t⟩
  · cases ry
    have hkl : xs.length < sizeLine := by rw [← Paired.length pr]; exact hl
    refine DLK.n_set (by omega) I mu dn hkl fun s' I' => h _ s' I' (.inr ⟨dput_ne, _, L2.upd_same, ?_⟩)
    exact L2.Paired.mapP (dput_n h8 r rv rd pr) fun p q ⟨z1, z2, z3, v, z4, z5⟩ => ⟨z1, z2, z3.mono t, v, z4, z5.mono t⟩
end
end
/-! ### the rules -/
section
variable {X : Cx} {RX : RXT} {W : WX} {F : FS}
variable {K : PySem.W.Frag} {σ : L2.St} {H H1 H2 : Hp} {env : Env} {M M1 M2 : Mem} {Q : VK}
theorem je_dnew {pos : Pos} : PE X (.Dict [] [] pos) (liftE X.K RX W (wE F .dnew)) :=
  PE.imp pe_dnewK fun σ H Q ⟨env, M, s, h⟩ => fun p hp => by
    have a : Alc H (L2.upd H p (.dK [])) := Alc.new hp
    have hM : M p = none := s.fresh hp
    refine h p hM (.ref p) _ (fun c o e n no => ?_) ((s.alc a).putO (.inl ⟨[], L2.upd_same, .nil⟩) hM (not_own s hp)) rfl
    have hc : c ≠ p := fun z => by subst z; rw [hp] at e; cases e
    exact ⟨a _ _ e, by rw [upd_other hc]; exact n⟩
theorem je_dget (hF : FMono F) (hu : X.A.units + 100 < cLine) {a b : Expr} {ia ib : IE} {pos : Pos} (ha : PE X a (liftE X.K RX W (wE F ia))) (hb : PE X b (liftE X.K RX W (wE F ib))) (hs : NoSl b) :
    PE X (.Subscript a b pos) (liftE X.K RX W (wE F (.dget ia ib))) := by
  refine ⟨fun pins s σ H Q I ⟨env, M, st, h⟩ => ?_⟩
  refine subD_of PySem.F.slot_dict_getitem.lookup hs (thn (ha.run pins s σ H (fun x H1 => ∃ dx M1, Ext env H M H1 M1 ∧ StE X.K σ H1 env M1 ∧ Rep X.K H1 dx x ∧ wE F ib env M1 (fun y M2 => ∃ a es v, dx = .ref a ∧ M2 a = some (.dct es) ∧ DkOk es y ∧ dget es y = some v ∧ postE X.K σ H env M Q v M2) (postX X.K RX W σ H env M)) I
    ⟨env, M, st, wE_mono hF ia (fun dx M1 q x H1 x1 s1 r1 => ⟨dx, M1, x1, s1, r1, q⟩) (fun _ _ q => q) h⟩) fun u s1 ⟨x, H1, I1, rx, dx, M1, x1, st1, r1, q1⟩ =>
    thn (hb.run pins s1 σ H1 (fun y H2 => ∃ dy M2, Ext env H1 M1 H2 M2 ∧ StE X.K σ H2 env M2 ∧ Rep X.K H2 dy y ∧ ∃ a es v, dx = .ref a ∧ M2 a = some (.dct es) ∧ DkOk es dy ∧ dget es dy = some v ∧ postE X.K σ H env M Q v M2) I1
      ⟨env, M1, st1, wE_mono hF ib (fun dy M2 q y H2 x2 s2 r2 => ⟨dy, M2, x2, s2, r2, q⟩) (fun _ _ q => q.go x1) q1⟩) fun iv s2 ⟨y, H2, I2, ry, dy, M2, x2, st2, r2, a, es, v, e1, e2, hk, g, q⟩ => ?_)
  subst e1
  cases r1; cases rx
  exact ⟨(dd_isD I2 (st2.mem a _ e2)).1, dd_get hu I2 (st2.mem a _ e2) hk r2 ry g fun w w' s' I' rw' rv => ⟨w, H2, I', rw', (q.go (x1.trans x2)).at st2 rv⟩⟩
theorem op_din (neg : Bool) (hu : X.A.units + 100 < cLine) : OpR X (compareOp (if neg then .NotIn else .In)) (fun y x H Q => ∃ dk a es, x = .ref a ∧ OOk X.K H a (.dct es) ∧ DkOk es dk ∧ Rep X.K H dk y ∧ Q (.bl (neg != (dget es dk).isSome)) H) := by
  intro pins s σ H y x u v Q I ry rx h
  obtain ⟨dk, a, es, rfl, ok, hk, r, q⟩ := h
  cases rx
  exact dd_in neg hu I ok hk r ry fun s' I' => ⟨.bl _, H, I', rfl, q⟩
theorem je_din (hF : FMono F) (neg : Bool) (hu : X.A.units + 100 < cLine) {a b : Expr} {ia ib : IE} {pos : Pos} (ha : PE X a (liftE X.K RX W (wE F ia))) (hb : PE X b (liftE X.K RX W (wE F ib))) (hm : behindInMarks (if neg then .NotIn else .In) b = false) :
    PE X (.Compare a [if neg then .NotIn else .In] [b] pos) (liftE X.K RX W (wE F (.din neg ia ib))) :=
  PE.imp (pe_cmpR (op_din neg hu) ha hb hm) fun σ H Q ⟨env, M, s, h⟩ => by
    refine ⟨env, M, s, wE_mono hF ia (fun d M1 q x H1 x1 s1 r1 => ?_) (fun _ _ q => q) h⟩
    refine ⟨env, M1, s1, wE_mono hF ib (fun e M2 q y H2 x2 s2 r2 => ?_) (fun _ _ q => q.go x1) q⟩
    obtain ⟨a, es, rfl, e2, hk, q⟩ := q
    cases r2
    exact ⟨d, a, es, rfl, s2.mem a _ e2, hk, r1.mono (x2.tm s1), (postE.go (x1.trans x2) q).at s2 (d := .bl _) rfl⟩
theorem jt_din (hF : FMono F) (neg : Bool) (hu : X.A.units + 100 < cLine) {a b : Expr} {ia ib : IE} {pos : Pos} (ha : PE X a (liftE X.K RX W (wE F ia))) (hb : PE X b (liftE X.K RX W (wE F ib))) (hm : behindInMarks (if neg then .NotIn else .In) b = false) :
    PT X (.Compare a [if neg then .NotIn else .In] [b] pos) (liftT X.K RX W (wT F (.v (.din neg ia ib)))) :=
  PT.imp (pt_cmpR (op_din neg hu) ha hb hm) fun σ H Q ⟨env, M, s, h⟩ => by
    refine ⟨env, M, s, wE_mono hF ia (fun d M1 q x H1 x1 s1 r1 => ?_) (fun _ _ q => q) h⟩
    refine ⟨env, M1, s1, wE_mono hF ib (fun e M2 q y H2 x2 s2 r2 => ?_) (fun _ _ q => q.go x1) q⟩
    obtain ⟨a, es, rfl, e2, hk, q⟩ := q
    cases r2
    exact ⟨d, a, es, rfl, s2.mem a _ e2, hk, r1.mono (x2.tm s1), _, rfl, q H2 (x1.trans x2) s2⟩
theorem je_dget1 (hF : FMono F) (hu : X.A.units + 100 < cLine) {o e : Expr} {io ie : IE} {ap cp : Pos} (ho : PE X o (liftE X.K RX W (wE F io))) (he : PE X e (liftE X.K RX W (wE F ie))) (m : L2.M1 X o "get" ap e cp) :
    PE X (.Call (.Attribute o "get" ap) [e] [] cp) (liftE X.K RX W (wE F (.dget1 io ie))) := by
  refine ⟨fun pins s σ H Q I ⟨env, M, st, h⟩ => ?_⟩
  refine wpAny_Call_method m.base m.few m.line PySem.F.plainAttrs_dict PySem.F.slot_dict_get PySem.F.type_dict_get (thn (ho.run pins s σ H (fun x H1 => ∃ dx M1, Ext env H M H1 M1 ∧ StE X.K σ H1 env M1 ∧ Rep X.K H1 dx x ∧ ∃ a es0, dx = .ref a ∧ M1 a = some (.dct es0) ∧ wE F ie env M1 (fun y M2 => ∃ es, M2 a = some (.dct es) ∧ DkOk es y ∧ postE X.K σ H env M Q ((dget es y).getD .non) M2) (postX X.K RX W σ H env M)) I
    ⟨env, M, st, wE_mono hF io (fun dx M1 q x H1 x1 s1 r1 => ⟨dx, M1, x1, s1, r1, q⟩) (fun _ _ q => q) h⟩) fun u s1 ⟨x, H1, I1, rx, dx, M1, x1, st1, r1, a, es0, e1, e2, q1⟩ => ?_)
  subst e1
  cases r1; cases rx
  obtain ⟨t1, t2⟩ := dd_isD I1 (st1.mem a _ e2)
  refine ⟨t1, t2, ?_⟩
  rw [m.trees]
  refine Calls.callWith_builtin rfl (Calls.evalArgs_plain (Calls.spliced_cons (thn (he.run pins s1 σ H1 (fun y H2 => ∃ dy M2, Ext env H1 M1 H2 M2 ∧ StE X.K σ H2 env M2 ∧ Rep X.K H2 dy y ∧ ∃ es, M2 a = some (.dct es) ∧ DkOk es dy ∧ postE X.K σ H env M Q ((dget es dy).getD .non) M2) I1
    ⟨env, M1, st1, wE_mono hF ie (fun dy M2 q y H2 x2 s2 r2 => ⟨dy, M2, x2, s2, r2, q⟩) (fun _ _ q => q.go x1) q1⟩) fun iv s2 ⟨y, H2, I2, ry, dy, M2, x2, st2, r2, es, e3, hk, q⟩ => Calls.spliced_nil ?_)))
  exact dd_get1 hu I2 (st2.mem a _ e3) hk r2 ry fun w w' s' I' rw' rv => ⟨w, H2, I', rw', (q.go (x1.trans x2)).at st2 rv⟩
theorem je_dgetd (hF : FMono F) (hu : X.A.units + 100 < cLine) {o e f : Expr} {io ie if' : IE} {ap cp : Pos} (ho : PE X o (liftE X.K RX W (wE F io))) (he : PE X e (liftE X.K RX W (wE F ie))) (hf : PE X f (liftE X.K RX W (wE F if'))) (m : L2.M2 X o "get" ap e f cp) :
    PE X (.Call (.Attribute o "get" ap) [e, f] [] cp) (liftE X.K RX W (wE F (.dgetd io ie if'))) := by
  refine ⟨fun pins s σ H Q I ⟨env, M, st, h⟩ => ?_⟩
  refine wpAny_Call_method m.base m.few m.line PySem.F.plainAttrs_dict PySem.F.slot_dict_get PySem.F.type_dict_get (thn (ho.run pins s σ H (fun x H1 => ∃ dx M1, Ext env H M H1 M1 ∧ StE X.K σ H1 env M1 ∧ Rep X.K H1 dx x ∧ ∃ a es0, dx = .ref a ∧ M1 a = some (.dct es0) ∧ wE F ie env M1 (fun y M2 => wE F if' env M2 (fun z M3 => ∃ es, M3 a = some (.dct es) ∧ DkOk es y ∧ postE X.K σ H env M Q ((dget es y).getD z) M3) (postX X.K RX W σ H env M)) (postX X.K RX W σ H env M)) I
    ⟨env, M, st, wE_mono hF io (fun dx M1 q x H1 x1 s1 r1 => ⟨dx, M1, x1, s1, r1, q⟩) (fun _ _ q => q) h⟩) fun u s1 ⟨x, H1, I1, rx, dx, M1, x1, st1, r1, a, es0, e1, e2, q1⟩ => ?_)
  subst e1
  cases r1; cases rx
  obtain ⟨t1, t2⟩ := dd_isD I1 (st1.mem a _ e2)
  refine ⟨t1, t2, ?_⟩
  rw [m.trees]
  refine Calls.callWith_builtin rfl (Calls.evalArgs_plain (Calls.spliced_cons (thn (he.run pins s1 σ H1 (fun y H2 => ∃ dy M2, Ext env H1 M1 H2 M2 ∧ StE X.K σ H2 env M2 ∧ Rep X.K H2 dy y ∧ wE F if' env M2 (fun z M3 => ∃ es, M3 a = some (.dct es) ∧ DkOk es dy ∧ postE X.K σ H env M Q ((dget es dy).getD z) M3) (postX X.K RX W σ H env M)) I1
    ⟨env, M1, st1, wE_mono hF ie (fun dy M2 q y H2 x2 s2 r2 => ⟨dy, M2, x2, s2, r2, q⟩) (fun _ _ q => q.go x1) q1⟩) fun iv s2 ⟨y, H2, I2, ry, dy, M2, x2, st2, r2, q2⟩ =>
    Calls.spliced_cons (thn (hf.run pins s2 σ H2 (fun z H3 => ∃ dz M3, Ext env H2 M2 H3 M3 ∧ StE X.K σ H3 env M3 ∧ Rep X.K H3 dz z ∧ ∃ es, M3 a = some (.dct es) ∧ DkOk es dy ∧ postE X.K σ H env M Q ((dget es dy).getD dz) M3) I2
    ⟨env, M2, st2, wE_mono hF if' (fun dz M3 q z H3 x3 s3 r3 => ⟨dz, M3, x3, s3, r3, q⟩) (fun _ _ q => q.go (x1.trans x2)) q2⟩) fun fv s3 ⟨z, H3, I3, rz, dz, M3, x3, st3, r3, es, e3, hk, q⟩ => Calls.spliced_nil ?_))))
  exact dd_get2 hu I3 (st3.mem a _ e3) hk (r2.mono (x3.tm st2)) ry r3 rz fun w w' s' I' rw' rv => ⟨w, H3, I', rw', (q.go ((x1.trans x2).trans x3)).at st3 rv⟩
theorem set_dct (hu : X.A.units + 100 < cLine) : PSet X (fun o i v H Q => ∃ a es dk dv, o = .ref a ∧ OOk X.K H a (.dct es) ∧ DkOk es dk ∧ Rep X.K H dk i ∧ Rep X.K H dv v ∧ es.length < sizeLine ∧ ∀ ho, OOk X.K (L2.upd H a ho) a (.dct (dput es dk dv)) → Q (L2.upd H a ho)) := by
  intro pins s σ H o i v ov iv u Q I ro ri rv h
  obtain ⟨a, es, dk, dv, rfl, ok, hk, r1, r2, hl, q⟩ := h
  cases ro
  exact dd_set hu I ok hk r1 ri r2 rv hl fun ho s' I' ok' => ⟨_, I', q ho ok'⟩
theorem bo_memO {B : Hp} {p : Addr} {o o' : MO} {ho : HO} (b : BO B H env M) (e : M p = some o) : BO B (L2.upd H p ho) env (upd M p o') := fun a u ea => by
  obtain ⟨h1, h2, h3⟩ := b a u ea
  have ha : a ≠ p := fun z => by subst z; rw [h2] at e; cases e
  exact ⟨by rw [L2.upd_ne ha]; exact h1, by rw [upd_other ha]; exact h2, h3⟩
theorem js_dset (hF : FMono F) (hu : X.A.units + 100 < cLine) {l k e : Expr} {il ik ie : IE} {sp pos : Pos} (hl : PE X l (liftE X.K RX W (wE F il))) (hk : PE X k (liftE X.K RX W (wE F ik))) (h : PE X e (liftE X.K RX W (wE F ie))) (hns : ∀ lo hi st q, k ≠ .Slice lo hi st q)
    (hs : swapsWithSole [.Subscript l k sp] e pos.line X.env = pure false) (hw : swappedStores [.Subscript l k sp] e X.env = pure none) : PS X (.Assign [.Subscript l k sp] e pos) (liftS X.K RX W (wS F (.dset il ik ie))) :=
  PS.imp (ps_asg h (pg_sub hl hk (set_dct hu) (by intro v; cases k <;> first | rfl | exact absurd rfl (hns _ _ _ _))) hs hw rfl) fun D σ H ⟨env, M, B, s, b, q⟩ => by
    refine exp_go hF s b q fun d M1 v H1 x1 s1 b1 r q => ?_
    refine exp_go hF s1 b1 q fun y M2 u H2 x2 s2 b2 r2 q => ?_
    refine exp_go hF s2 b2 q fun z M3 u3 H3 x3 s3 b3 r3 q => ?_
    obtain ⟨a, es, rfl, e, hk, hsz, q⟩ := q
    cases r2
    refine ⟨a, es, z, d, rfl, s3.mem a _ e, hk, r3, (r.mono (x2.tm s1)).mono (x3.tm s2), hsz, fun ho ok => ?_⟩
    exact q σ _ (s3.writeO e ok) (bo_memO b3 e)
/-- max(l, default=i) -/
def rMaxd (K : PySem.W.Frag) (mn : Bool) : List V → List V → Hp → VK → Prop := fun vs zs H Q => ∃ (p : Addr) (ns : List Int) (i : Int), vs = [.ref p] ∧ zs = [.int i] ∧ SqL K H p (ns.map V.int) ∧ (ns = [] → Q (.int i) H) ∧ ∀ m, m ∈ ns → (∀ y, y ∈ ns → if mn = true then m ≤ y else y ≤ m) → Q (.int m) H
theorem cr_maxd (hu : X.A.units + 100 < cLine) (hc : X.calm = true) : CallRK X (.builtin "max") [Str.ofString "default"] (rMaxd X.K false) := by
  intro pins s σ H vs zs us ws Q I r rz h
  obtain ⟨p, ns, i, rfl, rfl, hs, q0, q⟩ := h
  obtain ⟨its, rv, pl, _⟩ := I.list hs
  rw [Vals.ref1 r]
  cases rz with
  | cons g1 g2 =>
    cases g2
    obtain ⟨t, rfl⟩ := g1
    obtain ⟨as, ra⟩ := reads_ints (h := s.heap) rv
    refine PySem.W.max_list_default (I.ok.hd hc) pl.isList (by simpa using ra) alike_ints (by rw [depth_ints]; omega) (fun e h' tk hk => ?_) fun y ys j v h' tk bs e _ hr hk => ?_
    · have : ns = [] := by simpa using e
      exact ⟨.int _, H, I.kept hk, ⟨_, rfl⟩, q0 this⟩
    · cases ns with
      | nil => simp at e
      | cons n ns =>
        obtain ⟨e1, e2⟩ : PyData.int n = y ∧ ns.map PyData.int = ys := by simpa using e
        subst e1 e2
        rw [PySem.W.maxD_ints] at hr
        obtain ⟨t, rfl⟩ := int_reads hr
        obtain ⟨f1, f2⟩ := fold_max ns n
        exact ⟨.int _, H, I.kept hk, ⟨_, rfl⟩, q _ f1 (by simpa using f2)⟩
theorem je_maxd (hF : FMono F) (hu : X.A.units + 100 < cLine) (hc : X.calm = true) {l : IL} {i : Int} {e : Expr} {p cp kp pos : Pos} {j : Nat} (hg : Gl X "max") (hm : X.mg "max" = none) (h : PE X e (liftL X.K RX W (wL F l))) (hs : starEach [e] X.env = (false, eval e X.env) :: starEach [] X.env) :
    PE X (.Call (.Name "max" p) [e] [⟨some "default", .Constant (.int i) j cp, kp⟩] pos) (liftE X.K RX W (wE F (.maxd false l i))) :=
  PE.imp (pe_callBK (cr_maxd hu hc) hg hm PyProof.Rows.boot_max (pa_cons h pa_nil hs) (pk_cons pe_int pk_nil) (he := by rw [hs]; rfl) (hpl := by rw [hs]; rfl)) fun σ H Q ⟨env, M, s, h⟩ =>
    ⟨env, M, s, wL_mono hF l (fun xs M1 q p us H1 x1 s1 hs r => by
      obtain ⟨ns, rfl, q0, q⟩ := q
      have e := ints_rep r
      subst e
      exact ⟨p, ns, i, rfl, rfl, hs, fun z => (postE.go x1 (q0 z)).at s1 (d := .int _) rfl, fun m a b => (postE.go x1 (q m a b)).at s1 (d := .int _) rfl⟩) (fun _ _ q => q) h⟩
/-- reversed(range(..)) -/
theorem ji_revR (hF : FMono F) {tg a b : Expr} {ia ib : IE} {p p2 pos pos2 : Pos} (hg : Gl X "reversed") (hm : X.mg "reversed" = none) (hg2 : Gl X "range") (hm2 : X.mg "range" = none) (ha : PE X a (liftE X.K RX W (wE F ia))) (hb : PE X b (liftE X.K RX W (wE F ib)))
    (hs : starEach [a, b] X.env = (false, eval a X.env) :: starEach [b] X.env) (hs2 : starEach [b] X.env = (false, eval b X.env) :: starEach [] X.env) (hp : (backTo pos2 (starEach [b] X.env)).any (·.1) = false) :
    PI X tg (.Call (.Name "reversed" p) [.Call (.Name "range" p2) [a, b] [] pos2] [] pos) (liftI X.K RX W (wI F (.revR ia ib))) :=
  PI.imp (pi_revR hg hm (prg_2 hg2 hm2 ha hb hs hs2 hp)) fun σ H R ⟨env, M, s, h⟩ => ⟨env, M, s, wE_mono hF ia (fun d M1 q v H1 x1 s1 r1 =>
    ⟨env, M1, s1, wE_mono hF ib (fun e M2 q u H2 x2 s2 r2 => by
      obtain ⟨i, j, rfl, rfl, hn, q⟩ := q
      cases r1; cases r2
      exact ⟨i, j, rfl, rfl, hn.1, hn.2.1, hn.2.2.1, hn.2.2.2, q _ H2 (x1.trans x2) s2 walk_fnr⟩) (fun _ _ q => q.go x1) q⟩) (fun _ _ q => q) h⟩
theorem ji_revR1 (hF : FMono F) {tg b : Expr} {ib : IE} {p p2 pos pos2 : Pos} (hg : Gl X "reversed") (hm : X.mg "reversed" = none) (hg2 : Gl X "range") (hm2 : X.mg "range" = none) (hb : PE X b (liftE X.K RX W (wE F ib)))
    (hs2 : starEach [b] X.env = (false, eval b X.env) :: starEach [] X.env) :
    PI X tg (.Call (.Name "reversed" p) [.Call (.Name "range" p2) [b] [] pos2] [] pos) (liftI X.K RX W (wI F (.revR (.cst (.int 0)) ib))) :=
  PI.imp (pi_revR hg hm (prg_1 hg2 hm2 hb hs2)) fun σ H R ⟨env, M, s, h⟩ => ⟨env, M, s, wE_mono hF ib (fun e M2 q u H2 x2 s2 r2 => by
      obtain ⟨i, j, e1, rfl, hn, q⟩ := q
      cases e1
      cases r2
      exact ⟨j, rfl, hn.1, hn.2.1, hn.2.2.1, hn.2.2.2, q _ H2 x2 s2 walk_fnr⟩) (fun _ _ q => q) (show wE F ib env M _ _ from h)⟩
/-! ### sorted(d.keys()) -/
/-- a dict's keys, looked at -/
def KVw (r d : Addr) : HO := .ext fun h => PySem.W.KdlKeysView h r d
theorem kvw_mk {P : Program} {w : World} {H : Hp} {h : Heap} {r d : Addr} (v : PySem.W.KdlKeysView h r d) : ObjOk P w H h r (KVw r d) := by
  obtain ⟨o, h1, h2⟩ := v
  exact ⟨⟨o, h1, h2⟩, ⟨o, h1⟩, fun h1 h2 ⟨o, e1, e2⟩ k => ⟨o, k _ e1, e2⟩⟩
theorem pe_keys {td : TE} {e : Expr} {apos cpos : Pos} (he : PE X e td) (hbase : attributeBase e "keys" X.env (eval e X.env) = eval e X.env) (hline : (apos.endLine == cpos.line) = true) :
    PE X (.Call (.Attribute e "keys" apos) [] [] cpos) (fun σ H Q => td σ H fun x H1 => ∃ d kvs, x = .ref d ∧ H1 d = some (.dK kvs) ∧ ∀ r, H1 r = none → Q (.ref r) (L2.upd H1 r (KVw r d))) := by
  refine ⟨fun pins s σ H Q I h => ?_⟩
  refine wpAny_Call_method (T := "dict") (id := "dict.keys") hbase rfl hline PySem.F.plainAttrs_dict PySem.F.slot_dict_keys PySem.F.type_dict_keys (thn (he.run pins s σ H _ I h) fun u s1 ⟨x, H1, I1, rx, d, kvs, ex, hd, q⟩ => ?_)
  subst ex
  obtain rfl : u = Value.ref d := rx
  obtain ⟨z, lo, vs, rel, dd⟩ := dk_of I1.hok hd
  refine ⟨dd.typeIs, dd.mapOf.noDict, ?_⟩
  have hv : PySem.W.KdlKeysView (s1.heap.push { cls := .type "dict_keys", data := .fields #[.ref d] }) s1.heap.objs.size d := ⟨_, Heap.get?_push_size _ rfl, rfl, rfl⟩
  have I2 : Inv X pins σ (L2.upd H1 s1.heap.objs.size (KVw s1.heap.objs.size d)) { s1 with heap := s1.heap.push { cls := .type "dict_keys", data := .fields #[.ref d] } } :=
    I1.laid (t' := s1.toks) (fun b u e => Heap.get?_push_of_some _ e) (Nat.le_refl _) (kvw_mk hv)
  show wpAny _ _ (callWith cpos (.builtin "dict.keys") [.ref d] [] []) _ X.xe s1
  exact method_meetsIn PySem.F.slot_dict_keys PySem.F.entry_dict_keys rfl (PySem.evalArgs_none ⟨rfl, dd.typeIs, PySem.F.args_dict_keys_1 _, _, PySem.W.kdl_meets_keys (mixKind X.prog X.w) d lo, ⟨vs, dd⟩, ⟨.ref s1.heap.objs.size, _, I2, rfl, q _ (I1.hok.fresh (Nat.le_refl _))⟩⟩)
theorem cr_sortK (hcalm : X.calm = true) : CallR X (.builtin "sorted") (fun xs H Q => ∃ (r a : Addr) (kvs : List (Key × V)) (ks : List Int), xs = [.ref r] ∧ H r = some (KVw r a) ∧ H a = some (.dK kvs) ∧ kvs.map (·.1) = ks.map Sum.inl ∧ ks.length < 64 ∧
    ∀ (ys : List Int) (p : Addr), ys.Perm ks → ys.Pairwise (· ≤ ·) → H p = none → Q (.ref p) (L2.upd H p (.lst (ys.map V.int)))) := by
  intro pins s σ H xs us Q I r q
  obtain ⟨r', a, kvs, ks, ex, hr, hd, hks, h64, q⟩ := q
  subst ex
  rw [Vals.ref1 r]
  have hview : PySem.W.KdlKeysView s.heap r' a := by
    obtain ⟨h1, _⟩ := (show ObjOk X.prog X.w H s.heap r' (KVw r' a) from I.hok r' _ hr)
    exact h1
  obtain ⟨z, lo, vs, rel, dd⟩ := dk_of I.hok hd
  obtain ⟨ep, hat⟩ := dd.dictAt
  have hkeys : vs.map (·.1) = ks.map Sum.inl := rel.keys.symm.trans hks
  have hl : vs.length = ks.length := by
    have e := congrArg List.length hkeys
    rw [List.length_map, List.length_map] at e
    exact e
  have h16 : vs.length ≤ sizeLine := by rw [hl, sizeLine_eq]; omega
  refine Calls.call_function_entry PyProof.Rows.kind_sorted PyProof.Rows.plain_sorted PyProof.Rows.entry_sorted (PyProof.Rows.args_sorted1 _) ?_
  unfold Builtin.«sorted»
  refine wpAny_bind (m := checkCount "sorted" 1 1 _) (wpAny_pure ?_)
  refine wpAny_bind (PySem.W.kdu_collect (A := X.A.in1) (PySem.W.kdl_keys (knd := mixKind X.prog X.w) (kvs := vs) (ep := ep)) (I.ok.hd hcalm) ⟨hview, hat⟩ h16 fun h' tk acc hk hacc => ?_)
  have hal : acc.toList.length = ks.length := by rw [Array.length_toList, hacc.1, hl]
  have hS : IntsAre acc.toList ks := ints_each hal fun j v e => by
    obtain ⟨k, x, e1, e2⟩ := hacc.2 j v (by rw [← Array.getElem?_toList]; exact e)
    have e3 : (vs.map (·.1))[j]? = some k := by rw [List.getElem?_map, e1]; rfl
    rw [hkeys, List.getElem?_map] at e3
    cases e4 : ks[j]? with
    | none => rw [e4] at e3; cases e3
    | some y =>
      rw [e4] at e3
      have e5 : Sum.inl y = k := Option.some.inj e3
      subst e5
      rcases keyIs_shape (show keyIs (Sum.inl y) v = true from e2) with ⟨i, t, ek, ev⟩ | ⟨z, t, ek, ev⟩
      · cases ek
        exact ⟨y, t, rfl, ev⟩
      · cases ek
  have I1 : Inv X pins σ H { s with heap := h', toks := tk } := I.kept hk
  refine wpAny_bind (wpAny_newList ?_ (by rw [hal, sizeLine_eq]; omega))
  have hoL : (h'.push (seqObj "list" acc.toList.toArray 0)).get? h'.objs.size = some (seqObj "list" acc.toList.toArray 0) := Heap.get?_push_size _ rfl
  show wpAny _ _ _ _ _ { s with heap := h'.push (seqObj "list" acc.toList.toArray 0), toks := tk }
  refine wpAny_bind (wpAny_holding (wpAny_call_entry PyProof.Rows.slot_list_sort ⟨_, hoL, rfl⟩ PyProof.Rows.entry_list_sort
    (PyProof.Rows.list_sort_tree (s := { s with heap := h'.push (seqObj "list" acc.toList.toArray 0), toks := tk }) hoL hS (by rw [hal]; exact h64) fun out ys g1 g2 g3 => ⟨_, rfl, ?_⟩) (PyProof.Rows.args_list_sort _)))
  obtain ⟨e', he'⟩ := PyProof.Rows.sortedHeap_at (vs := acc.toList) (out := out) hoL
  have hlen : (ys.map V.int).length ≤ sizeLine := by
    rw [List.length_map, g2.length_eq]
    exact Nat.le_trans (Nat.le_of_lt h64) (by decide)
  refine wpAny_pure ⟨_, rfl, .ref h'.objs.size, L2.upd H h'.objs.size (.lst (ys.map V.int)), I1.laid (t' := tk) (fun b u e => ?_) (Nat.le_refl _)
    (show ObjOk X.prog X.w _ _ _ (.lst (ys.map V.int)) from ⟨hlen, out.toList, e', vals_of_ints g1, by rw [Array.toArray_toList]; exact he'⟩), rfl, q ys _ g2 g3 (I1.hok.fresh (Nat.le_refl _))⟩
  have hb : b < h'.objs.size := Heap.lt_size e
  rw [PyProof.Rows.sortedHeap_old (Nat.ne_of_lt hb) (by rw [size_push']; exact Nat.lt_succ_of_lt hb)]
  exact Heap.get?_push_of_some _ e
/-- the keys of a dict of whole numbers -/
theorem dk_ints {a : Addr} {es : List (D × D)} {ns : List Int} (ok : OOk K H a (.dct es)) (h : es.map (·.1) = ns.map D.int) : ∃ kvs : List (Key × V), H a = some (.dK kvs) ∧ kvs.map (·.1) = ns.map Sum.inl := by
  have keys : ∀ {es : List (D × D)} {kvs : List (L2.Key × V)} {ns : List Int}, Paired (fun (p : D × D) (q : L2.Key × V) => p.1.pk = some q.1 ∧ Rep K H p.2 q.2) es kvs → es.map (·.1) = ns.map D.int → kvs.map (·.1) = ns.map Sum.inl := by
    intro es kvs ns r
    induction r generalizing ns with
    | nil => intro h; cases ns with
      | nil => rfl
      | cons n ns => simp at h
    | @cons p q es kvs h1 h2 ih =>
      intro h
      cases ns with
      | nil => simp at h
      | cons n ns =>
        simp only [List.map_cons, List.cons.injEq] at h
        have e := h1.1
        rw [h.1] at e
        have e : q.1 = Sum.inl n := (Option.some.inj e).symm
        rw [List.map_cons, List.map_cons, e, ih h.2]
  rcases ok with ⟨kvs, e1, e2⟩ | ⟨h0, xs, e1, e2⟩
  · exact ⟨kvs, e1, keys e2 h⟩
  · exfalso
    cases es with
    | nil => exact h0 rfl
    | cons p es =>
      cases ns with
      | nil => simp at h
      | cons n ns =>
        simp only [List.map_cons, List.cons.injEq] at h
        cases e2 with
        | cons g _ =>
          have := kt_tup g.1 g.2.2.1
          rw [h.1] at this
          simp [D.plain] at this
theorem je_sortK (hF : FMono F) (hc : X.calm = true) {o : Expr} {io : IE} {p ap cp pos : Pos} (hg : Gl X "sorted") (hm : X.mg "sorted" = none) (ho : PE X o (liftE X.K RX W (wE F io))) (hbase : attributeBase o "keys" X.env (eval o X.env) = eval o X.env) (hline : (ap.endLine == cp.line) = true)
    (hs : starEach [.Call (.Attribute o "keys" ap) [] [] cp] X.env = (false, eval (.Call (.Attribute o "keys" ap) [] [] cp) X.env) :: starEach [] X.env) :
    PE X (.Call (.Name "sorted" p) [.Call (.Attribute o "keys" ap) [] [] cp] [] pos) (liftE X.K RX W (wE F (.sortK io))) :=
  PE.imp (pe_callB (cr_sortK hc) hg hm PyProof.Rows.boot_sorted (pa_cons (pe_keys ho hbase hline) pa_nil hs) (by decide +kernel) (by decide +kernel) hs rfl) fun σ H Q ⟨env, M, s, h⟩ =>
    ⟨env, M, s, wE_mono hF io (fun d M1 q v H1 x1 s1 r1 => by
      obtain ⟨a, es, ns, rfl, e, hk, h64, q⟩ := q
      cases r1
      obtain ⟨kvs, e1, e2⟩ := dk_ints (s1.mem a _ e) hk
      refine ⟨a, kvs, rfl, e1, fun r hr => ?_⟩
      have al : Alc H1 (L2.upd H1 r (KVw r a)) := Alc.new hr
      have hra : a ≠ r := fun z => by subst z; rw [e1] at hr; cases hr
      have s2 := s1.alc al
      refine ⟨r, a, kvs, ns, rfl, L2.upd_same, by rw [L2.upd_ne hra]; exact e1, e2, h64, fun ys t hy1 hy2 ht => ?_⟩
      have hM : M1 t = none := s2.fresh ht
      have al2 : Alc (L2.upd H1 r (KVw r a)) (L2.upd (L2.upd H1 r (KVw r a)) t (.lst (ys.map V.int))) := Alc.new ht
      refine ((q ys hy1 hy2 t hM).go (x1.trans (Ext.alc al))) (.ref t) _ (fun c o e n no => ?_) ((s2.alc al2).put L2.upd_same reps_ints hM fun i q o' e z => ?_) rfl
      · have hc : c ≠ t := fun z => by subst z; rw [ht] at e; cases e
        exact ⟨al2 _ _ e, by rw [upd_other hc]; exact n⟩
      · subst z
        exact not_own s2 ht i _ o' e rfl) (fun _ _ q => q) h⟩
/-! ### list + list, list * int -/
theorem je_cat (hF : FMono F) {a b : Expr} {ia ib : IE} {pos : Pos} (ha : PE X a (liftE X.K RX W (wE F ia))) (hb : PE X b (liftE X.K RX W (wE F ib))) : PE X (.BinOp a .Add b pos) (liftE X.K RX W (wE F (.cat ia ib))) :=
  PE.imp (pe_op op_cat ha hb) fun σ H Q ⟨env, M, s, h⟩ => ⟨env, M, s, wE_mono hF ia (fun dx M1 q x H1 x1 s1 r1 => ⟨env, M1, s1, wE_mono hF ib (fun dy M2 q y H2 x2 s2 r2 => by
    obtain ⟨p, q', xs, ys, rfl, rfl, e1, e2, hl, q⟩ := q
    obtain ⟨vs, h1, h2⟩ := s2.mem _ _ e1
    obtain ⟨us, h3, h4⟩ := s2.mem _ _ e2
    cases r1; cases r2
    refine ⟨p, q', vs, us, rfl, rfl, h1, h3, by rw [← h2.length, ← h4.length]; exact hl, fun t ht => ?_⟩
    have hM : M2 t = none := s2.fresh ht
    have al : Alc H2 (L2.upd H2 t (.lst (vs ++ us))) := Alc.new ht
    refine ((q t hM).go (x1.trans x2)) (.ref t) _ (fun c o e n no => ?_) ((s2.alc al).put L2.upd_same ((Reps.append h2 h4).mono al.tm) hM fun i q o' e z => ?_) rfl
    · have hc : c ≠ t := fun z => by subst z; rw [ht] at e; cases e
      exact ⟨al _ _ e, by rw [upd_other hc]; exact n⟩
    · subst z
      exact not_own s2 ht i _ o' e rfl) (fun _ _ q => q.go x1) q⟩) (fun _ _ q => q) h⟩
theorem je_repL (hF : FMono F) {a b : Expr} {ia ib : IE} {pos : Pos} (ha : PE X a (liftE X.K RX W (wE F ia))) (hb : PE X b (liftE X.K RX W (wE F ib))) : PE X (.BinOp a .Mult b pos) (liftE X.K RX W (wE F (.repL ia ib))) :=
  PE.imp (pe_op op_rep ha hb) fun σ H Q ⟨env, M, s, h⟩ => ⟨env, M, s, wE_mono hF ia (fun dx M1 q x H1 x1 s1 r1 => ⟨env, M1, s1, wE_mono hF ib (fun dy M2 q y H2 x2 s2 r2 => by
    obtain ⟨p, xs, k, rfl, rfl, e1, ⟨k1, k2⟩, hl, q⟩ := q
    obtain ⟨vs, h1, h2⟩ := s2.mem _ _ e1
    cases r1; cases r2
    refine ⟨p, k, vs, rfl, rfl, h1, k1, k2, by rw [← h2.length]; exact hl, fun t ht => ?_⟩
    have hM : M2 t = none := s2.fresh ht
    have al : Alc H2 (L2.upd H2 t (.lst (List.replicate k.toNat vs).flatten)) := Alc.new ht
    refine ((q t hM).go (x1.trans x2)) (.ref t) _ (fun c o e n no => ?_) ((s2.alc al).put L2.upd_same ((reps_flat h2).mono al.tm) hM fun i q o' e z => ?_) rfl
    · have hc : c ≠ t := fun z => by subst z; rw [ht] at e; cases e
      exact ⟨al _ _ e, by rw [upd_other hc]; exact n⟩
    · subst z
      exact not_own s2 ht i _ o' e rfl) (fun _ _ q => q.go x1) q⟩) (fun _ _ q => q) h⟩
end
end DL
/-! The check of a text against the small language, and that it is sound. -/
namespace DL
open PySem PySem.Spec PyProof.Rows L2

/-- what is known of a block's names, of the text's defs and constants -/
structure Cs where
  N : List Str
  names : List (Str × NameKind)
  P : List Fn
  gl : List (String × D)

def sDebug : Str := "__debug__"
def sClassdict : Str := "__classdict__"
def visK : Option NameKind → Bool
  | some .local => true | some .cell => true | some .free => true | _ => false
def locK : Option NameKind → Bool
  | some .local => true | some .cell => true | _ => false
def gblK : Option NameKind → Bool
  | some .globalImplicit => true | _ => false
def notStar : Expr → Bool
  | .Starred .. => false | _ => true
def notSlice : Expr → Bool
  | .Slice .. => false | _ => true
def notSet : Expr → Bool
  | .Set .. => false | _ => true
/-- no comprehension -/
def notComp : Expr → Bool
  | .ListComp .. => false | .SetComp .. => false | .DictComp .. => false | _ => true
def notTup : Expr → Bool
  | .Tuple .. => false | _ => true
/-- what is tested by its value -/
def plainT : Expr → Bool
  | .UnaryOp .. => false | .BoolOp .. => false | .IfExp .. => false | .Compare .. => false | _ => true
/-- no call of super -/
def plainB : Expr → Bool
  | .Call .. => false | _ => true

def Mth.nil : Mth → Bool
  | .pop => true | .reverse => true | _ => false
def few : List Expr → Bool
  | [] => true | [_] => true | _ => false
def IEs.isNil : IEs → Bool
  | .nil => true | _ => false
section
variable (C : Cs)
def nmOk (i : Nat) (x : Str) : Bool := (C.N[i]? == some x) && visK (C.names.lookup x) && !(x == sDebug) && !(x == sClassdict)
def lcOk (i : Nat) (x : Str) : Bool := (C.N[i]? == some x) && locK (C.names.lookup x)
def glOk (s : String) (x : Str) : Bool := (x == (s : Str)) && gblK (C.names.lookup x)
def Blt.nm : Blt → String
  | .len => "len" | .int => "int" | .bool => "bool" | .abs => "abs" | .max => "max" | .min => "min" | .tuple => "tuple" | .isa _ => "isinstance" | .str => "str"
def LK.nm : LK → String
  | .tuple => "tuple" | .all => "all" | .any => "any" | .len => "len" | .sum => "sum" | .max => "max" | .min => "min"
/-- all built-in names that may be used -/
def bltNames : List Str := ["len", "int", "bool", "abs", "max", "min", "tuple", "isinstance", "str", "all", "any", "sum", "list", "range", "zip", "enumerate", "reversed", "sorted", "dict", "repr"].map fun (s : String) => (s : Str)
def ownOf : Tg → Expr → Option (List (Str × Nat))
  | .nm i, .Name x _ => some [(x, i)]
  | .tp is, .Tuple es _ _ => (es.mapM fun (e : Expr) => match e with | .Name x _ => some x | _ => none).bind fun xs => if xs.length == is.length then some (xs.zip is) else none
  | .np i is, .Tuple [.Name y _, .Tuple es _ _] _ _ => (es.mapM fun (e : Expr) => match e with | .Name x _ => some x | _ => none).bind fun xs => if xs.length == is.length then some ((y, i) :: xs.zip is) else none
  | _, _ => none
def chkTs (C : Cs) : List Nat → List Expr → Bool
  | [], [] => true
  | i :: is, .Name x _ :: es => lcOk C i x && chkTs C is es
  | _, _ => false
def chkTg (C : Cs) : Tg → Expr → Bool
  | .nm i, .Name x _ => lcOk C i x
  | .tp is, .Tuple es _ _ => chkTs C is es
  | .np i is, .Tuple [.Name y _, .Tuple es _ _] _ _ => lcOk C i y && chkTs C is es
  | _, _ => false
def BOp.beq (o : BOp) (p : Operator) : Bool := o.py == p
def COp.beq (o : COp) (p : CmpOp) : Bool := o.py == p
mutual
def chkE (C : Cs) : IE → Expr → Bool
  | .var i, e => (match e with | .Name x _ => nmOk C i x | _ => false)
  | .cst d, e => (match d, e with
    | .int i, .Constant (.int j) _ _ => i == j
    | .bl a, .Constant (.bool b) _ _ => a == b
    | .str a, .Constant (.str b) _ _ => a == b
    | .non, .Constant .none _ _ => true
    | _, _ => false)
  | .glb y d, e => (match e with | .Name x _ => glOk C y x && !(x == sDebug) && (match C.gl.lookup y with | some d' => D.beq d d' | none => false) | _ => false)
  | .bin o a b, e => (match e with | .BinOp x p y _ => o.beq p && chkE C a x && chkE C b y | _ => false)
  | .cat a b, e => (match e with | .BinOp x .Add y _ => chkE C a x && chkE C b y | _ => false)
  | .repL a b, e => (match e with | .BinOp x .Mult y _ => chkE C a x && chkE C b y | _ => false)
  | .neg a, e => (match e with | .UnaryOp .USub x _ => chkE C a x | _ => false)
  | .cmp o a b, e => (match e with | .Compare x [p] [y] _ => o.beq p && chkE C a x && chkE C b y && notSet y | _ => false)
  | .chn o o' a b c, e => (match e with | .Compare x [p, p'] [y, z] _ => o.beq p && o'.beq p' && chkE C a x && chkE C b y && chkE C c z && notSet z | _ => false)
  | .and a b, e => (match e with
    | .BoolOp .And [x, y] _ => chkE C a x && chkE C b y
    | .BoolOp .And (x :: y :: z :: r) p => chkE C a x && chkE C b (.BoolOp .And (y :: z :: r) p)
    | _ => false)
  | .or a b, e => (match e with
    | .BoolOp .Or [x, y] _ => chkE C a x && chkE C b y
    | .BoolOp .Or (x :: y :: z :: r) p => chkE C a x && chkE C b (.BoolOp .Or (y :: z :: r) p)
    | _ => false)
  | .not a, e => (match e with | .UnaryOp .Not x _ => chkE C a x | _ => false)
  | .ifx c a b, e => (match e with | .IfExp t x y _ => chkT C c t && chkE C a x && chkE C b y | _ => false)
  | .tup es, e => (match e with | .Tuple xs _ _ => chkEs C es xs | _ => false)
  | .idx a i, e => (match e with | .Subscript x y _ => chkE C a x && chkE C i y && notSlice y | _ => false)
  | .slc a lo hi, e => (match e with | .Subscript x (.Slice l h none _) _ => chkE C a x && chkO C lo l && chkO C hi h | _ => false)
  | .rev a, e => (match e with | .Subscript x (.Slice none none (some (.UnaryOp .USub (.Constant (.int j) _ _) _)) _) _ => j == 1 && chkE C a x | _ => false)
  | .revL a, e => (match e with | .Subscript x (.Slice none none (some (.UnaryOp .USub (.Constant (.int j) _ _) _)) _) _ => j == 1 && chkE C a x | _ => false)
  | .rev0 a, e => (match e with | .Subscript x (.Slice none (some (.Constant (.int i) _ _)) (some (.UnaryOp .USub (.Constant (.int j) _ _) _)) _) _ => i == 0 && j == 1 && chkE C a x | _ => false)
  | .tupRev l, e => (match e with | .Call (.Name f _) [.Call (.Name g _) [x] [] _] [] _ => glOk C "tuple" f && glOk C "reversed" g && chkL C l x && notStar x | _ => false)
  | .sorted l, e => (match e with | .Call (.Name f _) [x] [] _ => glOk C "sorted" f && chkL C l x && notStar x | _ => false)
  | .sortK d, e => (match e with | .Call (.Name f _) [.Call (.Attribute x nm ap) [] [] cp] [] _ => glOk C "sorted" f && (nm == ("keys" : Str)) && chkE C d x && plainB x && (ap.endLine == cp.line) | _ => false)
  | .meth m a es, e => (match e with
    | .Call (.Attribute x nm ap) ys [] cp => (nm == (m.py : Str)) && chkE C a x && plainB x && (ap.endLine == cp.line) && (match ys with
      | [] => m.nil && es.isNil
      | y :: r => !m.nil && chkEs C es (y :: r) && few r)
    | _ => false)
  | .dead, _ => true
  | .blt b es, e => (match e with
    | .Call (.Name f _) xs [] _ => glOk C b.nm f && (match b with
      | .isa t => (match xs with | [x, .Name g _] => chkEs C es [x] && glOk C t.nm g && notStar x | _ => false)
      | _ => chkEs C es xs && !xs.isEmpty)
    | _ => false)
  | .lk k l, e => (match e with | .Call (.Name f _) [x] [] _ => glOk C k.nm f && chkL C l x && notStar x | _ => false)
  | .lidx l i, e => (match e with
    | .Subscript x y _ => (match l, x with
      | .own j, .Name z _ => nmOk C j z && chkE C i y && notSlice y
      | .new n, x => chkN C n x && chkE C i y && notSlice y
      | _, _ => false)
    | _ => false)
  | .linn n a l, e => (match e with | .Compare x [p] [y] _ => (p == if n then .NotIn else .In) && chkE C a x && chkL C l y && notSet y | _ => false)
  | .mk n, e => chkN C n e
  | .maxd mn l i, e => (match e with | .Call (.Name f _) [x] [⟨some k, .Constant (.int j) _ _, _⟩] _ => !mn && glOk C "max" f && chkL C l x && notStar x && (k == ("default" : Str)) && (i == j) | _ => false)
  | .dnew, e => (match e with | .Dict [] [] _ => true | _ => false)
  | .dget a k, e => (match e with | .Subscript x y _ => chkE C a x && chkE C k y && notSlice y | _ => false)
  | .din n k a, e => (match e with | .Compare x [p] [y] _ => (p == if n then .NotIn else .In) && chkE C k x && chkE C a y && notSet y | _ => false)
  | .dgetd a k b, e => (match e with | .Call (.Attribute x nm ap) [y, z] [] cp => (nm == ("get" : Str)) && chkE C a x && plainB x && (ap.endLine == cp.line) && chkE C k y && chkE C b z && notStar y && notStar z | _ => false)
  | .dget1 a k, e => (match e with | .Call (.Attribute x nm ap) [y] [] cp => (nm == ("get" : Str)) && chkE C a x && plainB x && (ap.endLine == cp.line) && chkE C k y && notStar y | _ => false)
  | .call f as, e => (match e with
    | .Call (.Name x _) xs [] _ => (match C.P[f]? with | some fn => glOk C fn.name x | none => false) && !(x == sDebug) && chkAs C as xs
    | _ => false)
def chkEs (C : Cs) : IEs → List Expr → Bool
  | .nil, [] => true
  | .cons e es, x :: xs => chkE C e x && notStar x && chkEs C es xs
  | _, _ => false
def chkT (C : Cs) : IT → Expr → Bool
  | .v e, x => (match e, x with
    | .cmp o a b, .Compare x [p] [y] _ => o.beq p && chkE C a x && chkE C b y && notSet y
    | .chn o o' a b c, .Compare x [p, p'] [y, z] _ => o.beq p && o'.beq p' && chkE C a x && chkE C b y && chkE C c z && notSet z
    | .linn n a l, .Compare x [p] [y] _ => (p == if n then .NotIn else .In) && chkE C a x && chkL C l y && notSet y
    | .din n k a, .Compare x [p] [y] _ => (p == if n then .NotIn else .In) && chkE C k x && chkE C a y && notSet y
    | e, x => chkE C e x && plainT x)
  | .not a, x => (match x with | .UnaryOp .Not y _ => chkT C a y | _ => false)
  | .and a b, e => (match e with
    | .BoolOp .And [x, y] _ => chkT C a x && chkT C b y
    | .BoolOp .And (x :: y :: z :: r) p => chkT C a x && chkT C b (.BoolOp .And (y :: z :: r) p)
    | _ => false)
  | .or a b, e => (match e with
    | .BoolOp .Or [x, y] _ => chkT C a x && chkT C b y
    | .BoolOp .Or (x :: y :: z :: r) p => chkT C a x && chkT C b (.BoolOp .Or (y :: z :: r) p)
    | _ => false)
def chkO (C : Cs) : IO → Option Expr → Bool
  | .no, none => true
  | .at e, some x => chkE C e x
  | _, _ => false
def chkAs (C : Cs) : IAs → List Expr → Bool
  | .nil, [] => true
  | .cons e as, x :: xs => chkE C e x && notStar x && chkAs C as xs
  | .tmp n as, x :: xs => chkN C n x && notStar x && chkAs C as xs
  | .lend i as, .Name x _ :: xs => nmOk C i x && chkAs C as xs
  | _, _ => false
def chkL (C : Cs) : IL → Expr → Bool
  | .new n, x => chkN C n x
  | .own i, x => (match x with | .Name y _ => nmOk C i y | _ => false)
  | .ref e, x => chkE C e x
def chkN (C : Cs) : IN → Expr → Bool
  | .disp es, e => (match e with | .List xs _ => chkEs C es xs | _ => false)
  | .comp ie t it io, e => (match e with
    | .ListComp elt [⟨tg, iter, ifs, a⟩] scope _ => a == 0 && chkI C it tg iter && notSet iter && (match ownOf t tg with
        | some own => blkC C.N { scope with names := C.names } scope own
        | none => false) &&
      chkTg { C with names := scope.names } t tg && chkE { C with names := scope.names } ie elt && chkIf { C with names := scope.names } io ifs
    | _ => false)
  | .comp2 ie t it t1 it1 io, e => (match e with
    | .ListComp elt [⟨tg, iter, ifs, a⟩, ⟨tg1, iter1, ifs1, a1⟩] scope _ => a == 0 && a1 == 0 && ifs.isEmpty && chkI C it tg iter && notSet iter && notSet iter1 && (match ownOf t tg, ownOf t1 tg1 with
        | some own, some own1 => blkC C.N { scope with names := C.names } scope (own ++ own1)
        | _, _ => false) &&
      chkTg { C with names := scope.names } t tg && chkTg { C with names := scope.names } t1 tg1 && chkI { C with names := scope.names } it1 tg1 iter1 && chkE { C with names := scope.names } ie elt && chkIf { C with names := scope.names } io ifs1
    | _ => false)
  | .copy l, e => (match e with | .Call (.Name f _) [x] [] _ => glOk C "list" f && chkL C l x && notStar x | _ => false)
  | .copyT a, e => (match e with | .Call (.Name f _) [x] [] _ => glOk C "list" f && chkE C a x && notStar x | _ => false)
  | .slc _ _ _, _ => false
def chkI (C : Cs) : II → Expr → Expr → Bool
  | .dyn a, _, e => chkE C a e
  | .new n, _, e => chkN C n e
  | .own i, _, e => (match e with | .Name y _ => nmOk C i y | _ => false)
  | .range a, _, e => (match e with | .Call (.Name f _) [x] [] _ => glOk C "range" f && chkE C a x && notStar x | _ => false)
  | .range2 a b, _, e => (match e with | .Call (.Name f _) [x, y] [] _ => glOk C "range" f && chkE C a x && chkE C b y && notStar x && notStar y | _ => false)
  | .zip a b, tg, e => (match tg, e with | .Tuple .., .Call (.Name f _) [x, y] [] _ => glOk C "zip" f && chkE C a x && chkE C b y && notStar x && notStar y | _, _ => false)
  | .enum a, tg, e => (match tg, e with | .Tuple .., .Call (.Name f _) [x] [] _ => glOk C "enumerate" f && chkE C a x && notStar x | _, _ => false)
  | .rev a, _, e => (match e with | .Call (.Name f _) [x] [] _ => glOk C "reversed" f && chkE C a x && notStar x | _ => false)
  | .revR a b, _, e => (match e with
    | .Call (.Name f _) [.Call (.Name g _) [x, y] [] _] [] _ => glOk C "reversed" f && glOk C "range" g && chkE C a x && chkE C b y && notStar x && notStar y
    | .Call (.Name f _) [.Call (.Name g _) [y] [] _] [] _ => glOk C "reversed" f && glOk C "range" g && (match a with | .cst (.int i) => i == 0 | _ => false) && chkE C b y && notStar y
    | _ => false)
def chkIf (C : Cs) : Option IT → List Expr → Bool
  | none, [] => true
  | some t, [x] => chkT C t x
  | _, _ => false
end
end

/-! ### what the check means -/
structure CxOk (X : Cx) (C : Cs) (F : FS) (RX : RXT) (W : WX) (k : Nat) : Prop where
  N : X.N = C.N
  nd : X.N.Nodup
  loc : ∀ x, C.names.lookup x = some .local → X.env.scope.names.lookup x = some .local
  cel : ∀ x, C.names.lookup x = some .cell → X.env.scope.names.lookup x = some .cell ∧ X.fn x = true
  fre : ∀ x, C.names.lookup x = some .free → X.env.scope.names.lookup x = some .cell ∨ X.env.scope.names.lookup x = some .free
  glo : ∀ x, C.names.lookup x = some .globalImplicit → X.env.scope.names.lookup x = some .globalImplicit
  calm : X.calm = true
  room : Room k X.A
  mono : FMono F
  tk : Takes X W
  cal : ∀ f fn, C.P[f]? = some fn → Callee X RX k fn.name (F f)
  blt : ∀ x, x ∈ bltNames → X.mg x = none
  gl : ∀ x d, C.gl.lookup x = some d → ∃ v u, X.mg x = some u ∧ RelV v u ∧ ∀ H, Rep X.K H d v
section
variable {X : Cx} {C : Cs} {F : FS} {RX : RXT} {W : WX} {k : Nat}
theorem CxOk.hu (o : CxOk X C F RX W k) : X.A.units + 100 < cLine := by have := o.room.un; omega
theorem nm_of (o : CxOk X C F RX W k) {i : Nat} {x : Str} (h : nmOk C i x = true) : X.N[i]? = some x ∧ Vis X.env.scope x ∧ (x == ("__debug__" : Str)) = false ∧ (x == ("__classdict__" : Str)) = false := by
  unfold nmOk at h
  simp only [Bool.and_eq_true, Bool.not_eq_true', beq_iff_eq] at h
  obtain ⟨⟨⟨h1, h2⟩, h3⟩, h4⟩ := h
  refine ⟨by rw [o.N]; exact h1, ?_, h3, h4⟩
  unfold visK at h2
  split at h2
  · rename_i e; exact .inl (o.loc x e)
  · rename_i e; exact .inr (.inl (o.cel x e).1)
  · rename_i e
    rcases o.fre x e with z | z
    · exact .inr (.inl z)
    · exact .inr (.inr z)
  · cases h2
theorem lc_of (o : CxOk X C F RX W k) {i : Nat} {x : Str} (h : lcOk C i x = true) : X.N[i]? = some x ∧ Loc X.env.scope x ∧ (X.fn x = true ∨ X.env.scope.names.lookup x = some .local) := by
  unfold lcOk at h
  simp only [Bool.and_eq_true, beq_iff_eq] at h
  obtain ⟨h1, h2⟩ := h
  refine ⟨by rw [o.N]; exact h1, ?_⟩
  unfold locK at h2
  split at h2
  · rename_i e; exact ⟨.inl (o.loc x e), .inr (o.loc x e)⟩
  · rename_i e; exact ⟨.inr (o.cel x e).1, .inl (o.cel x e).2⟩
  · cases h2
theorem gl_of (o : CxOk X C F RX W k) {s : String} {x : Str} (h : glOk C s x = true) : x = (s : Str) ∧ Gl X x := by
  unfold glOk at h
  simp only [Bool.and_eq_true, beq_iff_eq] at h
  refine ⟨h.1, ?_⟩
  have h2 := h.2
  unfold gblK at h2
  split at h2
  · rename_i e; exact o.glo x e
  · cases h2
theorem star1 {e : Expr} {es : List Expr} {env : PySem.Env} (h : notStar e = true) : starEach (e :: es) env = (false, eval e env) :: starEach es env := by
  cases e <;> first | rfl | cases h
theorem slice_no {e : Expr} (h : notSlice e = true) : ∀ lo hi st p, e ≠ .Slice lo hi st p := by
  intro lo hi st p z; subst z; cases h
theorem set_no {e : Expr} (h : notSet e = true) (op : CmpOp) : behindInMarks op e = false := by
  cases e <;> first | rfl | cases h
theorem set_last {b c : Expr} (h : notSet c = true) (op op' : CmpOp) : lastMarks [op, op'] [b, c] = false := by
  show behindInMarks op' c = false
  exact set_no h op'
theorem set_fold {e : Expr} (h : notSet e = true) {env : PySem.Env} : ∀ x, foldedSetIterable e env x = pure x := by
  intro x; cases e <;> first | rfl | cases h
theorem plain_t {e : Expr} (h : plainT e = true) {env : PySem.Env} : ∀ whole, isTrue e env whole = (do let v ← whole; standAt e.pos; holding [v] (truthy v)) := by
  intro w; cases e <;> first | rfl | cases h
theorem bop_eq {o : BOp} {p : Operator} (h : o.beq p = true) : p = o.py := by
  unfold BOp.beq at h
  exact (beq_iff_eq.mp h).symm
theorem cop_eq {o : COp} {p : CmpOp} (h : o.beq p = true) : p = o.py := by
  unfold COp.beq at h
  exact (beq_iff_eq.mp h).symm
theorem and2 {a b : Bool} (h : (a && b) = true) : a = true ∧ b = true := by simpa using h
end
end DL
set_option maxHeartbeats 2000000
/-! The check is sound: expressions. -/
namespace DL
open PySem PySem.Spec PyProof.Rows L2

section
variable {X : Cx} {C : Cs} {F : FS} {RX : RXT} {W : WX} {k : Nat}
/-! ### targets and blocks -/
def gOf (K : PySem.W.Frag) : Tg → TG
  | .nm i => gName i
  | .tp is => gTup K is.length (gNames is)
  | .np i is => gTup K 2 (gCons (gName i) (gCons (gTup K is.length (gNames is)) gNil))
theorem gs_of (o : CxOk X C F RX W k) : ∀ {is : List Nat} {es : List Expr}, chkTs C is es = true → PGs X es (gNames is) ∧ (assignEach es X.env).length = is.length ∧ (assignEach es X.env).findIdx? (·.1) = none
  | [], [], _ => ⟨pgs_nil, rfl, rfl⟩
  | [], _ :: _, h => by cases h
  | i :: is, [], h => by cases h
  | i :: is, e :: es, h => by
    cases e with
    | Name x p =>
      obtain ⟨h1, h2⟩ := and2 (show (lcOk C i x && chkTs C is es) = true from h)
      obtain ⟨g1, g2, g3⟩ := gs_of o h2
      obtain ⟨l1, l2, l3⟩ := lc_of o h1
      refine ⟨pgs_cons (pg_name o.nd l1 l2 l3) g1 rfl, ?_, ?_⟩
      · show (assignEach es X.env).length + 1 = _
        rw [g2]; rfl
      · show List.findIdx? (·.1) ((false, assign (.Name x p) X.env) :: assignEach es X.env) = none
        rw [List.findIdx?_cons, g3]; rfl
    | _ => cases h
theorem g_of (o : CxOk X C F RX W k) : ∀ {t : Tg} {tg : Expr}, chkTg C t tg = true → GOk X t tg (gOf X.K t)
  | .nm i, tg, h => by
    cases tg with
    | Name x p =>
      obtain ⟨l1, l2, l3⟩ := lc_of o (show lcOk C i x = true from h)
      exact g_nm o.nd l1 l2 l3
    | _ => cases h
  | .tp is, tg, h => by
    cases tg with
    | Tuple es kk p =>
      obtain ⟨g1, g2, g3⟩ := gs_of o (show chkTs C is es = true from h)
      exact g_tp o.calm g1 g2 g3
    | _ => cases h
  | .np i is, tg, h => by
    unfold chkTg at h
    split at h
    · rename_i e; cases e
    · rename_i e; cases e
    · rename_i i' is' y py es k2 p2 k1 p1 e1
      cases e1
      obtain ⟨h1, h2⟩ := and2 h
      obtain ⟨l1, l2, l3⟩ := lc_of o h1
      obtain ⟨g1, g2, g3⟩ := gs_of o h2
      exact g_np o.calm (pg_name o.nd l1 l2 l3) g1 g2 g3
    · cases h
theorem names_of {es : List Expr} {xs : List Str} (h : (es.mapM fun (e : Expr) => match e with | .Name x _ => some x | _ => none) = some xs) : True := trivial
theorem own_slots : ∀ {t : Tg} {tg : Expr} {own : List (Str × Nat)}, ownOf t tg = some own → own.map (·.2) = t.slots
  | .nm i, tg, own, h => by
    cases tg with
    | Name x p => cases h; rfl
    | _ => cases h
  | .tp is, tg, own, h => by
    cases tg with
    | Tuple es kk p =>
      unfold ownOf at h
      simp only [Option.bind_eq_some_iff] at h
      obtain ⟨xs, _, h⟩ := h
      split at h
      · rename_i hl
        cases h
        rw [List.map_snd_zip]; rfl
        have : xs.length = is.length := by simpa using hl
        omega
      · cases h
    | _ => cases h
  | .np i is, tg, own, h => by
    unfold ownOf at h
    split at h
    · rename_i e; cases e
    · rename_i e; cases e
    · rename_i i' is' y py es k2 p2 k1 p1 e1
      cases e1
      simp only [Option.bind_eq_some_iff] at h
      obtain ⟨xs, _, h⟩ := h
      split at h
      · rename_i hl
        cases h
        rw [List.map_cons, List.map_snd_zip]; rfl
        have : xs.length = is.length := by simpa using hl
        omega
      · cases h
    · cases h
theorem rel_free {sc : Scope} : ∀ {names : List (Str × NameKind)} {x : Str}, names.lookup x = some .free →
    (names.map fun (n, k) => if (k == NameKind.free && sc.kind == .function && sc.names.lookup n == some .cell) then (n, NameKind.cell) else (n, k)).lookup x = some .cell ∨
    (names.map fun (n, k) => if (k == NameKind.free && sc.kind == .function && sc.names.lookup n == some .cell) then (n, NameKind.cell) else (n, k)).lookup x = some .free
  | [], x, h => by simp at h
  | (n, kd) :: r, x, h => by
    rw [List.lookup_cons] at h
    rw [List.map_cons]
    by_cases hx : (x == n) = true
    · rw [hx] at h
      simp only [Option.some.injEq] at h
      subst h
      have hx' : x = n := by simpa using hx
      subst hx'
      by_cases hc : (NameKind.free == NameKind.free && sc.kind == .function && sc.names.lookup x == some .cell) = true
      · left; simp only [hc, if_true]; rw [List.lookup_cons]; simp
      · right; simp only [hc]; rw [List.lookup_cons]; simp
    · have hx' : (x == n) = false := by simpa using hx
      rw [hx'] at h
      have ih := rel_free (sc := sc) (names := r) h
      have e1 : (if (kd == NameKind.free && sc.kind == .function && sc.names.lookup n == some .cell) = true then (n, NameKind.cell) else (n, kd)).1 = n := by split <;> rfl
      rw [List.lookup_cons, e1, hx']
      exact ih
theorem CxOk.blk (o : CxOk X C F RX W k) {scope : Scope} (s : Shared) (H : Hp) (Ca : Addr) (cl : List (Str × Addr)) (fp : List Addr) :
    CxOk (X.blk s H scope (compEnvC scope cl Ca X.env) fp) { C with names := scope.names } F RX W0 k where
  N := o.N
  nd := o.nd
  loc := fun x h => lookup_relS_keep (sc := X.env.scope) (by decide) h
  cel := fun x h => ⟨lookup_relS_keep (sc := X.env.scope) (by decide) h, by show (scope.names.lookup x == some .cell) = true; rw [show scope.names.lookup x = some .cell from h]; rfl⟩
  fre := fun x h => rel_free (sc := X.env.scope) h
  glo := fun x h => lookup_relS_keep (sc := X.env.scope) (by decide) h
  calm := o.calm
  room := o.room
  mono := o.mono
  tk := takes0
  cal := fun f fn h => o.cal f fn h
  blt := o.blt
  gl := o.gl
theorem blk_of (o : CxOk X C F RX W k) {scope : Scope} {own : List (Str × Nat)} (h : blkC C.N { scope with names := C.names } scope own = true) : BlkOk X.N X.env.scope scope own := by
  have b := blkOk_by h
  refine ⟨b.kind, b.uniq, fun p hp => by rw [o.N]; exact b.ix p hp, fun y hy hf => ?_, fun y hy hl => by rw [o.N]; exact b.own y hy hl⟩
  rcases b.free y hy hf with z | z
  · exact .inl (o.cel _ z).1
  · exact o.fre _ z
/-! ### built-ins -/
theorem boot_of : (∀ b : Blt, bootBuiltins (b.nm : Str) = some b.fn) ∧ (∀ l : LK, bootBuiltins (l.nm : Str) = some l.fn) ∧ (∀ t : Ty, bootBuiltins (t.nm : Str) = some (.type t.nm)) := by
  refine ⟨fun b => ?_, fun l => ?_, fun t => ?_⟩
  · cases b <;> first | decide +kernel | (rename_i t; cases t <;> decide +kernel)
  · cases l <;> decide +kernel
  · cases t <;> decide +kernel
theorem nm_facts : (∀ b : Blt, (b.nm : Str) ∈ bltNames ∧ (b.nm : Str) ≠ "__name__" ∧ ((b.nm : Str) == ("__debug__" : Str)) = false) ∧ (∀ b : LK, (b.nm : Str) ∈ bltNames ∧ (b.nm : Str) ≠ "__name__" ∧ ((b.nm : Str) == ("__debug__" : Str)) = false) ∧
    (∀ b : Ty, (b.nm : Str) ∈ bltNames ∧ (b.nm : Str) ≠ "__name__" ∧ ((b.nm : Str) == ("__debug__" : Str)) = false) := by
  refine ⟨fun b => ?_, fun l => ?_, fun t => ?_⟩
  · cases b <;> first | decide +kernel | (rename_i t; cases t <;> decide +kernel)
  · cases l <;> decide +kernel
  · cases t <;> decide +kernel
theorem blt_call {b : Blt} (hb : ∀ t, b ≠ .isa t) (o : CxOk X C F RX W k) {f : Str} {p pos : Pos} {e : Expr} {es : List Expr} {ies : IEs} (hg : glOk C b.nm f = true) (ha : PA X (e :: es) (liftA X.K RX W (wEs F ies)))
    (he : starEach (e :: es) X.env = (false, eval e X.env) :: starEach es X.env) (hpl : (backTo pos (starEach es X.env)).any (·.1) = false) : PE X (.Call (.Name f p) (e :: es) [] pos) (liftE X.K RX W (wE F (.blt b ies))) := by
  obtain ⟨rfl, g⟩ := gl_of o hg
  obtain ⟨n1, n2, n3⟩ := nm_facts.1 b
  have hc := call_blt (X := X) o.hu o.calm b hb
  have hbt := boot_of.1 b
  have hm := o.blt _ n1
  have fin : ∀ {t : TE} {e : Expr}, PE X e t → (∀ σ H Q, liftA X.K RX W (wEs F ies) σ H (fun vs H1 => rBlt X.K b vs H1 Q) → t σ H Q) → PE X e (liftE X.K RX W (wE F (.blt b ies))) := fun h ht => je_blt o.mono b h ht
  cases b with
  | isa t => exact absurd rfl (hb t)
  | int => exact fin (pe_callTy hc g hm hbt ha n2 n3 he hpl) fun _ _ _ h => h
  | bool => exact fin (pe_callTy hc g hm hbt ha n2 n3 he hpl) fun _ _ _ h => h
  | tuple => exact fin (pe_callTy hc g hm hbt ha n2 n3 he hpl) fun _ _ _ h => h
  | str => exact fin (pe_callTy hc g hm hbt ha n2 n3 he hpl) fun _ _ _ h => h
  | len => exact fin (pe_callB hc g hm hbt ha n2 n3 he hpl) fun _ _ _ h => h
  | abs => exact fin (pe_callB hc g hm hbt ha n2 n3 he hpl) fun _ _ _ h => h
  | max => exact fin (pe_callB hc g hm hbt ha n2 n3 he hpl) fun _ _ _ h => h
  | min => exact fin (pe_callB hc g hm hbt ha n2 n3 he hpl) fun _ _ _ h => h
theorem isa_call {t : Ty} (o : CxOk X C F RX W k) {f g : Str} {p p2 pos : Pos} {e : Expr} {ie : IE} (hg : glOk C "isinstance" f = true) (hg2 : glOk C t.nm g = true) (ha : PE X e (liftE X.K RX W (wE F ie))) (hs : notStar e = true) :
    PE X (.Call (.Name f p) [e, .Name g p2] [] pos) (liftE X.K RX W (wE F (.blt (.isa t) (.cons ie .nil)))) := by
  obtain ⟨rfl, g1⟩ := gl_of o hg
  obtain ⟨rfl, g2⟩ := gl_of o hg2
  obtain ⟨n1, n2, n3⟩ := nm_facts.2.2 t
  have hm2 := o.blt _ n1
  obtain ⟨m1, m2, m3⟩ := nm_facts.1 (.isa t)
  have hm := o.blt _ m1
  have h2 : PE X (.Name (t.nm : Str) p2) (tC (.ty t.nm)) := pe_bltn g2 hm2 (boot_of.2.2 t) rfl n2 n3
  refine PE.imp (pe_callB (call_isinst t) g1 hm (boot_of.1 (.isa t)) (pa_cons ha (pa_cons h2 pa_nil rfl) (star1 hs)) m2 m3 (star1 hs) rfl) fun σ H Q ⟨env, M, s, h⟩ => ?_
  refine ⟨env, M, s, wE_mono o.mono ie (fun d M1 q v H1 x1 s1 r1 => ?_) (fun _ _ q => q) h⟩
  exact ⟨v, d, M1, rfl, s1.mem, r1, wBlt_mono (fun z q u r => (q.go x1).at s1 r) q⟩
theorem lk_call {l : LK} (o : CxOk X C F RX W k) {f : Str} {p pos : Pos} {e : Expr} {il : IL} (hg : glOk C l.nm f = true) (ha : PE X e (liftL X.K RX W (wL F il))) (hs : notStar e = true) :
    PE X (.Call (.Name f p) [e] [] pos) (liftE X.K RX W (wE F (.lk l il))) := by
  obtain ⟨rfl, g⟩ := gl_of o hg
  obtain ⟨n1, n2, n3⟩ := nm_facts.2.1 l
  have hc := call_lk (X := X) o.calm l
  have hbt := boot_of.2.1 l
  have hm := o.blt _ n1
  have hp := pa_cons ha pa_nil (star1 (env := X.env) hs)
  have he := star1 (es := []) (env := X.env) hs
  have fin : ∀ {t : TE}, PE X (.Call (.Name (l.nm : Str) p) [e] [] pos) t → (∀ σ H Q, (liftL X.K RX W (wL F il) σ H fun x H1 => rLK X.K l [x] H1 Q) → t σ H Q) → PE X (.Call (.Name (l.nm : Str) p) [e] [] pos) (liftE X.K RX W (wE F (.lk l il))) := fun h ht => je_lk (e' := e) o.mono l h ht
  cases l with
  | tuple => exact fin (pe_callTy hc g hm hbt hp n2 n3 he rfl) fun _ _ _ h => h
  | all => exact fin (pe_callB hc g hm hbt hp n2 n3 he rfl) fun _ _ _ h => h
  | any => exact fin (pe_callB hc g hm hbt hp n2 n3 he rfl) fun _ _ _ h => h
  | len => exact fin (pe_callB hc g hm hbt hp n2 n3 he rfl) fun _ _ _ h => h
  | sum => exact fin (pe_callB hc g hm hbt hp n2 n3 he rfl) fun _ _ _ h => h
  | max => exact fin (pe_callB hc g hm hbt hp n2 n3 he rfl) fun _ _ _ h => h
  | min => exact fin (pe_callB hc g hm hbt hp n2 n3 he rfl) fun _ _ _ h => h
theorem srt_call (o : CxOk X C F RX W k) {f : Str} {p pos : Pos} {e : Expr} {il : IL} (hg : glOk C "sorted" f = true) (ha : PE X e (liftL X.K RX W (wL F il))) (hs : notStar e = true) :
    PE X (.Call (.Name f p) [e] [] pos) (liftE X.K RX W (wE F (.sorted il))) := by
  obtain ⟨rfl, g⟩ := gl_of o hg
  have hm := o.blt _ (show ("sorted" : Str) ∈ bltNames by decide +kernel)
  have hp := pa_cons ha pa_nil (star1 (env := X.env) hs)
  have he := star1 (es := []) (env := X.env) hs
  exact je_sorted o.mono (pe_callB (call_srt (X := X)) g hm PyProof.Rows.boot_sorted hp (by decide +kernel) (by decide +kernel) he rfl) fun _ _ _ h => h
theorem stars_es : ∀ {es : IEs} {xs : List Expr}, chkEs C es xs = true → xs.all notStar = true
  | .nil, [], _ => rfl
  | .nil, _ :: _, h => by simp [chkEs] at h
  | .cons _ _, [], h => by simp [chkEs] at h
  | .cons e es, x :: xs, h => by
    simp only [chkEs, Bool.and_eq_true] at h
    rw [List.all_cons, h.1.2, stars_es h.2]; rfl
theorem stars_as : ∀ {es : IAs} {xs : List Expr}, chkAs C es xs = true → xs.all notStar = true
  | .nil, [], _ => rfl
  | .nil, _ :: _, h => by simp [chkAs] at h
  | .cons _ _, [], h => by simp [chkAs] at h
  | .tmp _ _, [], h => by simp [chkAs] at h
  | .lend _ _, [], h => by simp [chkAs] at h
  | .cons e es, x :: xs, h => by
    simp only [chkAs, Bool.and_eq_true] at h
    rw [List.all_cons, h.1.2, stars_as h.2]; rfl
  | .tmp e es, x :: xs, h => by
    simp only [chkAs, Bool.and_eq_true] at h
    rw [List.all_cons, h.1.2, stars_as h.2]; rfl
  | .lend i es, x :: xs, h => by
    cases x <;> simp only [chkAs, Bool.and_eq_true] at h <;> first | cases h; done | skip
    rw [List.all_cons, stars_as h.2]; rfl
theorem stars_any {env : PySem.Env} {pos : Pos} : ∀ {xs : List Expr}, xs.all notStar = true → (backTo pos (starEach xs env)).any (·.1) = false
  | [], _ => rfl
  | x :: xs, h => by
    have h' : notStar x = true ∧ xs.all notStar = true := by simpa using h
    rw [star1 h'.1]
    have ih := stars_any (env := env) (pos := pos) h'.2
    show ((backTo pos [(false, eval x env)]).any (·.1) || (backTo pos (starEach xs env)).any (·.1)) = false
    rw [ih]; rfl
end
/-! ### the theorem -/
section
variable {F : FS} {RX : RXT} {k : Nat}
mutual
theorem sE : ∀ (ie : IE) {X : Cx} {C : Cs} {W : WX} {e : Expr}, CxOk X C F RX W k → chkE C ie e = true → PE X e (liftE X.K RX W (wE F ie))
  | .var i, X, C, W, e, o, h => by
    unfold chkE at h
    split at h
    · obtain ⟨h1, h2, h3, h4⟩ := nm_of o h
      exact je_var h1 h2 h3 h4
    · cases h
  | .cst d, X, C, W, e, o, h => by
    unfold chkE at h
    split at h
    · rw [beq_iff_eq.mp h]; exact je_int
    · rw [beq_iff_eq.mp h]; exact je_bl
    · rw [beq_iff_eq.mp h]; exact je_str
    · exact je_non
    · cases h
  | .glb y d, X, C, W, e, o, h => by
    unfold chkE at h
    split at h
    · obtain ⟨h1, h3⟩ := and2 h
      obtain ⟨h1, h2⟩ := and2 h1
      obtain ⟨rfl, g⟩ := gl_of o h1
      split at h3
      · rename_i d' e
        rw [D.beq_eq h3]
        obtain ⟨v, u, g1, g2, g3⟩ := o.gl y d' e
        exact je_glb g g1 g2 g3 (by simpa [sDebug] using h2)
      · cases h3
    · cases h
  | .bin op a b, X, C, W, e, o, h => by
    unfold chkE at h
    split at h
    · obtain ⟨h1, h3⟩ := and2 h
      obtain ⟨h1, h2⟩ := and2 h1
      rw [bop_eq h1]
      exact je_bin o.mono (sE a o h2) (sE b o h3)
    · cases h
  | .cat a b, X, C, W, e, o, h => by
    unfold chkE at h
    split at h
    · obtain ⟨h2, h3⟩ := and2 h
      exact je_cat o.mono (sE a o h2) (sE b o h3)
    · cases h
  | .repL a b, X, C, W, e, o, h => by
    unfold chkE at h
    split at h
    · obtain ⟨h2, h3⟩ := and2 h
      exact je_repL o.mono (sE a o h2) (sE b o h3)
    · cases h
  | .neg a, X, C, W, e, o, h => by
    unfold chkE at h
    split at h
    · exact je_neg o.mono (sE a o h)
    · cases h
  | .cmp op a b, X, C, W, e, o, h => by
    unfold chkE at h
    split at h
    · obtain ⟨h1, h4⟩ := and2 h
      obtain ⟨h1, h3⟩ := and2 h1
      obtain ⟨h1, h2⟩ := and2 h1
      rw [cop_eq h1]
      exact je_cmp o.mono o.hu (sE a o h2) (sE b o h3) (set_no h4 _)
    · cases h
  | .chn op op' a b c, X, C, W, e, o, h => by
    unfold chkE at h
    split at h
    · obtain ⟨h1, h6⟩ := and2 h
      obtain ⟨h1, h5⟩ := and2 h1
      obtain ⟨h1, h4⟩ := and2 h1
      obtain ⟨h1, h3⟩ := and2 h1
      obtain ⟨h1, h2⟩ := and2 h1
      rw [cop_eq h1, cop_eq h2]
      exact je_chn o.mono o.hu (sE a o h3) (sE b o h4) (sE c o h5) (set_last h6 _ _)
    · cases h
  | .and a b, X, C, W, e, o, h => by
    unfold chkE at h
    split at h
    · obtain ⟨h1, h2⟩ := and2 h
      exact je_and o.mono (sE a o h1) (je_one (sE b o h2))
    · obtain ⟨h1, h2⟩ := and2 h
      exact je_and o.mono (sE a o h1) (sE b o h2)
    · cases h
  | .or a b, X, C, W, e, o, h => by
    unfold chkE at h
    split at h
    · obtain ⟨h1, h2⟩ := and2 h
      exact je_or o.mono (sE a o h1) (je_one (sE b o h2))
    · obtain ⟨h1, h2⟩ := and2 h
      exact je_or o.mono (sE a o h1) (sE b o h2)
    · cases h
  | .not a, X, C, W, e, o, h => by
    unfold chkE at h
    split at h
    · exact je_not o.mono (sE a o h)
    · cases h
  | .ifx c a b, X, C, W, e, o, h => by
    unfold chkE at h
    split at h
    · obtain ⟨h1, h3⟩ := and2 h
      obtain ⟨h1, h2⟩ := and2 h1
      exact je_ifx o.mono (sT c o h1) (sE a o h2) (sE b o h3)
    · cases h
  | .tup es, X, C, W, e, o, h => by
    unfold chkE at h
    split at h
    · exact je_tup o.mono (sEs es o h)
    · cases h
  | .idx a i, X, C, W, e, o, h => by
    unfold chkE at h
    split at h
    · obtain ⟨h1, h3⟩ := and2 h
      obtain ⟨h1, h2⟩ := and2 h1
      exact je_idx o.mono (sE a o h1) (sE i o h2) (plain_ix (slice_no h3))
    · cases h
  | .slc a lo hi, X, C, W, e, o, h => by
    unfold chkE at h
    split at h
    · obtain ⟨h1, h3⟩ := and2 h
      obtain ⟨h1, h2⟩ := and2 h1
      exact je_slc o.mono (sE a o h1) (sO lo o h2) (sO hi o h3)
    · cases h
  | .rev a, X, C, W, e, o, h => by
    unfold chkE at h
    split at h
    · obtain ⟨h1, h2⟩ := and2 h
      rw [beq_iff_eq] at h1
      subst h1
      exact je_rev o.mono (sE a o h2)
    · cases h
  | .revL a, X, C, W, e, o, h => by
    unfold chkE at h
    split at h
    · obtain ⟨h1, h2⟩ := and2 h
      rw [beq_iff_eq] at h1
      subst h1
      exact je_revL o.mono (sE a o h2)
    · cases h
  | .rev0 a, X, C, W, e, o, h => by
    unfold chkE at h
    split at h
    · obtain ⟨h1, h2⟩ := and2 h
      obtain ⟨g0, g1⟩ := and2 h1
      rw [beq_iff_eq] at g0 g1
      subst g0; subst g1
      exact je_rev0 o.mono (sE a o h2)
    · cases h
  | .tupRev l, X, C, W, e, o, h => by
    unfold chkE at h
    split at h
    · obtain ⟨h1, h4⟩ := and2 h
      obtain ⟨h1, h3⟩ := and2 h1
      obtain ⟨h1, h2⟩ := and2 h1
      obtain ⟨rfl, g⟩ := gl_of o h1
      obtain ⟨rfl, g2⟩ := gl_of o h2
      exact je_tupRev o.mono o.calm g (o.blt _ (by decide +kernel)) g2 (o.blt _ (by decide +kernel)) (sL l o h3) (star1 h4)
    · cases h
  | .sorted il, X, C, W, e, o, h => by
    unfold chkE at h
    split at h
    · obtain ⟨h1, h3⟩ := and2 h
      obtain ⟨h1, h2⟩ := and2 h1
      exact srt_call o h1 (sL il o h2) h3
    · cases h
  | .sortK il, X, C, W, e, o, h => by
    unfold chkE at h
    split at h
    · rename_i f p x nm ap cp pos
      obtain ⟨h, h5⟩ := and2 h
      obtain ⟨h, h4⟩ := and2 h
      obtain ⟨h, h3⟩ := and2 h
      obtain ⟨h1, h2⟩ := and2 h
      obtain ⟨rfl, g⟩ := gl_of o h1
      rw [beq_iff_eq] at h2
      subst h2
      exact je_sortK o.mono o.calm g (o.blt _ (by decide +kernel)) (sE il o h3) (by cases x <;> first | rfl | cases h4) h5 (star1 rfl)
    · cases h
  | .meth m a es, X, C, W, e, o, h => by
    unfold chkE at h
    split at h
    · rename_i x nm ap ys cp
      obtain ⟨h1, h5⟩ := and2 h
      obtain ⟨h1, h4⟩ := and2 h1
      obtain ⟨h1, h3⟩ := and2 h1
      obtain ⟨h1, h2⟩ := and2 h1
      rw [beq_iff_eq] at h1
      subst h1
      have hb : attributeBase x (m.py : Str) X.env (eval x X.env) = eval x X.env := by cases x <;> first | rfl | cases h3
      match ys, h5 with
      | [], h5 =>
        obtain ⟨h6, h7⟩ := and2 h5
        have he : es = .nil := by cases es <;> first | rfl | cases h7
        subst he
        refine je_meth0 o.mono ?_ (sE a o h2) hb h4
        cases m <;> first | exact .inl rfl | exact .inr rfl | cases h6
      | y :: r, h5 =>
        obtain ⟨h5, h8⟩ := and2 h5
        obtain ⟨h6, h7⟩ := and2 h5
        have hn : m ≠ .pop ∧ m ≠ .reverse := ⟨fun z => (by subst z; cases h6), fun z => (by subst z; cases h6)⟩
        have hst : ∀ {ies : IEs} {zs : List Expr}, chkEs C ies zs = true → ∀ z ∈ zs, notStar z = true := by
          intro ies zs hz
          induction zs generalizing ies with
          | nil => intro z hz'; cases hz'
          | cons w t ih =>
            intro z hz'
            cases ies with
            | nil => simp [chkEs] at hz
            | cons e' es' =>
              have hz2 : (chkE C e' w = true ∧ notStar w = true) ∧ chkEs C es' t = true := by simpa [chkEs] using hz
              rcases List.mem_cons.mp hz' with q | q
              · rw [q]; exact hz2.1.2
              · exact ih hz2.2 z q
        have sy : starEach (y :: r) X.env = (false, eval y X.env) :: starEach r X.env := star1 (hst h7 y List.mem_cons_self)
        match r, h7, h8, sy with
        | [], h7, _, sy => exact je_methN o.mono hn (sE a o h2) (sEs es o h7) hb h4 (by rw [sy]; rfl) sy (by rfl)
        | [b], h7, _, sy =>
          have sb : starEach [b] X.env = (false, eval b X.env) :: starEach [] X.env := star1 (hst h7 b (by simp))
          exact je_methN o.mono hn (sE a o h2) (sEs es o h7) hb h4 (by rw [sy, sb]; rfl) sy (by rw [sb]; rfl)
        | _ :: _ :: _, _, h8, _ => cases h8
    · cases h
  | .dead, X, C, W, e, o, h => je_dead
  | .blt b es, X, C, W, e, o, h => by
    unfold chkE at h
    split at h
    · rename_i f p xs pos
      obtain ⟨h1, h2⟩ := and2 h
      cases b with
      | isa t =>
        simp only at h2
        split at h2
        · rename_i x g p2
          obtain ⟨h2, h4⟩ := and2 h2
          obtain ⟨h2, h3⟩ := and2 h2
          cases es with
          | nil => simp [chkEs] at h2
          | cons ie es =>
            cases es with
            | cons _ _ => simp [chkEs] at h2
            | nil =>
              simp only [chkEs, Bool.and_eq_true] at h2
              exact isa_call o h1 h3 (sE ie o h2.1.1) h4
        · cases h2
      | _ =>
        obtain ⟨h2, h3⟩ := and2 h2
        cases xs with
        | nil => simp at h3
        | cons x xs =>
          have st := stars_es h2
          have st' : notStar x = true ∧ xs.all notStar = true := by simpa using st
          exact blt_call (by intro t z; cases z) o h1 (sEs es o h2) (star1 st'.1) (stars_any st'.2)
    · cases h
  | .lk l il, X, C, W, e, o, h => by
    unfold chkE at h
    split at h
    · obtain ⟨h1, h3⟩ := and2 h
      obtain ⟨h1, h2⟩ := and2 h1
      exact lk_call o h1 (sL il o h2) h3
    · cases h
  | .lidx (.own j) i, X, C, W, e, o, h => by
    unfold chkE at h
    split at h
    · rename_i x y pos
      cases x with
      | Name z p =>
        simp only at h
        obtain ⟨h1, h3⟩ := and2 h
        obtain ⟨h1, h2⟩ := and2 h1
        obtain ⟨n1, n2, n3, n4⟩ := nm_of o h1
        exact je_lidxO o.mono n1 n2 n3 n4 (sE i o h2) (plain_ix (slice_no h3))
      | _ => cases h
    · cases h
  | .lidx (.new n) i, X, C, W, e, o, h => by
    unfold chkE at h
    split at h
    · rename_i x y pos
      simp only at h
      obtain ⟨h1, h3⟩ := and2 h
      obtain ⟨h1, h2⟩ := and2 h1
      exact je_lidxN o.mono (sN n o h1) (sE i o h2) (plain_ix (slice_no h3))
    · cases h
  | .lidx (.ref r) i, X, C, W, e, o, h => by
    unfold chkE at h
    split at h
    · cases h
    · cases h
  | .linn n a l, X, C, W, e, o, h => by
    unfold chkE at h
    split at h
    · obtain ⟨h1, h4⟩ := and2 h
      obtain ⟨h1, h3⟩ := and2 h1
      obtain ⟨h1, h2⟩ := and2 h1
      rw [beq_iff_eq.mp h1]
      exact je_linn o.mono n o.hu (sE a o h2) (sL l o h3) (set_no h4 _)
    · cases h
  | .mk n, X, C, W, e, o, h => je_mk o.mono (sN n o (by unfold chkE at h; exact h))
  | .maxd mn l i, X, C, W, e, o, h => by
    unfold chkE at h
    split at h
    · obtain ⟨h1, h6⟩ := and2 h
      obtain ⟨h1, h5⟩ := and2 h1
      obtain ⟨h1, h4⟩ := and2 h1
      obtain ⟨h1, h3⟩ := and2 h1
      obtain ⟨h1, h2⟩ := and2 h1
      obtain ⟨rfl, g⟩ := gl_of o h2
      rw [beq_iff_eq] at h5 h6
      subst h5 h6
      cases mn with
      | true => cases h1
      | false => exact je_maxd o.mono o.hu o.calm g (o.blt _ (by decide +kernel)) (sL l o h3) (star1 h4)
    · cases h
  | .dnew, X, C, W, e, o, h => by
    unfold chkE at h
    split at h
    · exact je_dnew
    · cases h
  | .dget a kk, X, C, W, e, o, h => by
    unfold chkE at h
    split at h
    · rename_i x y p
      obtain ⟨h1, h3⟩ := and2 h
      obtain ⟨h1, h2⟩ := and2 h1
      refine je_dget o.mono o.hu (sE a o h1) (sE kk o h2) (fun u v => ?_)
      cases y <;> first | rfl | cases h3
    · cases h
  | .din n kk a, X, C, W, e, o, h => by
    unfold chkE at h
    split at h
    · obtain ⟨h1, h4⟩ := and2 h
      obtain ⟨h1, h3⟩ := and2 h1
      obtain ⟨h1, h2⟩ := and2 h1
      rw [beq_iff_eq.mp h1]
      exact je_din o.mono n o.hu (sE kk o h2) (sE a o h3) (set_no h4 _)
    · cases h
  | .dgetd a kk b, X, C, W, e, o, h => by
    unfold chkE at h
    split at h
    · rename_i x nm ap y z cp
      obtain ⟨h, h8⟩ := and2 h
      obtain ⟨h, h7⟩ := and2 h
      obtain ⟨h, h6⟩ := and2 h
      obtain ⟨h, h5⟩ := and2 h
      obtain ⟨h, h4⟩ := and2 h
      obtain ⟨h, h3⟩ := and2 h
      obtain ⟨h1, h2⟩ := and2 h
      rw [beq_iff_eq] at h1
      subst h1
      have st : starEach [y, z] X.env = [(false, eval y X.env), (false, eval z X.env)] := by rw [star1 h7, star1 h8]; rfl
      exact je_dgetd o.mono o.hu (sE a o h2) (sE kk o h5) (sE b o h6) ⟨(by cases x <;> first | rfl | cases h3), (by rw [st]; rfl), h4, (by rw [st]; rfl)⟩
    · cases h
  | .dget1 a kk, X, C, W, e, o, h => by
    unfold chkE at h
    split at h
    · rename_i x nm ap y cp
      obtain ⟨h, h6⟩ := and2 h
      obtain ⟨h, h5⟩ := and2 h
      obtain ⟨h, h4⟩ := and2 h
      obtain ⟨h, h3⟩ := and2 h
      obtain ⟨h1, h2⟩ := and2 h
      rw [beq_iff_eq] at h1
      subst h1
      have st : starEach [y] X.env = [(false, eval y X.env)] := by rw [star1 h6]; rfl
      exact je_dget1 o.mono o.hu (sE a o h2) (sE kk o h5) ⟨(by cases x <;> first | rfl | cases h3), (by rw [st]; rfl), h4, (by rw [st]; rfl)⟩
    · cases h
  | .call f as, X, C, W, e, o, h => by
    unfold chkE at h
    split at h
    · rename_i x p xs pos
      obtain ⟨h1, h3⟩ := and2 h
      obtain ⟨h1, h2⟩ := and2 h1
      split at h1
      · rename_i fn hf
        obtain ⟨hx, g⟩ := gl_of o h1
        have cal := o.cal f fn hf
        rw [← hx] at cal
        have hd : (x == ("__debug__" : Str)) = false := by simpa [sDebug] using h2
        cases xs with
        | nil =>
          cases as with
          | nil => exact je_call0 o.mono o.tk o.room g cal hd
          | _ => simp [chkAs] at h3
        | cons e es =>
          have st := stars_as h3
          have st' : notStar e = true ∧ es.all notStar = true := by simpa using st
          exact je_call o.mono o.tk o.room g cal (sAs as o h3) hd (star1 st'.1) (stars_any st'.2)
      · cases h1
    · cases h
theorem sEs : ∀ (ies : IEs) {X : Cx} {C : Cs} {W : WX} {es : List Expr}, CxOk X C F RX W k → chkEs C ies es = true → PA X es (liftA X.K RX W (wEs F ies))
  | .nil, X, C, W, [], o, h => ja_nil
  | .nil, X, C, W, _ :: _, o, h => by simp [chkEs] at h
  | .cons _ _, X, C, W, [], o, h => by simp [chkEs] at h
  | .cons e es, X, C, W, x :: xs, o, h => by
    simp only [chkEs, Bool.and_eq_true] at h
    exact ja_cons o.mono (sE e o h.1.1) (sEs es o h.2) (star1 h.1.2)
theorem sT : ∀ (it : IT) {X : Cx} {C : Cs} {W : WX} {e : Expr}, CxOk X C F RX W k → chkT C it e = true → PT X e (liftT X.K RX W (wT F it))
  | .v ie, X, C, W, e, o, h => by
    unfold chkT at h
    split at h
    · rename_i op a b x p y pos
      obtain ⟨h1, h4⟩ := and2 h
      obtain ⟨h1, h3⟩ := and2 h1
      obtain ⟨h1, h2⟩ := and2 h1
      rw [cop_eq h1]
      exact jt_cmp o.mono o.hu (sE a o h2) (sE b o h3) (set_no h4 _)
    · rename_i op op' a b c x p p' y z pos
      obtain ⟨h1, h6⟩ := and2 h
      obtain ⟨h1, h5⟩ := and2 h1
      obtain ⟨h1, h4⟩ := and2 h1
      obtain ⟨h1, h3⟩ := and2 h1
      obtain ⟨h1, h2⟩ := and2 h1
      rw [cop_eq h1, cop_eq h2]
      exact jt_chn o.mono o.hu (sE a o h3) (sE b o h4) (sE c o h5) (set_last h6 _ _)
    · rename_i n a l x p y pos
      obtain ⟨h1, h4⟩ := and2 h
      obtain ⟨h1, h3⟩ := and2 h1
      obtain ⟨h1, h2⟩ := and2 h1
      rw [beq_iff_eq.mp h1]
      exact jt_linn o.mono n o.hu (sE a o h2) (sL l o h3) (set_no h4 _)
    · rename_i n kk a x p y pos
      obtain ⟨h1, h4⟩ := and2 h
      obtain ⟨h1, h3⟩ := and2 h1
      obtain ⟨h1, h2⟩ := and2 h1
      rw [beq_iff_eq.mp h1]
      exact jt_din o.mono n o.hu (sE kk o h2) (sE a o h3) (set_no h4 _)
    · obtain ⟨h1, h2⟩ := and2 h
      exact jt_truth o.mono (sE ie o h1) (plain_t h2)
  | .not a, X, C, W, e, o, h => by
    unfold chkT at h
    split at h
    · exact jt_not o.mono (sT a o h)
    · cases h
  | .and a b, X, C, W, e, o, h => by
    unfold chkT at h
    split at h
    · obtain ⟨h1, h2⟩ := and2 h
      exact (jw_and o.mono (sT a o h1) (jw_one (sT b o h2))).pt
    · obtain ⟨h1, h2⟩ := and2 h
      exact (jw_and o.mono (sT a o h1) (sTW b o h2)).pt
    · cases h
  | .or a b, X, C, W, e, o, h => by
    unfold chkT at h
    split at h
    · obtain ⟨h1, h2⟩ := and2 h
      exact (jw_or o.mono (sT a o h1) (jw_one (sT b o h2))).pt
    · obtain ⟨h1, h2⟩ := and2 h
      exact (jw_or o.mono (sT a o h1) (sTW b o h2)).pt
    · cases h
theorem sTW : ∀ (it : IT) {X : Cx} {C : Cs} {W : WX} {op : BoolOp} {vs : List Expr} {pos : Pos}, CxOk X C F RX W k → chkT C it (.BoolOp op vs pos) = true → PW X (.BoolOp op vs pos) (liftT X.K RX W (wT F it))
  | .v ie, X, C, W, op, vs, pos, o, h => by
    unfold chkT at h
    split at h
    · rename_i e; cases e
    · rename_i e; cases e
    · rename_i e; cases e
    · rename_i e; cases e
    · simp [plainT] at h
  | .not a, X, C, W, op, vs, pos, o, h => by simp [chkT] at h
  | .and a b, X, C, W, op, vs, pos, o, h => by
    unfold chkT at h
    split at h
    · rename_i e; cases e
      obtain ⟨h1, h2⟩ := and2 h
      exact jw_and o.mono (sT a o h1) (jw_one (sT b o h2))
    · rename_i e; cases e
      obtain ⟨h1, h2⟩ := and2 h
      exact jw_and o.mono (sT a o h1) (sTW b o h2)
    · cases h
  | .or a b, X, C, W, op, vs, pos, o, h => by
    unfold chkT at h
    split at h
    · rename_i e; cases e
      obtain ⟨h1, h2⟩ := and2 h
      exact jw_or o.mono (sT a o h1) (jw_one (sT b o h2))
    · rename_i e; cases e
      obtain ⟨h1, h2⟩ := and2 h
      exact jw_or o.mono (sT a o h1) (sTW b o h2)
    · cases h
theorem sO : ∀ (io : IO) {X : Cx} {C : Cs} {W : WX} {e : Option Expr}, CxOk X C F RX W k → chkO C io e = true → PO X e (liftO X.K RX W (wO F io))
  | .no, X, C, W, none, o, h => jo_none
  | .no, X, C, W, some _, o, h => by simp [chkO] at h
  | .at _, X, C, W, none, o, h => by simp [chkO] at h
  | .at ie, X, C, W, some e, o, h => jo_some o.mono (sE ie o (by simpa [chkO] using h))
theorem sAs : ∀ (ies : IAs) {X : Cx} {C : Cs} {W : WX} {es : List Expr}, CxOk X C F RX W k → chkAs C ies es = true → PA X es (liftAs X.K RX W (wAs F ies))
  | .nil, X, C, W, [], o, h => js_nil
  | .nil, X, C, W, _ :: _, o, h => by simp [chkAs] at h
  | .cons _ _, X, C, W, [], o, h => by simp [chkAs] at h
  | .tmp _ _, X, C, W, [], o, h => by simp [chkAs] at h
  | .lend _ _, X, C, W, [], o, h => by simp [chkAs] at h
  | .cons e es, X, C, W, x :: xs, o, h => by
    simp only [chkAs, Bool.and_eq_true] at h
    exact js_cons o.mono (sE e o h.1.1) (sAs es o h.2) (star1 h.1.2)
  | .tmp n es, X, C, W, x :: xs, o, h => by
    simp only [chkAs, Bool.and_eq_true] at h
    exact js_tmp o.mono (sN n o h.1.1) (sAs es o h.2) (star1 h.1.2)
  | .lend i es, X, C, W, x :: xs, o, h => by
    cases x with
    | Name y p =>
      simp only [chkAs, Bool.and_eq_true] at h
      obtain ⟨n1, n2, n3, n4⟩ := nm_of o h.1
      exact js_lend o.mono n1 n2 n3 n4 (sAs es o h.2) rfl
    | _ => simp [chkAs] at h
theorem sL : ∀ (il : IL) {X : Cx} {C : Cs} {W : WX} {e : Expr}, CxOk X C F RX W k → chkL C il e = true → PE X e (liftL X.K RX W (wL F il))
  | .new n, X, C, W, e, o, h => jl_new (sN n o (by unfold chkL at h; exact h)) o.mono
  | .own i, X, C, W, e, o, h => by
    unfold chkL at h
    split at h
    · obtain ⟨n1, n2, n3, n4⟩ := nm_of o h
      exact jl_own n1 n2 n3 n4
    · cases h
  | .ref ie, X, C, W, e, o, h => jl_ref o.mono (sE ie o (by unfold chkL at h; exact h))
theorem sN : ∀ (n : IN) {X : Cx} {C : Cs} {W : WX} {e : Expr}, CxOk X C F RX W k → chkN C n e = true → PE X e (liftN X.K RX W (wN F n))
  | .disp es, X, C, W, e, o, h => by
    unfold chkN at h
    split at h
    · exact jn_disp o.mono (sEs es o h)
    · cases h
  | .comp ie t it io, X, C, W, e, o, h => by
    unfold chkN at h
    split at h
    · rename_i elt tg iter ifs a scope pos
      obtain ⟨h1, h7⟩ := and2 h
      obtain ⟨h1, h6⟩ := and2 h1
      obtain ⟨h1, h5⟩ := and2 h1
      obtain ⟨h1, h4⟩ := and2 h1
      obtain ⟨h1, h3⟩ := and2 h1
      obtain ⟨h1, h2⟩ := and2 h1
      have ha : a = 0 := by simpa using h1
      subst ha
      split at h4
      · rename_i own ho
        have hi := sI it o h2
        obtain ⟨tt, ht, htt⟩ : ∃ tt : TT, (∀ (s : Shared) (H : Hp) (Ca : Addr) (cl : List (Str × Addr)) (fp : List Addr), PTs (X.blk s H scope (compEnvC scope cl Ca X.env) fp) ifs tt) ∧ ∀ σ H Q, liftT X.K RX W0 (wTs F io) σ H Q → tt σ H Q := by
          cases io with
          | none =>
            cases ifs with
            | nil => exact ⟨tYes, fun _ _ _ _ _ => pts_nil, fun σ H Q ⟨env, M, s, q⟩ => q H Ext.refl s⟩
            | cons _ _ => simp [chkIf] at h7
          | some t =>
            cases ifs with
            | nil => simp [chkIf] at h7
            | cons x xs =>
              cases xs with
              | cons _ _ => simp [chkIf] at h7
              | nil => exact ⟨_, fun s H Ca cl fp => pts_one (sT t (o.blk (scope := scope) s H Ca cl fp) (by simpa [chkIf] using h7)), fun _ _ _ q => q⟩
        exact jn_comp (g := gOf X.K t) o.mono o.calm o.nd hi (blk_of o h4) (own_slots ho) (fun s H Ca cl fp => g_of (o.blk (scope := scope) s H Ca cl fp) h5) ht htt
          (fun s H Ca cl fp => sE ie (o.blk (scope := scope) s H Ca cl fp) h6) (set_fold h3)
      · cases h4
    · cases h
  | .comp2 ie t it t1 it1 io, X, C, W, e, o, h => by
    unfold chkN at h
    split at h
    · rename_i elt tg iter ifs a tg1 iter1 ifs1 a1 scope pos
      obtain ⟨h1, h12⟩ := and2 h
      obtain ⟨h1, h11⟩ := and2 h1
      obtain ⟨h1, h10⟩ := and2 h1
      obtain ⟨h1, h9⟩ := and2 h1
      obtain ⟨h1, h8⟩ := and2 h1
      obtain ⟨h1, h7⟩ := and2 h1
      obtain ⟨h1, h6⟩ := and2 h1
      obtain ⟨h1, h5⟩ := and2 h1
      obtain ⟨h1, h4⟩ := and2 h1
      obtain ⟨h1, h3⟩ := and2 h1
      obtain ⟨h1, h2⟩ := and2 h1
      have ha : a = 0 := by simpa using h1
      have ha1 : a1 = 0 := by simpa using h2
      subst ha; subst ha1
      have hf : ifs = [] := by simpa using h3
      subst hf
      split at h7
      · rename_i own own1 ho ho1
        have hi := sI it o h4
        obtain ⟨tt, ht, htt⟩ : ∃ tt : TT, (∀ (s : Shared) (H : Hp) (Ca : Addr) (cl : List (Str × Addr)) (fp : List Addr), PTs (X.blk s H scope (compEnvC scope cl Ca X.env) fp) ifs1 tt) ∧ ∀ σ H Q, liftT X.K RX W0 (wTs F io) σ H Q → tt σ H Q := by
          cases io with
          | none =>
            cases ifs1 with
            | nil => exact ⟨tYes, fun _ _ _ _ _ => pts_nil, fun σ H Q ⟨env, M, s, q⟩ => q H Ext.refl s⟩
            | cons _ _ => simp [chkIf] at h12
          | some t =>
            cases ifs1 with
            | nil => simp [chkIf] at h12
            | cons x xs =>
              cases xs with
              | cons _ _ => simp [chkIf] at h12
              | nil => exact ⟨_, fun s H Ca cl fp => pts_one (sT t (o.blk (scope := scope) s H Ca cl fp) (by simpa [chkIf] using h12)), fun _ _ _ q => q⟩
        have hown : (own ++ own1).map (·.2) = t.slots ++ t1.slots := by rw [List.map_append, own_slots ho, own_slots ho1]
        exact jn_comp2 (spos := pos) (g := gOf X.K t) (g1 := gOf X.K t1) o.mono o.calm o.nd hi (blk_of o h7) hown (fun s H Ca cl fp => g_of (o.blk (scope := scope) s H Ca cl fp) h8) (fun s H Ca cl fp => g_of (o.blk (scope := scope) s H Ca cl fp) h9)
          (fun s H Ca cl fp => sI it1 (o.blk (scope := scope) s H Ca cl fp) h10) ht htt (fun s H Ca cl fp => sE ie (o.blk (scope := scope) s H Ca cl fp) h11) (set_fold h5) (fun _ => set_fold h6)
      · cases h7
    · cases h
  | .copy l, X, C, W, e, o, h => by
    unfold chkN at h
    split at h
    · obtain ⟨h1, h3⟩ := and2 h
      obtain ⟨h1, h2⟩ := and2 h1
      obtain ⟨rfl, g⟩ := gl_of o h1
      exact jn_copy o.mono g (o.blt _ (by decide +kernel)) (sL l o h2) (star1 h3)
    · cases h
  | .copyT a, X, C, W, e, o, h => by
    unfold chkN at h
    split at h
    · obtain ⟨h1, h3⟩ := and2 h
      obtain ⟨h1, h2⟩ := and2 h1
      obtain ⟨rfl, g⟩ := gl_of o h1
      exact jn_copyT o.mono g (o.blt _ (by decide +kernel)) (sE a o h2) (star1 h3)
    · cases h
  | .slc _ _ _, X, C, W, e, o, h => by unfold chkN at h; cases h
theorem sI : ∀ (it : II) {X : Cx} {C : Cs} {W : WX} {tg e : Expr}, CxOk X C F RX W k → chkI C it tg e = true → PI X tg e (liftI X.K RX W (wI F it))
  | .dyn a, X, C, W, tg, e, o, h => ji_dyn o.mono (sE a o (by unfold chkI at h; exact h))
  | .new n, X, C, W, tg, e, o, h => ji_new o.mono (sN n o (by unfold chkI at h; exact h))
  | .own i, X, C, W, tg, e, o, h => by
    unfold chkI at h
    split at h
    · obtain ⟨n1, n2, n3, n4⟩ := nm_of o h
      exact ji_own n1 n2 n3 n4
    · cases h
  | .range a, X, C, W, tg, e, o, h => by
    unfold chkI at h
    split at h
    · obtain ⟨h1, h3⟩ := and2 h
      obtain ⟨h1, h2⟩ := and2 h1
      obtain ⟨rfl, g⟩ := gl_of o h1
      exact ji_range o.mono g (o.blt _ (by decide +kernel)) (sE a o h2) (star1 h3)
    · cases h
  | .range2 a b, X, C, W, tg, e, o, h => by
    unfold chkI at h
    split at h
    · obtain ⟨h1, h5⟩ := and2 h
      obtain ⟨h1, h4⟩ := and2 h1
      obtain ⟨h1, h3⟩ := and2 h1
      obtain ⟨h1, h2⟩ := and2 h1
      obtain ⟨rfl, g⟩ := gl_of o h1
      exact ji_range2 o.mono g (o.blt _ (by decide +kernel)) (sE a o h2) (sE b o h3) (by rw [star1 h4, star1 h5]; rfl) (star1 h5)
    · cases h
  | .zip a b, X, C, W, tg, e, o, h => by
    unfold chkI at h
    split at h
    · obtain ⟨h1, h5⟩ := and2 h
      obtain ⟨h1, h4⟩ := and2 h1
      obtain ⟨h1, h3⟩ := and2 h1
      obtain ⟨h1, h2⟩ := and2 h1
      obtain ⟨rfl, g⟩ := gl_of o h1
      exact ji_zip o.mono g (o.blt _ (by decide +kernel)) (sE a o h2) (sE b o h3) (star1 h4) (star1 h5)
    · cases h
  | .enum a, X, C, W, tg, e, o, h => by
    unfold chkI at h
    split at h
    · obtain ⟨h1, h3⟩ := and2 h
      obtain ⟨h1, h2⟩ := and2 h1
      obtain ⟨rfl, g⟩ := gl_of o h1
      exact ji_enum o.mono g (o.blt _ (by decide +kernel)) (sE a o h2) (star1 h3)
    · cases h
  | .rev a, X, C, W, tg, e, o, h => by
    unfold chkI at h
    split at h
    · obtain ⟨h1, h3⟩ := and2 h
      obtain ⟨h1, h2⟩ := and2 h1
      obtain ⟨rfl, g⟩ := gl_of o h1
      exact ji_rev o.mono g (o.blt _ (by decide +kernel)) (sE a o h2) (star1 h3)
    · cases h
  | .revR a b, X, C, W, tg, e, o, h => by
    unfold chkI at h
    split at h
    · obtain ⟨h, h6⟩ := and2 h
      obtain ⟨h, h5⟩ := and2 h
      obtain ⟨h, h4⟩ := and2 h
      obtain ⟨h, h3⟩ := and2 h
      obtain ⟨h1, h2⟩ := and2 h
      obtain ⟨rfl, g⟩ := gl_of o h1
      obtain ⟨rfl, g2⟩ := gl_of o h2
      exact ji_revR o.mono g (o.blt _ (by decide +kernel)) g2 (o.blt _ (by decide +kernel)) (sE a o h3) (sE b o h4) (star1 h5) (star1 h6) (by rw [star1 h6]; rfl)
    · obtain ⟨h, h5⟩ := and2 h
      obtain ⟨h, h4⟩ := and2 h
      obtain ⟨h, h3⟩ := and2 h
      obtain ⟨h1, h2⟩ := and2 h
      obtain ⟨rfl, g⟩ := gl_of o h1
      obtain ⟨rfl, g2⟩ := gl_of o h2
      split at h3
      · rw [beq_iff_eq] at h3
        subst h3
        exact ji_revR1 o.mono g (o.blt _ (by decide +kernel)) g2 (o.blt _ (by decide +kernel)) (sE b o h4) (star1 h5)
      · cases h3
    · cases h
end
end
end DL
set_option maxHeartbeats 2000000
/-! The check is sound: statements, defs, the whole text. -/
namespace DL
open PySem PySem.Spec PyProof.Rows L2

/-- a comprehension that is stored at once -/
def swB (C : Cs) (x : Str) (p : Pos) (e : Expr) : Bool := match e with
  | .ListComp _ _ sc q => C.names.lookup x == some .local && p.line == q.line && !(sc.names.any fun (n, k) => n == x && (k == .local || k == .cell))
  | _ => false
def swC (C : Cs) (x : Str) (e : Expr) : Bool := match e with
  | .ListComp .. => C.names.lookup x == some .cell
  | _ => false
def chkAsg (C : Cs) (i : Nat) (n : IN) (st : Stmt) : Bool := (match st with | .Assign [.Name x p] e _ => lcOk C i x && chkN C n e && (notComp e || swB C x p e || swC C x e) | _ => false)
mutual
def chkS (C : Cs) : IS → Stmt → Bool
  | .pass, st => (match st with | .Pass _ => true | _ => false)
  | .brk, st => (match st with | .Break _ => true | _ => false)
  | .cnt, st => (match st with | .Continue _ => true | _ => false)
  | .ret e, st => (match st with | .Return (some x) _ => chkE C e x | _ => false)
  | .retN, st => (match st with | .Return none _ => true | _ => false)
  | .retO i, st => (match st with | .Return (some (.Name x _)) _ => nmOk C i x | _ => false)
  | .exp e, st => (match st with | .Expr x _ => chkE C e x && notComp x | _ => false)
  | .asg t e, st => (match st with | .Assign [tg] x _ => chkTg C t tg && chkE C e x && notComp x && (notTup tg || notTup x) | _ => false)
  | .asgN i n, st => chkAsg C i n st
  | .asgM i n, st => chkAsg C i n st
  | .par i j a b, st => (match st with
    | .Assign [.Tuple [.Name x px, .Name y py] _ pt] (.Tuple [u, v] _ _) _ => (C.N[i]? == some x) && (C.N[j]? == some y) && (C.names.lookup x == some .local) && (C.names.lookup y == some .local) && !(i == j) && (px.line == py.line) &&
        chkE C a u && chkE C b v && notStar u && notStar v && !([u, v].all (foldedForSure 8)) && !([u, v].all (constantsAlone 8))
    | _ => false)
  | .aug i o e, st => (match st with | .AugAssign (.Name x _) p v _ => lcOk C i x && o.beq p && chkE C e v | _ => false)
  | .app i e, st => (match st with | .Expr (.Call (.Attribute (.Name x _) m ap) [v] [] cp) _ => (m == ("append" : Str)) && nmOk C i x && chkE C e v && notStar v && (ap.endLine == cp.line) | _ => false)
  | .set i k e, st => (match st with | .Assign [.Subscript (.Name x _) y _] v _ => nmOk C i x && chkE C k y && notSlice y && chkE C e v && notComp v | _ => false)
  | .pop i j, st => (match st with | .Assign [.Name x _] (.Call (.Attribute (.Name y _) m ap) [] [] cp) _ => lcOk C i x && nmOk C j y && (m == ("pop" : Str)) && (ap.endLine == cp.line) | _ => false)
  | .mapp l e, st => (match st with | .Expr (.Call (.Attribute x m ap) [v] [] cp) _ => (m == ("append" : Str)) && chkE C l x && plainB x && chkE C e v && notStar v && (ap.endLine == cp.line) | _ => false)
  | .mset l k e, st => (match st with | .Assign [.Subscript x y _] v _ => chkE C l x && chkE C k y && notSlice y && chkE C e v && notComp v | _ => false)
  | .dset d k e, st => (match st with | .Assign [.Subscript x y _] v _ => chkE C d x && chkE C k y && notSlice y && chkE C e v && notComp v | _ => false)
  | .maug l k o e, st => (match st with | .AugAssign (.Subscript x y _) p v _ => chkE C l x && chkE C k y && notSlice y && o.beq p && chkE C e v | _ => false)
  | .ite c t e, st => (match st with | .If x a b _ => chkT C c x && chkSs C t a && chkSs C e b | _ => false)
  | .whl c b, st => (match st with | .While x a [] _ => chkT C c x && chkSs C b a | _ => false)
  | .for_ t it b, st => (match st with | .For tg x a [] _ => chkTg C t tg && chkI C it tg x && notSet x && chkSs C b a | _ => false)
  | .dead, _ => true
def chkSs (C : Cs) : List IS → List Stmt → Bool
  | [], [] => true
  | i :: is, s :: ss => chkS C i s && chkSs C is ss
  | _, _ => false
end
section
variable {X : Cx} {C : Cs} {F : FS} {RX : RXT} {W : WX} {k : Nat}
/-- a def's own block -/
structure TopOk (X : Cx) : Prop where
  kind : X.env.scope.kind = .function
  own : PassesOwn (model X.prog X.w) X.A X.env X.xe
theorem sw_plain {e : Expr} {tg : Option Expr} {l : Nat} {env : PySem.Env} (h : notComp e = true) : swapsWith e tg l env = pure false := by
  cases e <;> first | rfl | cases h
theorem sws_plain {e tg : Expr} {l : Nat} {env : PySem.Env} (h : notComp e = true) : swapsWithSole [tg] e l env = pure false := sw_plain h
theorem st_tup {tg e : Expr} {env : PySem.Env} (h : (notTup tg || notTup e) = true) (hl : ∀ es p, tg ≠ .List es p) : swappedStores [tg] e env = pure none := by
  cases tg <;> first | rfl | exact absurd rfl (hl _ _) | skip
  cases e <;> first | rfl | cases h
theorem tg_no {t : Tg} {tg : Expr} (h : chkTg C t tg = true) : (∀ es p, tg ≠ .List es p) ∧ ∀ env, (assignEach [tg] env).map (·.2) = [assign tg env] := by
  cases t <;> cases tg <;> first | (simp [chkTg] at h; done) | exact ⟨fun _ _ z => (by cases z), fun _ => rfl⟩
theorem star_m {e : Expr} (h : notStar e = true) : (match (generalizing := false) e with | .Starred .. => true | _ => false) = false := by cases e <;> first | rfl | cases h
theorem swapped2 {env : PySem.Env} {x y : Str} {px py pt pt2 : Pos} {kt k2 : Nat} {u v : Expr} (hbk : env.blockKind = .function) (kx : env.kindOf x = some .local) (ky : env.kindOf y = some .local) (hxy : x ≠ y) (h6 : px.line = py.line)
    (h9 : notStar u = true) (h10 : notStar v = true) (h11 : [u, v].all (foldedForSure 8) = false) (h12 : [u, v].all (constantsAlone 8) = false) :
    swappedStores [.Tuple [.Name x px, .Name y py] kt pt] (.Tuple [u, v] k2 pt2) env = pure (some [x, y]) := by
  have e1 : ([x, y] : List Str).eraseDups.length = 2 := by
    have : (y == x) = false := by simpa using fun z => hxy z.symm
    simp [List.eraseDups, List.eraseDupsBy, List.eraseDupsBy.loop, this]
  unfold swappedStores
  simp only [List.length_cons, List.length_nil, hbk, kx, ky, List.any_cons, List.any_nil, List.filterMap_cons, List.filterMap_nil, List.head?_cons, Option.map_some, Option.getD_some, Expr.pos, h6, h11, h12, beq_self_eq_true, Bool.and_self, if_true]
  rw [if_neg (by decide)]
  refine (if_neg (fun h => ?_)).trans ?_
  · clear h11 h12
    cases u <;> first | (cases h9; done) | (cases v <;> first | (cases h10; done) | (cases h; done))
  · simp [e1]
theorem sw_cell {elt : Expr} {gs : List Comprehension} {sc : Scope} {q p : Pos} {x : Str} {l : Nat} {env : PySem.Env} (h : env.kindOf x = some .cell) : swapsWith (.ListComp elt gs sc q) (some (.Name x p)) l env = pure false := by
  show (pure (env.blockKind == .function && env.kindOf x == some .local && p.line == q.line && !(sc.names.any fun (n, k) => n == x && (k == .local || k == .cell))) : Sem Bool) = pure false
  rw [h]
  have : (some NameKind.cell == some NameKind.local) = false := by decide
  rw [this]
  simp
theorem asg_ps (o : CxOk X C F RX W k) (t : TopOk X) {i : Nat} {n : IN} {st : Stmt} (h : chkAsg C i n st = true) : PS X st (tAsg (liftN X.K RX W (wN F n)) (gName i)) := by
    unfold chkAsg at h; split at h
    · rename_i x p e pos
      obtain ⟨h1, h3⟩ := and2 h
      obtain ⟨h1, h2⟩ := and2 h1
      obtain ⟨l1, l2, l3⟩ := lc_of o h1
      by_cases hc : notComp e = true
      · exact ps_set o.nd l1 l2 (sN n o h2) (sw_plain hc) l3
      by_cases hcl : swC C x e = true
      · refine ps_set o.nd l1 l2 (sN n o h2) ?_ l3
        unfold swC at hcl
        split at hcl
        · have hk : X.env.kindOf x = some .cell := (o.cel x (by simpa using hcl)).1
          exact sw_cell hk
        · cases hcl
      · have h3' : swB C x p e = true := by
          cases hcc : notComp e with
          | true => exact absurd hcc hc
          | false =>
            rw [hcc] at h3
            cases hsb : swB C x p e with
            | true => rfl
            | false => rw [hsb] at h3; exact absurd (by simpa using h3) hcl
        unfold swB at h3'
        split at h3'
        · rename_i elt gs sc q
          obtain ⟨h3', h6⟩ := and2 h3'
          obtain ⟨h4, h5⟩ := and2 h3'
          have hl : X.env.scope.names.lookup x = some .local := o.loc x (by simpa using h4)
          have hsw : swapsWith (.ListComp elt gs sc q) (some (.Name x p)) pos.line X.env = pure true := sw_true t.kind hl h5 (by simpa using h6)
          cases n with
          | comp ie tg it io =>
            unfold chkN at h2
            split at h2
            · rename_i elt' tg' iter ifs a scope pos' e'
              cases e'
              obtain ⟨h1, h7⟩ := and2 h2
              obtain ⟨h1, h6⟩ := and2 h1
              obtain ⟨h1, h5⟩ := and2 h1
              obtain ⟨h1, h4⟩ := and2 h1
              obtain ⟨h1, hset⟩ := and2 h1
              obtain ⟨h1, hi2⟩ := and2 h1
              have ha : a = 0 := by simpa using h1
              subst ha
              split at h4
              · rename_i own ho
                have hi := sI it o hi2
                obtain ⟨tt, ht, htt⟩ : ∃ tt : TT, (∀ (s : Shared) (H : Hp) (Ca : Addr) (cl : List (Str × Addr)) (fp : List Addr), PTs (X.blk s H sc (compEnvC sc cl Ca X.env) fp) ifs tt) ∧ ∀ σ H Q, liftT X.K RX W0 (wTs F io) σ H Q → tt σ H Q := by
                  cases io with
                  | none =>
                    cases ifs with
                    | nil => exact ⟨tYes, fun _ _ _ _ _ => pts_nil, fun σ H Q ⟨env, M, s, q⟩ => q H Ext.refl s⟩
                    | cons _ _ => simp [chkIf] at h7
                  | some t =>
                    cases ifs with
                    | nil => simp [chkIf] at h7
                    | cons x xs =>
                      cases xs with
                      | cons _ _ => simp [chkIf] at h7
                      | nil => exact ⟨_, fun s H Ca cl fp => pts_one (sT t (o.blk (scope := sc) s H Ca cl fp) (by simpa [chkIf] using h7)), fun _ _ _ q => q⟩
                exact (js_setLc (g := gOf X.K tg) o.mono o.calm o.nd l1 hl hsw hi (blk_of o h4) (own_slots ho) (fun s H Ca cl fp => g_of (o.blk (scope := sc) s H Ca cl fp) h5) ht htt
                  (fun s H Ca cl fp => sE ie (o.blk (scope := sc) s H Ca cl fp) h6) (set_fold hset))
              · cases h4
            · cases h2
          | comp2 ie t0 it t1 it1 io =>
            unfold chkN at h2
            split at h2
            · rename_i elt' tg iter ifs a tg1 iter1 ifs1 a1 scope pos' e'
              cases e'
              obtain ⟨h1, h12⟩ := and2 h2
              obtain ⟨h1, h11⟩ := and2 h1
              obtain ⟨h1, h10⟩ := and2 h1
              obtain ⟨h1, g9⟩ := and2 h1
              obtain ⟨h1, g8⟩ := and2 h1
              obtain ⟨h1, g7⟩ := and2 h1
              obtain ⟨h1, g6⟩ := and2 h1
              obtain ⟨h1, g5⟩ := and2 h1
              obtain ⟨h1, g4⟩ := and2 h1
              obtain ⟨h1, g3⟩ := and2 h1
              obtain ⟨h1, h2'⟩ := and2 h1
              have ha : a = 0 := by simpa using h1
              have ha1 : a1 = 0 := by simpa using h2'
              subst ha; subst ha1
              have hf : ifs = [] := by simpa using g3
              subst hf
              split at g7
              · rename_i own own1 ho ho1
                have hi := sI it o g4
                obtain ⟨tt, ht, htt⟩ : ∃ tt : TT, (∀ (s : Shared) (H : Hp) (Ca : Addr) (cl : List (Str × Addr)) (fp : List Addr), PTs (X.blk s H sc (compEnvC sc cl Ca X.env) fp) ifs1 tt) ∧ ∀ σ H Q, liftT X.K RX W0 (wTs F io) σ H Q → tt σ H Q := by
                  cases io with
                  | none =>
                    cases ifs1 with
                    | nil => exact ⟨tYes, fun _ _ _ _ _ => pts_nil, fun σ H Q ⟨env, M, s, q⟩ => q H Ext.refl s⟩
                    | cons _ _ => simp [chkIf] at h12
                  | some t =>
                    cases ifs1 with
                    | nil => simp [chkIf] at h12
                    | cons x xs =>
                      cases xs with
                      | cons _ _ => simp [chkIf] at h12
                      | nil => exact ⟨_, fun s H Ca cl fp => pts_one (sT t (o.blk (scope := sc) s H Ca cl fp) (by simpa [chkIf] using h12)), fun _ _ _ q => q⟩
                have hown : (own ++ own1).map (·.2) = t0.slots ++ t1.slots := by rw [List.map_append, own_slots ho, own_slots ho1]
                exact (js_setLc2 (g := gOf X.K t0) (g1 := gOf X.K t1) o.mono o.calm o.nd l1 hl hsw hi (blk_of o g7) hown (fun s H Ca cl fp => g_of (o.blk (scope := sc) s H Ca cl fp) g8) (fun s H Ca cl fp => g_of (o.blk (scope := sc) s H Ca cl fp) g9)
                  (fun s H Ca cl fp => sI it1 (o.blk (scope := sc) s H Ca cl fp) h10) ht htt (fun s H Ca cl fp => sE ie (o.blk (scope := sc) s H Ca cl fp) h11) (set_fold g5) (fun _ => set_fold g6))
              · cases g7
            · cases h2
          | disp es => simp [chkN] at h2
          | copy l => simp [chkN] at h2
          | copyT l => simp [chkN] at h2
          | slc _ _ _ => simp [chkN] at h2
        · cases h3'
    · cases h
mutual
theorem sS (o : CxOk X C F RX W k) (t : TopOk X) : ∀ (is : IS) {st : Stmt}, chkS C is st = true → PS X st (liftS X.K RX W (wS F is))
  | .pass, st, h => by
    unfold chkS at h; split at h
    · exact js_pass
    · cases h
  | .brk, st, h => by
    unfold chkS at h; split at h
    · exact js_brk
    · cases h
  | .cnt, st, h => by
    unfold chkS at h; split at h
    · exact js_cnt
    · cases h
  | .ret e, st, h => by
    unfold chkS at h; split at h
    · exact js_ret o.mono (sE e o h)
    · cases h
  | .retN, st, h => by
    unfold chkS at h; split at h
    · exact js_retN
    · cases h
  | .retO i, st, h => by
    unfold chkS at h; split at h
    · obtain ⟨n1, n2, n3, n4⟩ := nm_of o h
      exact js_retO n1 n2 n3 n4
    · cases h
  | .exp e, st, h => by
    unfold chkS at h; split at h
    · obtain ⟨h1, h2⟩ := and2 h
      exact js_exp o.mono (sE e o h1) (sw_plain h2)
    · cases h
  | .asg tg e, st, h => by
    unfold chkS at h; split at h
    · obtain ⟨h1, h4⟩ := and2 h
      obtain ⟨h1, h3⟩ := and2 h1
      obtain ⟨h1, h2⟩ := and2 h1
      obtain ⟨g1, g2⟩ := tg_no h1
      exact js_asg o.mono (sE e o h2) (g_of o h1) (sws_plain h3) (st_tup h4 g1) (g2 _)
    · cases h
  | .asgN i n, st, h => PS.imp (asg_ps o t h) fun D σ H h => asgN_go o.mono h
  | .asgM i n, st, h => PS.imp (asg_ps o t h) fun D σ H h => asgM_go o.mono h
  | .par i j a b, st, h => by
    unfold chkS at h; split at h
    · rename_i x px y py kt pt u v k2 pt2 pos
      simp only [Bool.and_eq_true, Bool.not_eq_true', beq_iff_eq] at h
      obtain ⟨⟨⟨⟨⟨⟨⟨⟨⟨⟨⟨h1, h2⟩, h3⟩, h4⟩, h5⟩, h6⟩, h7⟩, h8⟩, h9⟩, h10⟩, h11⟩, h12⟩ := h
      have hi : X.N[i]? = some x := by rw [o.N]; exact h1
      have hj : X.N[j]? = some y := by rw [o.N]; exact h2
      have hij : i ≠ j := by simpa using h5
      have hx := o.loc x h3
      have hy := o.loc y h4
      refine js_par o.mono o.calm o.nd hi hj hij hx hy (sE a o h7) (sE b o h8) (star1 h9) (star1 h10) ?_ (sws_plain rfl)
      have hxy : x ≠ y := fun z => hij (nodup_ix o.nd hi (z ▸ hj))
      have hbk : X.env.blockKind = .function := by unfold PySem.Env.blockKind; rw [t.kind]; rfl
      have kx : X.env.kindOf x = some .local := hx
      have ky : X.env.kindOf y = some .local := hy
      exact swapped2 hbk kx ky hxy h6 h9 h10 h11 h12
    · cases h
  | .aug i op e, st, h => by
    unfold chkS at h; split at h
    · obtain ⟨h1, h3⟩ := and2 h
      obtain ⟨h1, h2⟩ := and2 h1
      obtain ⟨l1, l2, l3⟩ := lc_of o h1
      rw [bop_eq h2]
      exact js_aug o.mono o.nd l1 l2 (sE e o h3) l3
    · cases h
  | .app i e, st, h => by
    unfold chkS at h; split at h
    · simp only [Bool.and_eq_true, beq_iff_eq] at h
      obtain ⟨⟨⟨⟨h1, h2⟩, h3⟩, h4⟩, h5⟩ := h
      obtain ⟨n1, n2, n3, n4⟩ := nm_of o h2
      subst h1
      exact js_app o.mono n1 n2 n3 n4 (sE e o h3) (star1 h4) (by simpa using h5)
    · cases h
  | .set i kx e, st, h => by
    unfold chkS at h; split at h
    · simp only [Bool.and_eq_true] at h
      obtain ⟨⟨⟨⟨h1, h2⟩, h3⟩, h4⟩, h5⟩ := h
      obtain ⟨n1, n2, n3, n4⟩ := nm_of o h1
      exact js_set o.mono n1 n2 n3 n4 (sE e o h4) (sE kx o h2) (slice_no h3) (sws_plain h5) rfl
    · cases h
  | .pop i j, st, h => by
    unfold chkS at h; split at h
    · simp only [Bool.and_eq_true, beq_iff_eq] at h
      obtain ⟨⟨⟨h1, h2⟩, h3⟩, h4⟩ := h
      obtain ⟨n1, n2, n3, n4⟩ := nm_of o h2
      obtain ⟨l1, l2, l3⟩ := lc_of o h1
      subst h3
      exact js_pop o.mono o.nd l1 l2 l3 n1 n2 n3 n4 (by simpa using h4)
    · cases h
  | .mapp l e, st, h => by
    unfold chkS at h; split at h
    · simp only [Bool.and_eq_true, beq_iff_eq] at h
      obtain ⟨⟨⟨⟨⟨h1, h2⟩, h3⟩, h4⟩, h5⟩, h6⟩ := h
      subst h1
      exact js_mapp o.mono (sE l o h2) (sE e o h4) (star1 h5) (by rename_i x _ _ _ _; cases x <;> first | rfl | cases h3) (by simpa using h6)
    · cases h
  | .mset l kx e, st, h => by
    unfold chkS at h; split at h
    · simp only [Bool.and_eq_true] at h
      obtain ⟨⟨⟨⟨h1, h2⟩, h3⟩, h4⟩, h5⟩ := h
      exact js_mset o.mono (sE l o h1) (sE kx o h2) (sE e o h4) (slice_no h3) (sws_plain h5) rfl
    · cases h
  | .dset l kx e, st, h => by
    unfold chkS at h; split at h
    · simp only [Bool.and_eq_true] at h
      obtain ⟨⟨⟨⟨h1, h2⟩, h3⟩, h4⟩, h5⟩ := h
      exact js_dset o.mono o.hu (sE l o h1) (sE kx o h2) (sE e o h4) (slice_no h3) (sws_plain h5) rfl
    · cases h
  | .maug l kx op e, st, h => by
    unfold chkS at h; split at h
    · simp only [Bool.and_eq_true] at h
      obtain ⟨⟨⟨⟨h1, h2⟩, h3⟩, h4⟩, h5⟩ := h
      rw [bop_eq h4]
      exact js_maug o.mono (sE l o h1) (sE kx o h2) (sE e o h5) (slice_no h3)
    · cases h
  | .ite c a b, st, h => by
    unfold chkS at h; split at h
    · obtain ⟨h1, h3⟩ := and2 h
      obtain ⟨h1, h2⟩ := and2 h1
      exact js_ite o.mono (sT c o h1) (sSs o t a h2) (sSs o t b h3)
    · cases h
  | .whl c b, st, h => by
    unfold chkS at h; split at h
    · obtain ⟨h1, h2⟩ := and2 h
      exact js_whl o.mono t.own (sT c o h1) (sSs o t b h2)
    · cases h
  | .for_ tg it b, st, h => by
    unfold chkS at h; split at h
    · obtain ⟨h1, h4⟩ := and2 h
      obtain ⟨h1, h3⟩ := and2 h1
      obtain ⟨h1, h2⟩ := and2 h1
      exact js_for o.mono t.own o.calm (sI it o h2) (g_of o h1) (sSs o t b h4) (set_fold h3)
    · cases h
  | .dead, st, h => js_dead
theorem sSs (o : CxOk X C F RX W k) (t : TopOk X) : ∀ (is : List IS) {st : List Stmt}, chkSs C is st = true → PSs X st (liftS X.K RX W (wSs F is))
  | [], [], _ => js_nil'
  | [], _ :: _, h => by simp [chkSs] at h
  | _ :: _, [], h => by simp [chkSs] at h
  | i :: is, s :: ss, h => by
    simp only [chkSs, Bool.and_eq_true] at h
    exact js_cons' o.mono (sS o t i h.1) (sSs o t is h.2)
end
end
end DL
/-! Defs, and the whole text. -/
namespace DL
open PySem PySem.Spec PyProof.Rows L2

theorem lookup_zip_some {us : List Value} : ∀ {ps : List Str} {n : Str}, us.length = ps.length → n ∈ ps → ((ps.zip us).lookup n).isSome = true := by
  induction us with
  | nil => intro ps n h hn; cases ps <;> simp_all
  | cons u us ih =>
    intro ps n h hn
    cases ps with
    | nil => cases hn
    | cons p ps =>
      rw [List.zip_cons_cons, List.lookup_cons]
      by_cases e : (n == p) = true
      · rw [e]; rfl
      · have e' : (n == p) = false := by simpa using e
        rw [e']
        refine ih (by simpa using h) ?_
        rcases List.mem_cons.mp hn with z | z
        · subst z; simp at e
        · exact z
theorem filterMap_zip {us : List Value} : ∀ {ps : List Str}, us.length = ps.length → ps.Nodup → ps.filterMap (fun n => ((ps.zip us).lookup n).map fun v => (n, v)) = ps.zip us := by
  have gen : ∀ (us : List Value) (ps : List Str) (l : List (Str × Value)), us.length = ps.length → ps.Nodup → (∀ n ∈ ps, l.lookup n = (ps.zip us).lookup n) → ps.filterMap (fun n => (l.lookup n).map fun v => (n, v)) = ps.zip us := by
    intro us
    induction us with
    | nil => intro ps l h nd hl; cases ps <;> simp_all
    | cons u us ih =>
      intro ps l h nd hl
      cases ps with
      | nil => simp at h
      | cons p ps =>
        have h1 : l.lookup p = some u := by rw [hl p (by simp)]; simp
        rw [List.filterMap_cons, h1]
        show (p, u) :: _ = (p, u) :: _
        congr 1
        have nd' := List.nodup_cons.mp nd
        refine ih ps l (by simpa using h) nd'.2 fun n hn => ?_
        rw [hl n (List.mem_cons_of_mem _ hn), List.zip_cons_cons, List.lookup_cons]
        have : (n == p) = false := by simpa using fun z => nd'.1 (by rw [← z]; exact hn)
        rw [this]
  intro ps h nd
  exact gen us ps _ h nd fun _ _ => rfl
theorem bind_plain {fd : FuncData} {as : List Arg} {us : List Value} (hp : fd.params = { posonlyargs := [], args := as, vararg := none, kwonlyargs := [], kw_defaults := [], kwarg := none, defaults := [] }) (hd : fd.defaults = .none)
    (hl : us.length = as.length) (nd : (as.map (·.arg)).Nodup) : bindArgs fd ⟨us, []⟩ = pure ((as.map (·.arg)).zip us) := by
  have hl' : us.length = (as.map (·.arg)).length := by simpa using hl
  have hm : ((as.map (·.arg)).filter fun n => (((as.map (·.arg)).zip us).lookup n).isNone) = [] := by
    rw [List.filter_eq_nil_iff]
    intro n hn
    have := lookup_zip_some hl' hn
    simp only [Option.isNone_iff_eq_none]
    intro z; rw [z] at this; cases this
  have hf := filterMap_zip hl' nd
  unfold bindArgs
  rw [hp, hd]
  simp only [List.map_nil, List.nil_append, List.append_nil, List.length_map]
  have hg : ¬ (us.length > as.length) := by omega
  have hf' : as.filterMap ((fun n => Option.map (fun v => (n, v)) (List.lookup n ((as.map fun x => x.arg).zip us))) ∘ fun x => x.arg) = (as.map fun x => x.arg).zip us := by
    rw [← List.filterMap_map]; exact hf
  have e1 : List.take (as.length - (List.drop ((#[] : Array Value).size - as.length) ([] : List Value)).length) (as.map fun x => x.arg) = as.map fun x => x.arg := by
    simp [List.take_of_length_le]
  simp [seqItems?, hg, hm]
  rw [if_neg (by rw [e1, hm]; simp), hf']
  rfl

/-! ### a def of the text -/
def sLst (xs : List String) : List Str := xs.map fun (s : String) => (s : Str)
def nodB : List Str → Bool
  | [] => true
  | x :: xs => !(xs.any fun y => y == x) && nodB xs
theorem nodB_ok : ∀ {xs : List Str}, nodB xs = true → xs.Nodup
  | [], _ => List.nodup_nil
  | x :: xs, h => by
    simp only [nodB, Bool.and_eq_true, Bool.not_eq_true', List.any_eq_false, beq_iff_eq] at h
    exact List.nodup_cons.mpr ⟨fun hx => h.1 x hx rfl, nodB_ok h.2⟩
def argsB (a : Arguments) (ps : List Str) : Bool :=
  a.posonlyargs.isEmpty && a.vararg.isNone && a.kwonlyargs.isEmpty && a.kw_defaults.isEmpty && a.kwarg.isNone && a.defaults.isEmpty && (a.args.map (·.arg) == ps)
/-- the def at st is the def fn -/
def fnB (P : List Fn) (gl : List (String × D)) (fn : Fn) (st : Stmt) : Bool :=
  let N := sLst fn.slots
  let ps := N.take fn.arity
  let sc := defScope st
  (sc.kind == .function) && !sc.isCoroutine && !sc.isGenerator && nodB N && (ps.length == fn.arity) && (ps.all fun x => locK (sc.names.lookup x)) && (sc.names.all fun y => !(y.2 == .free)) && argsB (defArgs st) ps &&
    chkSs ⟨N, sc.names, P, gl⟩ fn.body (defBody st)
section
variable {P : List Fn} {gl : List (String × D)} {fn : Fn} {st : Stmt}
theorem fnB_scope (h : fnB P gl fn st = true) : FnScope (sLst fn.slots) ((sLst fn.slots).take fn.arity) (defScope st) ∧ argsB (defArgs st) ((sLst fn.slots).take fn.arity) = true ∧
    chkSs ⟨sLst fn.slots, (defScope st).names, P, gl⟩ fn.body (defBody st) = true ∧ ((sLst fn.slots).take fn.arity).length = fn.arity := by
  unfold fnB at h
  simp only [Bool.and_eq_true, Bool.not_eq_true', beq_iff_eq] at h
  obtain ⟨⟨⟨⟨⟨⟨⟨⟨h1, h2⟩, h3⟩, h4⟩, h5⟩, h6⟩, h7⟩, h8⟩, h9⟩ := h
  refine ⟨⟨h1, h2, h3, nodB_ok h4, ?_, fun x hx => ?_, fun y hy => ?_⟩, h8, h9, h5⟩
  · rw [h5]
  · have := List.all_eq_true.mp h6 x hx
    unfold locK at this
    split at this
    · rename_i e; exact .inl e
    · rename_i e; exact .inr e
    · cases this
  · have := List.all_eq_true.mp h7 y hy
    simpa using this
theorem args_of {a : Arguments} {ps : List Str} (h : argsB a ps = true) : ∃ as : List Arg, a = { posonlyargs := [], args := as, vararg := none, kwonlyargs := [], kw_defaults := [], kwarg := none, defaults := [] } ∧ as.map (·.arg) = ps := by
  unfold argsB at h
  simp only [Bool.and_eq_true, beq_iff_eq, List.isEmpty_iff, Option.isNone_iff_eq_none] at h
  obtain ⟨⟨⟨⟨⟨⟨h1, h2⟩, h3⟩, h4⟩, h5⟩, h6⟩, h7⟩ := h
  refine ⟨a.args, ?_, h7⟩
  cases a
  simp only at h1 h2 h3 h4 h5 h6
  subst h1 h2 h3 h4 h5 h6
  rfl
theorem fnB_binds {K : PySem.W.Frag} {x : Str} {f : Addr} {fd : FuncData} (h : fnB P gl fn st = true) (Fn : L2.Fun K x x st f fd) : Binds K fd ((sLst fn.slots).take fn.arity) [] := by
  obtain ⟨sc, ha, _, _⟩ := fnB_scope h
  obtain ⟨as, e, hp⟩ := args_of ha
  refine Fn.binds fun kV doc pm an cdv ct us hl => ?_
  rw [← hp] at hl ⊢
  have nd : (as.map (·.arg)).Nodup := by
    rw [hp]; exact sc.nd.sublist (List.take_sublist _ _)
  exact bind_plain e rfl (by simpa using hl) nd
end
/-- where the defs of the text stand -/
structure At (K : PySem.W.Frag) (mg : Str → Option Value) (fn : Fn) (st : Stmt) : Prop where
  ex : ∃ f fd, mg fn.name = some (.ref f) ∧ L2.Fun K fn.name fn.name st f fd
def Ats (K : PySem.W.Frag) (mg : Str → Option Value) : List (Fn × Stmt) → Prop
  | [] => True
  | (fn, st) :: r => At K mg fn st ∧ Ats K mg r
theorem Ats.get {K : PySem.W.Frag} {mg : Str → Option Value} : ∀ {T : List (Fn × Stmt)} {i : Nat} {fn : Fn}, Ats K mg T → (T.map (·.1))[i]? = some fn → ∃ st, (fn, st) ∈ T ∧ At K mg fn st
  | [], _, _, _, e => by simp at e
  | (fn, st) :: r, 0, _, h, e => by
    simp at e; subst e
    exact ⟨st, List.mem_cons_self, h.1⟩
  | (_, _) :: r, i + 1, _, h, e => by
    obtain ⟨st, h1, h2⟩ := Ats.get (T := r) (i := i) h.2 (by simpa using e)
    exact ⟨st, List.mem_cons_of_mem _ h1, h2⟩
/-- the text -/
structure Tx (T : List (Fn × Stmt)) (gl : List (String × D)) : Prop where
  ok : (T.all fun p => fnB (T.map (·.1)) gl p.1 p.2) = true
section
variable {T : List (Fn × Stmt)} {gl : List (String × D)} {Pg : Program} {w : World} {K : PySem.W.Frag} {mg : Str → Option Value} {base : Heap} {RX : RXT}
theorem start_ok {H : Hp} {M : Mem} {ds : List D} {vs : List V} {N : List Str} {m : Nat} (hm : m = N.length - ds.length) (r : Reps K H ds vs) (hM : MemOk K H M) : StE K (L2.start N vs) H (ds.map Slot.val ++ List.replicate m .no) M where
  len := by simp [L2.start, hm, r.length]
  vals := fun i d e => by
    by_cases hi : i < ds.length
    · rw [List.getElem?_append_left (by simpa using hi), List.getElem?_map] at e
      cases e2 : ds[i]? with
      | none => rw [e2] at e; cases e
      | some d' =>
        rw [e2] at e
        simp only [Option.map_some, Option.some.injEq, Slot.val.injEq] at e
        subst e
        obtain ⟨v, h1, h2⟩ := r.get e2
        refine ⟨v, ?_, h2⟩
        unfold L2.start
        rw [List.getElem?_append_left (by rw [List.length_map, ← r.length]; exact hi), List.getElem?_map, h1]; rfl
    · rw [List.getElem?_append_right (by simpa using hi)] at e
      have := List.mem_of_getElem? e
      cases List.eq_of_mem_replicate this
  owns := fun i p o e => by
    by_cases hi : i < ds.length
    · rw [List.getElem?_append_left (by simpa using hi), List.getElem?_map] at e
      cases e2 : ds[i]? with
      | none => rw [e2] at e; cases e
      | some d' => rw [e2] at e; cases e
    · rw [List.getElem?_append_right (by simpa using hi)] at e
      have := List.mem_of_getElem? e
      cases List.eq_of_mem_replicate this
  inj := fun i j p o o' e _ => by
    exfalso
    by_cases hi : i < ds.length
    · rw [List.getElem?_append_left (by simpa using hi), List.getElem?_map] at e
      cases e2 : ds[i]? with
      | none => rw [e2] at e; cases e
      | some d' => rw [e2] at e; cases e
    · rw [List.getElem?_append_right (by simpa using hi)] at e
      have := List.mem_of_getElem? e
      cases List.eq_of_mem_replicate this
  mem := hM
theorem no_own {ds : List D} {m : Nat} : ∀ (i : Nat) q o', (ds.map Slot.val ++ List.replicate m .no)[i]? = some (.own q o') → False := fun i p o e => by
  by_cases hi : i < ds.length
  · rw [List.getElem?_append_left (by simpa using hi), List.getElem?_map] at e
    cases e2 : ds[i]? with
    | none => rw [e2] at e; cases e
    | some d' => rw [e2] at e; cases e
  · rw [List.getElem?_append_right (by simpa using hi)] at e
    have := List.mem_of_getElem? e
    cases List.eq_of_mem_replicate this
/-- THE THEOREM: each def does what the small language says of it -/
theorem defs_ok (tx : Tx T gl) (at_ : Ats K mg T) (blt : ∀ x, x ∈ bltNames → mg x = none) (hgl : ∀ x d, gl.lookup x = some d → ∃ v u, mg x = some u ∧ RelV v u ∧ ∀ H, Rep K H d v) :
    ∀ (n f : Nat) (fn : Fn), (T.map (·.1))[f]? = some fn → ∀ st, (fn, st) ∈ T → ∀ a fd, L2.Fun K fn.name fn.name st a fd →
      FnOk Pg w K mg base (L2.CX Pg w) n a fd ((sLst fn.slots).take fn.arity) (spL K RX (wFn (T.map (·.1)) n f))
  | 0, f, fn, hf, st, hm, a, fd, h2 => ⟨fun vs H Q E h => (by obtain ⟨ds, M, _, _, w⟩ := h; exact w.elim), fun A outer s H args us vs Q E _ _ _ _ h => (by obtain ⟨ds, M, _, _, w⟩ := h; exact w.elim)⟩
  | n + 1, f, fn, hf, st, hm, a, fd, h2 => by
    have hb := List.all_eq_true.mp tx.ok _ hm
    obtain ⟨sc, _, hc, hlen⟩ := fnB_scope hb
    refine h2.okX sc (fun vs H Q E h => ?_) (fun cdv A outer s H vs Q E hr h => ?_)
    · obtain ⟨ds, M, hr, hM, fn', hf', hl, _⟩ := h
      rw [hf] at hf'; cases hf'
      rw [← hr.length, hl, hlen]
    · obtain ⟨ds, M, hrp, hM, fn', hf', hl, q⟩ := h
      rw [hf] at hf'; cases hf'
      have tk : Takes (cxOf (L2.CX Pg w) Pg w K mg base (sLst fn.slots) fn.name (defScope st) a cdv A outer s H E) (fun cls d _ H => E cls d H) := takes_of rfl rfl rfl rfl
      have ow : PassesOwn (model Pg w) (cxOf (L2.CX Pg w) Pg w K mg base (sLst fn.slots) fn.name (defScope st) a cdv A outer s H E).A (cxOf (L2.CX Pg w) Pg w K mg base (sLst fn.slots) fn.name (defScope st) a cdv A outer s H E).env (cxOf (L2.CX Pg w) Pg w K mg base (sLst fn.slots) fn.name (defScope st) a cdv A outer s H E).xe := passes_of rfl
      have o : CxOk (cxOf (L2.CX Pg w) Pg w K mg base (sLst fn.slots) fn.name (defScope st) a cdv A outer s H E) ⟨sLst fn.slots, (defScope st).names, T.map (·.1), gl⟩ (wFn (T.map (·.1)) n) RX (fun cls d _ H => E cls d H) n :=
        { N := rfl, nd := sc.nd, loc := fun x h => h, cel := fun x h => ⟨h, rfl⟩, fre := fun x h => .inr h, glo := fun x h => h, calm := rfl, room := hr, mono := wFn_mono _ n, tk := tk,
          cal := fun g gn hg => by
            obtain ⟨st', hm', ⟨a', fd', g1, g2⟩⟩ := Ats.get at_ hg
            exact ⟨a', fd', _, g1, g2.kp, fnB_binds (List.all_eq_true.mp tx.ok _ hm') g2, defs_ok tx at_ blt hgl n g gn hg st' hm' a' fd' g2⟩
          blt := blt, gl := hgl }
      refine ⟨_, sSs o ⟨sc.kind, ow⟩ fn.body hc, _, M, Fg [] H M, start_ok (N := sLst fn.slots) (by simp [sLst]) hrp hM, fun b u e => ?_, wSs_mono (wFn_mono _ n) fn.body ?_ q⟩
      · obtain ⟨k1, k2, _⟩ := Fg_bo b u e
        exact ⟨k1, k2, fun i q o' e' => (no_own i q o' e').elim⟩
      · have fin : ∀ {H' : Hp} {M1 M2 : Mem}, BR (Fg [] H M) H' M1 → Sub M2 M1 → Ext [] H M H' M2 := fun b sb c u e nM k => by
          obtain ⟨k1, k2⟩ := b c u (Fg_in e nM fun i q o' e' => by simp at e')
          exact ⟨k1, sb.none k2⟩
        exact ⟨fun e m ⟨M2, sb, q⟩ σ' H' s' b' => q .non H' (fin b'.br sb) (fun c u e => s'.mem c u (sb c u e)) rfl,
          fun d m ⟨M2, sb, q⟩ v H' m' b' r => q v H' (fin b' sb) (fun c u e => m' c u (sb c u e)) r,
          fun _ _ z => z.elim, fun _ _ z => z.elim,
          fun x e m ⟨M2, sb, q⟩ c dd σ' H' s' b' rx => q c dd H' (fin b'.br sb) (fun c u e => s'.mem c u (sb c u e)) rx⟩
end
end DL
/-! The law's own end. -/
namespace DL
open PySem PySem.Spec PyProof.Rows L2

theorem at_mk {K : PySem.W.Frag} {h : Heap} {mg : Str → Option Value} {fn : Fn} {st : Stmt} {x : String} {f : Addr} {od an : Option Addr} {sl : Array (Option Value)} {oc kV dc pm cd ct : Value} (hx : fn.name = x) (X : K.In h) (G : h.Ns mainGlobals mg)
    (a : PySem.W.nsIn K mainGlobals (x : Str) = some (some (.ref f))) (l : K.lookup f = some ⟨oc, od, .func (PySem.W.fnOf (x : Str) (x : Str) (defArgs st) (defBody st) (defScope st) .none kV dc pm an cd ct), sl⟩)
    (c : PySem.W.codeIn K cd (x : Str) = true) (k : PySem.W.keepIn K (.ref f) = true) : At K mg fn st := by
  subst hx
  exact ⟨f, _, PySem.W.mg_of X G a, fun_mk l c k⟩
theorem Ats.nil' {K : PySem.W.Frag} {mg : Str → Option Value} : Ats K mg [] := trivial
theorem Ats.cons' {K : PySem.W.Frag} {mg : Str → Option Value} {fn : Fn} {st : Stmt} {r : List (Fn × Stmt)} (h : At K mg fn st) (hr : Ats K mg r) : Ats K mg ((fn, st) :: r) := ⟨h, hr⟩
/-- names that are not written -/
def Nos (K : PySem.W.Frag) : List String → Prop
  | [] => True
  | x :: r => PySem.W.nsIn K mainGlobals (x : Str) = some none ∧ Nos K r
theorem nos_ok {K : PySem.W.Frag} {h : Heap} {mg : Str → Option Value} (X : K.In h) (G : h.Ns mainGlobals mg) : ∀ {xs : List String}, Nos K xs → ∀ y ∈ sLst xs, mg y = none
  | [], _, y, hy => by simp [sLst] at hy
  | x :: xs, n, y, hy => by
    rcases List.mem_cons.mp hy with z | z
    · subst z; exact PySem.W.mg_none_of X G n.1
    · exact nos_ok X G n.2 y z
/-! a written value stands for a datum -/
mutual
def repV (K : PySem.W.Frag) : D → Value → Bool
  | .non, u => (match u with | .none => true | _ => false)
  | .bl b, u => (match u with | .bool c => b == c | _ => false)
  | .int i, u => (match u with | .int j _ => i == j | _ => false)
  | .str x, u => (match u with | .str y _ => x == y | _ => false)
  | .tup ds, u => (match u with
    | .ref a => (match K.lookup a with
      | some ⟨.type n, _, .seq its _, _⟩ => (n == "tuple") && decide (its.size ≤ sizeLine) && repVs K ds its.toList
      | _ => false)
    | _ => false)
  | _, _ => false
def repVs (K : PySem.W.Frag) : List D → List Value → Bool
  | [], [] => true
  | d :: ds, u :: us => repV K d u && repVs K ds us
  | _, _ => false
end
mutual
theorem repV_ok {K : PySem.W.Frag} : ∀ {d : D} {u : Value}, repV K d u = true → ∃ v, RelV v u ∧ ∀ H, Rep K H d v
  | .non, u, h => by
    unfold repV at h; split at h
    · exact ⟨.non, rfl, fun _ => rfl⟩
    · cases h
  | .bl b, u, h => by
    unfold repV at h; split at h
    · rw [beq_iff_eq] at h; subst h; exact ⟨.bl _, rfl, fun _ => rfl⟩
    · cases h
  | .int i, u, h => by
    unfold repV at h; split at h
    · rw [beq_iff_eq] at h; subst h; exact ⟨.int _, ⟨_, rfl⟩, fun _ => rfl⟩
    · cases h
  | .str x, u, h => by
    unfold repV at h; split at h
    · rw [beq_iff_eq] at h; subst h; exact ⟨.str _, ⟨_, rfl⟩, fun _ => rfl⟩
    · cases h
  | .tup ds, u, h => by
    unfold repV at h; split at h
    · rename_i a
      split at h
      · rename_i n dd its k sl e
        simp only [Bool.and_eq_true, beq_iff_eq, decide_eq_true_eq] at h
        obtain ⟨⟨rfl, h2⟩, h3⟩ := h
        obtain ⟨vs, h4, h5⟩ := repVs_ok h3
        exact ⟨.ref a, rfl, fun H => ⟨a, vs, rfl, .inr ⟨_, its, k, e, rfl, rfl, h2, h4⟩, h5 H⟩⟩
      · cases h
    · cases h
  | .ref _, u, h => by simp [repV] at h
  | .rl _, u, h => by simp [repV] at h
theorem repVs_ok {K : PySem.W.Frag} : ∀ {ds : List D} {us : List Value}, repVs K ds us = true → ∃ vs, Vals vs us ∧ ∀ H, Reps K H ds vs
  | [], [], _ => ⟨[], .nil, fun _ => rfl⟩
  | [], _ :: _, h => by simp [repVs] at h
  | _ :: _, [], h => by simp [repVs] at h
  | d :: ds, u :: us, h => by
    have h' : repV K d u = true ∧ repVs K ds us = true := by simpa [repVs] using h
    obtain ⟨v, h1, h2⟩ := repV_ok h'.1
    obtain ⟨vs, h3, h4⟩ := repVs_ok h'.2
    exact ⟨v :: vs, .cons h1 h3, fun H => ⟨v, vs, rfl, h2 H, h4 H⟩⟩
end
/-- the globals that are read -/
def Gls (K : PySem.W.Frag) : List (String × D) → Prop
  | [] => True
  | (x, d) :: r => (∃ u, PySem.W.nsIn K mainGlobals (x : Str) = some (some u) ∧ repV K d u = true) ∧ Gls K r
theorem gls_cons {K : PySem.W.Frag} {x : String} {d : D} {r : List (String × D)} {u : Value} (a : PySem.W.nsIn K mainGlobals (x : Str) = some (some u)) (b : repV K d u = true) (h : Gls K r) : Gls K ((x, d) :: r) := ⟨⟨u, a, b⟩, h⟩
theorem gls_ok {K : PySem.W.Frag} {h : Heap} {mg : Str → Option Value} (X : K.In h) (G : h.Ns mainGlobals mg) : ∀ {gl : List (String × D)}, Gls K gl → ∀ x d, gl.lookup x = some d → ∃ v u, mg x = some u ∧ RelV v u ∧ ∀ H, Rep K H d v
  | [], _, x, d, e => by cases e
  | (y, d') :: r, n, x, d, e => by
    rw [List.lookup_cons] at e
    split at e
    · rename_i h'
      cases e
      obtain ⟨u, h1, h2⟩ := n.1
      obtain ⟨v, h3, h4⟩ := repV_ok h2
      rw [beq_iff_eq] at h'
      subst h'
      exact ⟨v, u, PySem.W.mg_of X G h1, h3, h4⟩
    · exact gls_ok X G n.2 x d e
theorem law_F {T : List (Fn × Stmt)} {gl : List (String × D)} {l : PySem.W.OpenLaw} {w : World} {K : PySem.W.Frag} {h : Heap} {mg : Str → Option Value} {fa : Addr} {n f : Nat} {fn : Fn} {x : Str} (X : K.In h) (G : h.Ns mainGlobals mg) (tx : Tx T gl) (hf : (T.map (·.1))[f]? = some fn) (hn : mg fn.name = some (.ref fa))
    (hp : (sLst fn.slots).take fn.arity = [x]) (hat : Ats K mg T) (hno : Nos K ["len", "int", "bool", "abs", "max", "min", "tuple", "isinstance", "str", "all", "any", "sum", "list", "range", "zip", "enumerate", "reversed", "sorted", "dict", "repr"]) (hgl : Gls K gl) (RX : RXT) :
    ∃ fd : FuncData, (∀ (s : Shared) (v : Value), BindsTo s fd ⟨[v], []⟩ [(x, v)]) ∧ ∀ base : Heap, K.In base → base.Ns mainGlobals mg → FnOk l.prog w K mg base (L2.CX l.prog w) n fa fd [x] (spL K RX (wFn (T.map (·.1)) n f)) := by
  obtain ⟨st, hm, ⟨a, fd, h1, h2⟩⟩ := Ats.get hat hf
  have e := h1.symm.trans hn
  cases e
  refine ⟨fd, fun s v => ?_, fun base _ _ => ?_⟩
  · obtain ⟨sc, ha, _, _⟩ := fnB_scope (List.all_eq_true.mp tx.ok _ hm)
    obtain ⟨as, e, hq⟩ := args_of ha
    obtain ⟨oc, od, kV, doc, pm, an, cdv, ct, osl, rfl, lk, hcd⟩ := h2.ex
    have nd : (as.map (·.arg)).Nodup := by rw [hq]; exact sc.nd.sublist (List.take_sublist _ _)
    have hx : as.map (·.arg) = [x] := hq.trans hp
    have hl : as.length = 1 := by simpa using congrArg List.length hx
    refine .of_eq ?_
    have := bind_plain (fd := PySem.W.fnOf fn.name fn.name (defArgs st) (defBody st) (defScope st) .none kV doc pm an cdv ct) (as := as) (us := [v]) e rfl (by simp [hl]) nd
    rw [hx] at this
    exact this
  · rw [← hp]
    exact defs_ok tx hat (nos_ok X G hno) (gls_ok X G hgl) n f fn hf st hm _ fd h2
theorem law_sp {P : List Fn} {K : PySem.W.Frag} {RX : RXT} {n f : Nat} (h : ∀ ns : List Int, ns.length ≤ 63 → wFn P n f [.rl (ns.map D.int)] (fun _ => none) (fun d _ => d = .bl true) (fun _ _ => False))
    (H : Hp) (a : Addr) (ns : List Int) (hl : ns.length ≤ 63) (hO : Only H) (hS : SqL K H a (ns.map V.int)) : spL K RX (wFn P n f) [.ref a] H (fun v _ => v = .bl true) (fun _ _ _ => False) := by
  refine ⟨[.rl (ns.map D.int)], fun _ => none, ⟨_, _, rfl, ⟨a, ns.map V.int, rfl, ?_, ?_⟩, rfl⟩, fun a o e => by (cases e), wFn_mono P n |>.mono ?_ ?_ (h ns hl)⟩
  · rcases hS with (hS | ⟨o, hS⟩) | hS
    · rcases hO a with z | ⟨o, xs, z⟩
      · rw [hS] at z; cases z
      · rw [hS] at z; cases z
    · exact .inl ⟨o, hS⟩
    · exact .inr hS
  · clear hS h hl
    induction ns with
    | nil => rfl
    | cons n ns ih => exact ⟨_, _, rfl, rfl, ih⟩
  · intro d M' e v H' _ _ r
    subst e
    exact r
  · intro x M' e
    exact e.elim
theorem law_cx (P : Program) (w : World) (H : Hp) (s : Shared) (e : Value) (s' : Shared) (h : L2.CX P w [] H s (fun _ _ _ => False) e s') : False := by
  obtain ⟨a, B, H', cls, d, _, _, _, _, _, _, _, z⟩ := h
  exact z
end DL
/-! Reading the small language: lemmas for proofs about texts. -/
namespace DL
open PySem
inductive All2 (p : D → D → Prop) : List D → List D → Prop
  | nil : All2 p [] []
  | cons {x y : D} {xs ys : List D} : p x y → All2 p xs ys → All2 p (x :: xs) (y :: ys)
theorem All2.len {p : D → D → Prop} : ∀ {xs ys : List D}, All2 p xs ys → ys.length = xs.length
  | _, _, .nil => rfl
  | _, _, .cons _ h => by simp [h.len]
section
variable {F : FS} {P : List Fn} {n f : Nat} {fn : Fn} {ds : List D} {M : Mem} {Q : QE} {E : QX} {env : Env} {K : Kt}
def Kt0 (Q : QE) (E : QX) : Kt := { nx := fun _ M' => ∃ M'', Sub M'' M' ∧ Q .non M'', rt := fun d M' => ∃ M'', Sub M'' M' ∧ Q d M'', bk := fun _ _ => False, ct := fun _ _ => False, xc := fun x _ M' => ∃ M'', Sub M'' M' ∧ E x M'' }
theorem Sub.rf (M : Mem) : Sub M M := fun _ _ e => e
theorem Sub.noneL {M M' : Mem} {p : Nat} (s : Sub M' M) (h : M p = Option.none) : M' p = Option.none := by
  cases e : M' p with
  | none => rfl
  | some o => rw [s p o e] at h; cases h
theorem Kt0_rt {d : D} : (Kt0 Q E).rt d M = ∃ M'', Sub M'' M ∧ Q d M'' := rfl
theorem Kt0_nx {e : Env} : (Kt0 Q E).nx e M = ∃ M'', Sub M'' M ∧ Q .non M'' := rfl
/-- a call of a def -/
theorem enter (hf : P[f]? = some fn) (hl : ds.length = fn.arity) (h : wSs (wFn P n) fn.body (ds.map Slot.val ++ List.replicate (fn.slots.length - ds.length) .no) M (Kt0 Q E)) : wFn P (n + 1) f ds M Q E := ⟨fn, hf, hl, h⟩
theorem leave {d : D} (h : Q d M) : ∃ M'', Sub M'' M ∧ Q d M'' := ⟨M, Sub.rf M, h⟩
theorem ss_cons {s : IS} {ss : List IS} : wSs F (s :: ss) env M K = wS F s env M { K with nx := fun e m => wSs F ss e m K } := by rw [wSs]
theorem ss_nil : wSs F [] env M K = K.nx env M := by rw [wSs]
/-! ### comparisons by kind -/
theorem cmp_eq_int {i j : Int} {R : Bool → Prop} : wCmp .eq (.int i) (.int j) M R = R (decide (i = j)) := by
  simp [wCmp, D.flat, D.eqv]
theorem cmp_ne_int {i j : Int} {R : Bool → Prop} : wCmp .ne (.int i) (.int j) M R = R (!decide (i = j)) := by
  simp [wCmp, D.flat, D.eqv]
theorem cmp_eq_str {i j : Str} {R : Bool → Prop} : wCmp .eq (.str i) (.str j) M R = R (decide (i = j)) := by simp [wCmp]
theorem cmp_ne_str {i j : Str} {R : Bool → Prop} : wCmp .ne (.str i) (.str j) M R = R (!decide (i = j)) := by simp [wCmp]
theorem cmp_eq_tup {xs ys : List D} {R : Bool → Prop} : wCmp .eq (.tup xs) (.tup ys) M R = ((D.flat 60 (.tup xs) = true ∧ D.flat 60 (.tup ys) = true) ∧ R (D.eqvs xs ys)) := by simp [wCmp, D.eqv]
theorem cmp_ne_tup {xs ys : List D} {R : Bool → Prop} : wCmp .ne (.tup xs) (.tup ys) M R = ((D.flat 60 (.tup xs) = true ∧ D.flat 60 (.tup ys) = true) ∧ R (!D.eqvs xs ys)) := by simp [wCmp, D.eqv]
theorem cmp_eq_bl {a b : Bool} {R : Bool → Prop} : wCmp .eq (.bl a) (.bl b) M R = R (a == b) := by simp [wCmp, D.flat, D.eqv]
theorem cmp_eq_ref {a b : Nat} {R : Bool → Prop} : wCmp .eq (.ref a) (.ref b) M R = ∃ xs ys, M a = some (.lst xs) ∧ M b = some (.lst ys) ∧ (D.flats 58 xs = true ∧ D.flats 58 ys = true) ∧ R (D.eqvs xs ys) := rfl
theorem cmp_ne_ref {a b : Nat} {R : Bool → Prop} : wCmp .ne (.ref a) (.ref b) M R = ∃ xs ys, M a = some (.lst xs) ∧ M b = some (.lst ys) ∧ (D.flats 58 xs = true ∧ D.flats 58 ys = true) ∧ R (!D.eqvs xs ys) := rfl
theorem cmp_lt {i j : Int} {R : Bool → Prop} : wCmp .lt (.int i) (.int j) M R = R (decide (i < j)) := by simp [wCmp]
theorem cmp_le {i j : Int} {R : Bool → Prop} : wCmp .le (.int i) (.int j) M R = R (decide (i ≤ j)) := by simp [wCmp]
theorem cmp_gt {i j : Int} {R : Bool → Prop} : wCmp .gt (.int i) (.int j) M R = R (decide (j < i)) := by simp [wCmp]
theorem cmp_ge {i j : Int} {R : Bool → Prop} : wCmp .ge (.int i) (.int j) M R = R (decide (j ≤ i)) := by simp [wCmp]
theorem aug_add_int {i j : Int} {R : D → Prop} : wAug .add (.int i) (.int j) R = R (.int (i + j)) := by simp [wAug, wBin]
theorem aug_sub_int {i j : Int} {R : D → Prop} : wAug .sub (.int i) (.int j) R = R (.int (i - j)) := by simp [wAug, wBin]
theorem aug_mul_int {i j : Int} {R : D → Prop} : wAug .mul (.int i) (.int j) R = (CMulD i j ∧ R (.int (i * j))) := by simp [wAug, wBin]
theorem aug_add_str {i j : Str} {R : D → Prop} : wAug .add (.str i) (.str j) R = (i.length + j.length ≤ sizeLine ∧ R (.str (i ++ j))) := by simp [wAug, wBin]
/-! ### the small operations, one by one -/
theorem tg_nm {i : Nat} {d : D} {e : Env} {R : Env → Prop} : wTg (.nm i) d e R = R (e.set i (.val d)) := rfl
theorem tg_tp {is : List Nat} {xs : List D} {e : Env} {R : Env → Prop} : wTg (.tp is) (.tup xs) e R = (xs.length = is.length ∧ R (setAll e is xs)) := rfl
theorem tru_non {R : Bool → Prop} : wTru .non M R = R false := rfl
theorem tru_bl {b : Bool} {R : Bool → Prop} : wTru (.bl b) M R = R b := rfl
theorem tru_int {i : Int} {R : Bool → Prop} : wTru (.int i) M R = R (i != 0) := rfl
theorem tru_str {x : Str} {R : Bool → Prop} : wTru (.str x) M R = (x.length ≤ sizeLine ∧ R ((x.length : Int) != 0)) := rfl
theorem tru_tup {xs : List D} {R : Bool → Prop} : wTru (.tup xs) M R = R (!xs.isEmpty) := rfl
theorem tru_ref {a : Nat} {R : Bool → Prop} : wTru (.ref a) M R = ∃ xs, M a = some (.lst xs) ∧ R (!xs.isEmpty) := rfl
theorem bin_add_int {i j : Int} {R : D → Prop} : wBin .add (.int i) (.int j) R = R (.int (i + j)) := rfl
theorem bin_add_str {i j : Str} {R : D → Prop} : wBin .add (.str i) (.str j) R = (i.length + j.length ≤ sizeLine ∧ R (.str (i ++ j))) := rfl
theorem bin_add_tup {i j : List D} {R : D → Prop} : wBin .add (.tup i) (.tup j) R = (i.length + j.length ≤ sizeLine ∧ R (.tup (i ++ j))) := rfl
theorem bin_sub {i j : Int} {R : D → Prop} : wBin .sub (.int i) (.int j) R = R (.int (i - j)) := rfl
theorem bin_mul {i j : Int} {R : D → Prop} : wBin .mul (.int i) (.int j) R = (CMulD i j ∧ R (.int (i * j))) := rfl
theorem bin_fdiv {i j : Int} {R : D → Prop} : wBin .fdiv (.int i) (.int j) R = (DivOk j ∧ R (.int (i / j))) := rfl
theorem bin_mod {i j : Int} {R : D → Prop} : wBin .mod (.int i) (.int j) R = (0 < j ∧ R (.int (i % j))) := rfl
theorem bin_pow {i j : Int} {R : D → Prop} : wBin .pow (.int i) (.int j) R = ((0 ≤ j ∧ j ≤ 1000000 ∧ i.natAbs < 2 ^ 64) ∧ R (.int (i ^ j.toNat))) := rfl
theorem bin_shl {i j : Int} {R : D → Prop} : wBin .shl (.int i) (.int j) R = ((0 ≤ j ∧ j ≤ 1000000 ∧ i.natAbs < 2 ^ 64) ∧ R (.int (i * 2 ^ j.toNat))) := rfl
theorem bin_shr {i j : Int} {R : D → Prop} : wBin .shr (.int i) (.int j) R = (0 ≤ j ∧ R (.int (i / 2 ^ j.toNat))) := rfl
theorem bin_band {i j : Int} {R : D → Prop} : wBin .band (.int i) (.int j) R = R (.int (Builtin.bitAnd i j)) := rfl
theorem bin_bor {i j : Int} {R : D → Prop} : wBin .bor (.int i) (.int j) R = R (.int (Builtin.bitOr i j)) := rfl
theorem idx_tup {xs : List D} {i : Int} {R : D → Prop} : wIdx (.tup xs) (.int i) M R = ∃ v, L2.atI xs i = some v ∧ R v := rfl
theorem idx_ref {a : Nat} {i : Int} {R : D → Prop} : wIdx (.ref a) (.int i) M R = ∃ xs v, M a = some (.lst xs) ∧ L2.atI xs i = some v ∧ R v := rfl
theorem idx_str {z : Str} {i : Int} {R : D → Prop} : wIdx (.str z) (.int i) M R = (z.length ≤ sizeLine ∧ ∃ c, L2.atI z.cps.toList i = some c ∧ R (.str ⟨#[c]⟩)) := rfl
theorem blt_len_tup {xs : List D} {R : D → Prop} : wBlt .len [.tup xs] M R = R (.int xs.length) := rfl
theorem blt_len_str {x : Str} {R : D → Prop} : wBlt .len [.str x] M R = (x.length ≤ sizeLine ∧ R (.int x.length)) := rfl
theorem blt_len_ref {a : Nat} {R : D → Prop} : wBlt .len [.ref a] M R = ∃ xs, M a = some (.lst xs) ∧ R (.int xs.length) := rfl
theorem blt_int_int {i : Int} {R : D → Prop} : wBlt .int [.int i] M R = R (.int i) := rfl
theorem blt_int_bl {b : Bool} {R : D → Prop} : wBlt .int [.bl b] M R = R (.int (if b then 1 else 0)) := rfl
theorem blt_bool_bl {b : Bool} {R : D → Prop} : wBlt .bool [.bl b] M R = R (.bl b) := rfl
theorem blt_bool_int {i : Int} {R : D → Prop} : wBlt .bool [.int i] M R = R (.bl (i != 0)) := rfl
theorem blt_abs {i : Int} {R : D → Prop} : wBlt .abs [.int i] M R = R (.int (if i < 0 then -i else i)) := rfl
theorem blt_max2 {i j : Int} {R : D → Prop} : wBlt .max [.int i, .int j] M R = R (.int (max i j)) := rfl
theorem blt_max3 {i j k : Int} {R : D → Prop} : wBlt .max [.int i, .int j, .int k] M R = R (.int (max (max i j) k)) := rfl
theorem blt_min2 {i j : Int} {R : D → Prop} : wBlt .min [.int i, .int j] M R = R (.int (min i j)) := rfl
theorem blt_tuple_tup {xs : List D} {R : D → Prop} : wBlt .tuple [.tup xs] M R = R (.tup xs) := rfl
theorem blt_tuple_ref {a : Nat} {R : D → Prop} : wBlt .tuple [.ref a] M R = ∃ xs, M a = some (.lst xs) ∧ R (.tup xs) := rfl
theorem blt_isa_non {t : Ty} {R : D → Prop} : wBlt (.isa t) [.non] M R = R (.bl (D.isa .non t)) := rfl
theorem blt_isa_bl {t : Ty} {b : Bool} {R : D → Prop} : wBlt (.isa t) [.bl b] M R = R (.bl (D.isa (.bl b) t)) := rfl
theorem blt_isa_int {t : Ty} {i : Int} {R : D → Prop} : wBlt (.isa t) [.int i] M R = R (.bl (D.isa (.int i) t)) := rfl
theorem blt_isa_str {t : Ty} {x : Str} {R : D → Prop} : wBlt (.isa t) [.str x] M R = R (.bl (D.isa (.str x) t)) := rfl
theorem blt_isa_tup {t : Ty} {xs : List D} {R : D → Prop} : wBlt (.isa t) [.tup xs] M R = R (.bl (D.isa (.tup xs) t)) := rfl
theorem isa_int_int {i : Int} : D.isa (.int i) .int = true := rfl
theorem isa_int_bool {i : Int} : D.isa (.int i) .bool = false := rfl
theorem isa_bl_bool {b : Bool} : D.isa (.bl b) .bool = true := rfl
theorem isa_tup {xs : List D} : D.isa (.tup xs) .tuple = true := rfl
theorem isa_str {x : Str} : D.isa (.str x) .str = true := rfl
theorem lk_tuple {xs : List D} {R : D → Prop} : wLK .tuple xs R = R (.tup xs) := rfl
theorem lk_len {xs : List D} {R : D → Prop} : wLK .len xs R = R (.int xs.length) := rfl
theorem lk_all {xs : List D} {R : D → Prop} : wLK .all xs R = ∃ b, allBl xs = some b ∧ R (.bl b) := rfl
theorem lk_any {xs : List D} {R : D → Prop} : wLK .any xs R = ∃ b, anyBl xs = some b ∧ R (.bl b) := rfl
theorem lk_sum {xs : List D} {R : D → Prop} : wLK .sum xs R = ∃ b, sumD xs = some b ∧ R (.int b) := rfl
theorem it_tup {xs : List D} {R : List D → (Env → Mem → Prop) → Prop} : wIt (.tup xs) M R = R xs fun _ _ => True := rfl
theorem it_rl {xs : List D} {R : List D → (Env → Mem → Prop) → Prop} : wIt (.rl xs) M R = R xs fun _ _ => True := rfl
theorem it_ref {a : Nat} {R : List D → (Env → Mem → Prop) → Prop} : wIt (.ref a) M R = ∃ xs, M a = some (.lst xs) ∧ R xs fun _ M' => M' a = some (.lst xs) := rfl
theorem zip_tup {xs ys : List D} {R : List D → (Env → Mem → Prop) → Prop} : wZip (.tup xs) (.tup ys) M R = R (List.zipWith (fun u v => .tup [u, v]) xs ys) fun _ _ => True := rfl
theorem enum_tup {xs : List D} {R : List D → (Env → Mem → Prop) → Prop} : wEnum (.tup xs) M R = R (xs.mapIdx fun i x => .tup [.int i, x]) fun _ _ => True := rfl
theorem enum_ref {a : Nat} {R : List D → (Env → Mem → Prop) → Prop} : wEnum (.ref a) M R = ∃ xs, M a = some (.lst xs) ∧ R (xs.mapIdx fun i x => .tup [.int i, x]) fun _ M' => M' a = some (.lst xs) := rfl
theorem rev_tup {xs : List D} {R : List D → (Env → Mem → Prop) → Prop} : wRevIt (.tup xs) M R = R xs.reverse fun _ _ => True := rfl
theorem rev_ref {a : Nat} {R : List D → (Env → Mem → Prop) → Prop} : wRevIt (.ref a) M R = ∃ xs, M a = some (.lst xs) ∧ R xs.reverse fun _ M' => M' a = some (.lst xs) := rfl
theorem ty_split {x : Str} : wTy .split (.str x) M = True := by simp [wTy, Mth.lst]
theorem ty_join {x : Str} : wTy .join (.str x) M = True := by simp [wTy, Mth.lst]
theorem ty_lst {m : Mth} {a : Nat} (hm : m.lst = true) : wTy m (.ref a) M = ∃ xs, M a = some (.lst xs) := by simp [wTy, hm]
theorem ty_append {a : Nat} : wTy .append (.ref a) M = ∃ xs, M a = some (.lst xs) := ty_lst rfl
theorem ty_pop {a : Nat} : wTy .pop (.ref a) M = ∃ xs, M a = some (.lst xs) := ty_lst rfl
theorem ty_popAt {a : Nat} : wTy .popAt (.ref a) M = ∃ xs, M a = some (.lst xs) := ty_lst rfl
theorem ty_reverse {a : Nat} : wTy .reverse (.ref a) M = ∃ xs, M a = some (.lst xs) := ty_lst rfl
theorem ty_extend {a : Nat} : wTy .extend (.ref a) M = ∃ xs, M a = some (.lst xs) := ty_lst rfl
theorem ty_insert {a : Nat} : wTy .insert (.ref a) M = ∃ xs, M a = some (.lst xs) := ty_lst rfl
theorem mth_append {a : Nat} {y : D} : wMth .append (.ref a) [y] M Q = ∃ xs, M a = some (.lst xs) ∧ xs.length < sizeLine ∧ Q .non (upd M a (.lst (xs ++ [y]))) := rfl
theorem mth_pop {a : Nat} : wMth .pop (.ref a) [] M Q = ∃ xs y, M a = some (.lst xs) ∧ xs.getLast? = some y ∧ Q y (upd M a (.lst xs.dropLast)) := rfl
theorem mth_popAt {a : Nat} {i : Int} : wMth .popAt (.ref a) [.int i] M Q = ∃ xs k y, M a = some (.lst xs) ∧ (-(2 ^ 63) ≤ i ∧ i < 2 ^ 63) ∧ L2.ixN xs.length i = some k ∧ xs[k]? = some y ∧ Q y (upd M a (.lst (xs.eraseIdx k))) := rfl
theorem mth_reverse {a : Nat} : wMth .reverse (.ref a) [] M Q = ∃ xs, M a = some (.lst xs) ∧ Q .non (upd M a (.lst xs.reverse)) := rfl
theorem mth_extend {a b : Nat} : wMth .extend (.ref a) [.ref b] M Q = ∃ xs ys, M a = some (.lst xs) ∧ M b = some (.lst ys) ∧ xs.length + ys.length ≤ sizeLine ∧ Q .non (upd M a (.lst (xs ++ ys))) := rfl
theorem mth_insert {a : Nat} {i : Int} {y : D} : wMth .insert (.ref a) [.int i, y] M Q = ∃ xs, M a = some (.lst xs) ∧ xs.length < sizeLine ∧ (0 ≤ i ∧ i < 2 ^ 63) ∧ Q .non (upd M a (.lst (xs.take i.toNat ++ [y] ++ xs.drop i.toNat))) := rfl
theorem mth_split {a b : Str} : wMth .split (.str a) [.str b] M Q = ((b.length == 0) = false ∧ a.length + 2 ≤ sizeLine ∧ ∀ p, M p = none → Q (.ref p) (upd M p (.lst ((Txt.split a b).map D.str)))) := rfl
theorem mth_join {a : Str} {b : Nat} : wMth .join (.str a) [.ref b] M Q = ∃ ys : List Str, M b = some (.lst (ys.map D.str)) ∧ (ys.map (·.length)).sum + ys.length * a.length ≤ 16777216 ∧ Q (.str (Txt.join a ys)) M := rfl
theorem slc_tup {xs : List D} {l h : Option Int} : wSlc (.tup xs) l h M Q = Q (.tup (cutD xs l h)) M := rfl
theorem slc_str {z : Str} {l h : Option Int} : wSlc (.str z) l h M Q = (z.length ≤ sizeLine ∧ Q (.str (L2.cutS z l h)) M) := rfl
theorem slc_ref {a : Nat} {l h : Option Int} : wSlc (.ref a) l h M Q = ∃ xs, M a = some (.lst xs) ∧ ∀ p, M p = none → Q (.ref p) (upd M p (.lst (cutD xs l h))) := rfl
theorem lk_max {xs : List D} {R : D → Prop} : wLK .max xs R = ∃ ns : List Int, xs = ns.map D.int ∧ 0 < ns.length ∧ ∀ m, m ∈ ns → (∀ y, y ∈ ns → y ≤ m) → R (.int m) := rfl
theorem lk_min {xs : List D} {R : D → Prop} : wLK .min xs R = ∃ ns : List Int, xs = ns.map D.int ∧ 0 < ns.length ∧ ∀ m, m ∈ ns → (∀ y, y ∈ ns → m ≤ y) → R (.int m) := rfl
theorem cmp_lt_str {x y : Str} {R : Bool → Prop} : wCmp .lt (.str x) (.str y) M R = R (decide (x.cps.toList < y.cps.toList)) := rfl
theorem cmp_is_bl {a b : Bool} {R : Bool → Prop} : wCmp .isN (.bl a) (.bl b) M R = R (decide (a = b)) := rfl
theorem cmp_not_bl {a b : Bool} {R : Bool → Prop} : wCmp .notN (.bl a) (.bl b) M R = R (!decide (a = b)) := rfl
theorem cmp_is_non {R : Bool → Prop} : wCmp .isN .non .non M R = R true := rfl
theorem cmp_not_non {R : Bool → Prop} : wCmp .notN .non .non M R = R false := rfl
theorem cmp_is_tup {xs : List D} {R : Bool → Prop} : wCmp .isN (.tup xs) .non M R = R false := rfl
theorem cmp_not_tup {xs : List D} {R : Bool → Prop} : wCmp .notN (.tup xs) .non M R = R true := rfl
theorem cmp_is_int {i : Int} {R : Bool → Prop} : wCmp .isN (.int i) .non M R = R false := rfl
theorem cmp_not_int {i : Int} {R : Bool → Prop} : wCmp .notN (.int i) .non M R = R true := rfl
theorem blt_maxt {xs : List D} {R : D → Prop} : wBlt .max [.tup xs] M R = ∃ ns : List Int, xs = ns.map D.int ∧ 0 < ns.length ∧ ∀ m, m ∈ ns → (∀ y, y ∈ ns → y ≤ m) → R (.int m) := rfl
theorem blt_mint {xs : List D} {R : D → Prop} : wBlt .min [.tup xs] M R = ∃ ns : List Int, xs = ns.map D.int ∧ 0 < ns.length ∧ ∀ m, m ∈ ns → (∀ y, y ∈ ns → m ≤ y) → R (.int m) := rfl
theorem tg_np {i : Nat} {is : List Nat} {d : D} {xs : List D} {e : Env} {R : Env → Prop} : wTg (.np i is) (.tup [d, .tup xs]) e R = (xs.length = is.length ∧ R (setAll (e.set i (.val d)) is xs)) := rfl
theorem blt_str {i : Int} {R : D → Prop} : wBlt .str [.int i] M R = (i.natAbs.log2 < 1920 ∧ R (.str (toString i : String))) := rfl
/-! ### by place -/
theorem ixN_nat {n : Nat} {i : Int} {k : Nat} (hk : i = (k : Int)) (h : k < n) : L2.ixN n i = some k := by
  subst hk
  unfold L2.ixN
  rw [if_pos (by omega), if_pos (by omega)]
  simp
theorem atI_nat' {xs : List D} {i : Int} {k : Nat} {v : D} (hk : i = (k : Int)) (h : xs[k]? = some v) : L2.atI xs i = some v := by
  subst hk
  exact L2.atI_nat h
theorem ixN5_1 : L2.ixN 5 1 = some 1 := ixN_nat rfl (by omega)
theorem ixN5_2 : L2.ixN 5 2 = some 2 := ixN_nat rfl (by omega)
theorem ixN5_3 : L2.ixN 5 3 = some 3 := ixN_nat rfl (by omega)
theorem atI_0 {x : D} {xs : List D} : L2.atI (x :: xs) 0 = some x := atI_nat' (k := 0) rfl rfl
theorem atI_1 {x y : D} {xs : List D} : L2.atI (x :: y :: xs) 1 = some y := atI_nat' (k := 1) rfl rfl
theorem atI_2 {x y z : D} {xs : List D} : L2.atI (x :: y :: z :: xs) 2 = some z := atI_nat' (k := 2) rfl rfl
theorem atI_3 {x y z u : D} {xs : List D} : L2.atI (x :: y :: z :: u :: xs) 3 = some u := atI_nat' (k := 3) rfl rfl
theorem atI_4 {x y z u v : D} {xs : List D} : L2.atI (x :: y :: z :: u :: v :: xs) 4 = some v := atI_nat' (k := 4) rfl rfl
/-! ### memory -/
theorem upd_at {p : Nat} {o : MO} : upd M p o p = some o := by simp [upd]
theorem upd_no {p a : Nat} {o : MO} (h : a ≠ p) : upd M p o a = M a := by simp [upd, h]
theorem drp_at {p : Nat} : drp M p p = none := by simp [drp]
theorem drp_no {p a : Nat} (h : a ≠ p) : drp M p a = M a := by simp [drp, h]
theorem ne_of_mem {a p : Nat} {o : MO} (h : M a = some o) (hp : M p = none) : a ≠ p := by
  intro z; subst z; rw [h] at hp; cases hp
theorem drp_upd {p : Nat} {o : MO} (h : M p = none) : drp (upd M p o) p = M := by
  funext a
  by_cases e : a = p
  · subst e; rw [drp_at, h]
  · rw [drp_no e, upd_no e]
/-! ### loops -/
theorem cmpr_map {ok : Mem → Prop} {el : D → Mem → (Option D → Mem → Prop) → Prop} (g : D → D) : ∀ {xs : List D} {Q : QL}, ok M → (∀ x ∈ xs, ∀ R : Option D → Mem → Prop, R (some (g x)) M → el x M R) → Q (xs.map g) M → wCmpr ok el xs M Q
  | [], Q, ho, h, q => ⟨ho, q⟩
  | x :: xs, Q, ho, h, q => ⟨ho, h x List.mem_cons_self _ (cmpr_map g ho (fun y hy => h y (List.mem_cons_of_mem _ hy)) q)⟩
theorem cmpr_filterMap {ok : Mem → Prop} {el : D → Mem → (Option D → Mem → Prop) → Prop} (g : D → Option D) : ∀ {xs : List D} {Q : QL}, ok M → (∀ x ∈ xs, ∀ R : Option D → Mem → Prop, R (g x) M → el x M R) → Q (xs.filterMap g) M → wCmpr ok el xs M Q
  | [], Q, ho, h, q => ⟨ho, q⟩
  | x :: xs, Q, ho, h, q => by
    refine ⟨ho, h x List.mem_cons_self _ ?_⟩
    cases e : g x with
    | none =>
      rw [List.filterMap_cons_none e] at q
      exact cmpr_filterMap g ho (fun y hy => h y (List.mem_cons_of_mem _ hy)) q
    | some z =>
      rw [List.filterMap_cons_some e] at q
      exact cmpr_filterMap g ho (fun y hy => h y (List.mem_cons_of_mem _ hy)) q
/-- with memory that changes: I is kept, the items' relation p is known -/
theorem cmpr_inv {ok : Mem → Prop} {el : D → Mem → (Option D → Mem → Prop) → Prop} {I : Mem → Prop} {p : D → D → Prop} (hok : ∀ M, I M → ok M) : ∀ {xs : List D} {M : Mem} {Q : QL}, I M → (∀ x ∈ xs, ∀ M, I M → ∀ R : Option D → Mem → Prop, (∀ y M', p x y → I M' → R (some y) M') → el x M R) → (∀ ys M', All2 p xs ys → I M' → Q ys M') → wCmpr ok el xs M Q
  | [], M, Q, hI, h, q => ⟨hok _ hI, q _ _ .nil hI⟩
  | x :: xs, M, Q, hI, h, q => ⟨hok _ hI, h x List.mem_cons_self M hI _ fun y M' hy hI' => cmpr_inv hok hI' (fun z hz => h z (List.mem_cons_of_mem _ hz)) fun ys M'' hys hI'' => q _ _ (.cons hy hys) hI''⟩
/-- a for loop by an invariant of what is left -/
theorem for_inv {ok : Env → Mem → Prop} {t : Tg} {b : List IS} (hF : FMono F) (I : List D → Env → Mem → Prop) (hok : ∀ r e m, I r e m → ok e m) (fin : ∀ e m, I [] e m → K.nx e m)
    (step : ∀ x r e m, I (x :: r) e m → wTg t x e fun e' => wSs F b e' m { K with nx := fun e m => I r e m, ct := fun e m => I r e m, bk := K.nx }) :
    ∀ {xs : List D} {env : Env} {M : Mem}, I xs env M → wFor ok (fun x e m K' => wTg t x e fun e' => wSs F b e' m K') xs env M K
  | [], _, _, h => ⟨hok _ _ _ h, fin _ _ h⟩
  | x :: xs, env, M, h => by
    refine ⟨hok _ _ _ h, wTg_mono (fun e' q => wSs_mono hF b ?_ q) (step x xs env M h)⟩
    exact ⟨fun e m q => for_inv hF I hok fin step q, fun _ _ z => z, fun _ _ z => z, fun e m q => for_inv hF I hok fin step q, fun _ _ _ z => z⟩
theorem for_inv2 {ok : Env → Mem → Prop} {t : Tg} {b : List IS} (hF : FMono F) {xs : List D} {env : Env} {M : Mem} (I : List D → Env → Mem → Prop) (h0 : I xs env M) (hok : ∀ r e m, I r e m → ok e m) (fin : ∀ e m, I [] e m → K.nx e m)
    (step : ∀ x r e m, I (x :: r) e m → wTg t x e fun e' => wSs F b e' m { K with nx := fun e m => I r e m, ct := fun e m => I r e m, bk := K.nx }) :
    wFor ok (fun x e m K' => wTg t x e fun e' => wSs F b e' m K') xs env M K := for_inv hF I hok fin step h0
/-- a for loop by an invariant of the place -/
theorem for_idx {ok : Env → Mem → Prop} {t : Tg} {b : List IS} {xs : List D} (hF : FMono F) (I : Nat → Env → Mem → Prop) (h0 : I 0 env M) (hok : ∀ i e m, I i e m → ok e m) (fin : ∀ e m, I xs.length e m → K.nx e m)
    (step : ∀ i x e m, xs[i]? = some x → I i e m → wTg t x e fun e' => wSs F b e' m { K with nx := fun e m => I (i + 1) e m, ct := fun e m => I (i + 1) e m, bk := K.nx }) :
    wFor ok (fun x e m K' => wTg t x e fun e' => wSs F b e' m K') xs env M K := by
  refine for_inv2 hF (fun r e m => ∃ i, r = xs.drop i ∧ i ≤ xs.length ∧ I i e m) ⟨0, rfl, Nat.zero_le _, h0⟩ (fun r e m ⟨i, _, _, h⟩ => hok i e m h) (fun e m ⟨i, h1, h2, h⟩ => ?_) (fun x r e m ⟨i, h1, h2, h⟩ => ?_)
  · have : i = xs.length := by
      have := congrArg List.length h1
      simp at this
      omega
    rw [this] at h
    exact fin e m h
  · have hi : i < xs.length := by
      have := congrArg List.length h1
      simp at this
      omega
    rw [List.drop_eq_getElem_cons hi] at h1
    obtain ⟨rfl, rfl⟩ := List.cons.inj h1
    refine wTg_mono (fun e' q => wSs_mono hF b ?_ q) (step i _ e m (List.getElem?_eq_getElem hi) h)
    exact ⟨fun e m q => ⟨i + 1, rfl, hi, q⟩, fun _ _ z => z, fun _ _ z => z, fun e m q => ⟨i + 1, rfl, hi, q⟩, fun _ _ _ z => z⟩
/-- the same, the target a name -/
theorem for_at {ok : Env → Mem → Prop} {j : Nat} {b : List IS} {xs : List D} (hF : FMono F) (I : Nat → Env → Mem → Prop) (h0 : I 0 env M) (hok : ∀ i e m, I i e m → ok e m) (fin : ∀ e m, I xs.length e m → K.nx e m)
    (step : ∀ i x e m, xs[i]? = some x → I i e m → wSs F b (e.set j (.val x)) m { K with nx := fun e m => I (i + 1) e m, ct := fun e m => I (i + 1) e m, bk := K.nx }) :
    wFor ok (fun x e m K' => wSs F b (e.set j (.val x)) m K') xs env M K := for_idx (t := .nm j) hF I h0 hok fin step
theorem for_range {ok : Env → Mem → Prop} {j : Nat} {b : List IS} {n : Nat} (hF : FMono F) (I : Nat → Env → Mem → Prop) (h0 : I 0 env M) (hok : ∀ i e m, I i e m → ok e m) (fin : ∀ e m, I n e m → K.nx e m)
    (step : ∀ (k : Nat) e m, k < n → I k e m → wSs F b (e.set j (.val (.int (k : Int)))) m { K with nx := fun e m => I (k + 1) e m, ct := fun e m => I (k + 1) e m, bk := K.nx }) :
    wFor ok (fun x e m K' => wSs F b (e.set j (.val x)) m K') ((List.range n).map fun (k : Nat) => .int (k : Int)) env M K := by
  refine for_at hF I h0 hok (fun e m h => fin e m (by simpa using h)) fun k x e m hx h => ?_
  have hk : k < n := by
    have := (List.getElem?_eq_some_iff.mp hx).1
    simpa using this
  have : x = .int (k : Int) := by
    rw [List.getElem?_map, List.getElem?_range hk] at hx
    exact (Option.some.inj hx).symm
  subst this
  exact step k e m hk h
/-- a for loop that changes nothing that matters: I is kept -/
theorem for_each {ok : Env → Mem → Prop} {j : Nat} {b : List IS} {xs : List D} (hF : FMono F) (I : Env → Mem → Prop) (h0 : I env M) (hok : ∀ e m, I e m → ok e m) (fin : ∀ e m, I e m → K.nx e m)
    (step : ∀ x e m, x ∈ xs → I e m → wSs F b (e.set j (.val x)) m { K with nx := fun e m => I e m, ct := fun e m => I e m, bk := K.nx }) :
    wFor ok (fun x e m K' => wSs F b (e.set j (.val x)) m K') xs env M K :=
  for_at hF (fun _ => I) h0 (fun _ => hok) fin fun i x e m hx h => step x e m (List.mem_of_getElem? hx) h
theorem atI_cast {xs : List D} {k : Nat} {v : D} (h : xs[k]? = some v) : L2.atI xs (k : Int) = some v := atI_nat' rfl h
theorem ixN_cast {n k : Nat} (h : k < n) : L2.ixN n (k : Int) = some k := ixN_nat rfl h
theorem atI_range {n k : Nat} {g : Nat → D} (h : k < n) : L2.atI ((List.range n).map g) (k : Int) = some (g k) := atI_cast (by rw [List.getElem?_map, List.getElem?_range h]; rfl)
theorem set_range {n k : Nat} {g : Nat → D} {x : D} : ((List.range n).map g).set k x = (List.range n).map fun i => if i = k then x else g i := by
  apply List.ext_getElem?
  intro i
  rw [List.getElem?_set, List.getElem?_map, List.getElem?_map]
  by_cases hi : i < n
  · rw [List.getElem?_range hi]
    by_cases e : k = i
    · subst e; simp [hi]
    · have e2 : ¬ i = k := fun z => e z.symm
      simp [e, e2]
  · have : (List.range n)[i]? = none := by simp; omega
    rw [this]
    by_cases e : k = i
    · subst e; simp [hi]
    · simp [e]
theorem range_snoc {n : Nat} {g : Nat → D} : (List.range n).map g ++ [g n] = (List.range (n + 1)).map g := by rw [List.range_succ, List.map_append]; rfl
theorem map_range_congr {n : Nat} {g h : Nat → D} (e : ∀ i, i < n → g i = h i) : (List.range n).map g = (List.range n).map h := List.map_congr_left fun i hi => e i (List.mem_range.mp hi)
theorem mF {P : List Fn} {n : Nat} : FMono (wFn P n) := wFn_mono P n
theorem allBl_true : ∀ {xs : List D}, (∀ x ∈ xs, x = .bl true) → allBl xs = some true
  | [], _ => rfl
  | x :: xs, h => by
    have h1 := h x List.mem_cons_self
    subst h1
    rw [allBl, allBl_true fun y hy => h y (List.mem_cons_of_mem _ hy)]
    rfl
mutual
theorem D.eqv_refl : ∀ {k : Nat} {d : D}, D.flat k d = true → D.eqv d d = true
  | _, .non, _ => rfl
  | _, .bl b, _ => by simp [D.eqv]
  | _, .int i, _ => by simp [D.eqv]
  | _, .str x, _ => by simp [D.eqv]
  | 0, .tup xs, h => by simp [D.flat] at h
  | k + 1, .tup xs, h => by rw [D.eqv]; exact D.eqvs_refl (k := k) (by simpa [D.flat] using h)
  | _, .ref _, h => by simp [D.flat] at h
  | _, .rl _, h => by simp [D.flat] at h
theorem D.eqvs_refl : ∀ {k : Nat} {ds : List D}, D.flats k ds = true → D.eqvs ds ds = true
  | _, [], _ => rfl
  | k, d :: ds, h => by
    have h' : D.flat k d = true ∧ D.flats k ds = true := by simpa [D.flats] using h
    rw [D.eqvs, D.eqv_refl h'.1, D.eqvs_refl h'.2]; rfl
end
theorem flats_of : ∀ {k : Nat} {ds : List D}, (∀ d ∈ ds, D.flat k d = true) → D.flats k ds = true
  | _, [], _ => rfl
  | k, d :: ds, h => by rw [D.flats, h d List.mem_cons_self, flats_of fun x hx => h x (List.mem_cons_of_mem _ hx)]; rfl
theorem cmpr_range {ok : Mem → Prop} {el : D → Mem → (Option D → Mem → Prop) → Prop} (u v : Nat → D) {n : Nat} {Q : QL} (ho : ok M) (h : ∀ i, i < n → ∀ R : Option D → Mem → Prop, R (some (v i)) M → el (u i) M R) (q : Q ((List.range n).map v) M) : wCmpr ok el ((List.range n).map u) M Q := by
  have gen : ∀ (l : List Nat) (Q : QL), (∀ i ∈ l, i < n) → Q (l.map v) M → wCmpr ok el (l.map u) M Q := by
    intro l
    induction l with
    | nil => intro Q _ q; exact ⟨ho, q⟩
    | cons i l ih => intro Q hl q; exact ⟨ho, h i (hl i List.mem_cons_self) _ (ih _ (fun j hj => hl j (List.mem_cons_of_mem _ hj)) q)⟩
  exact gen _ _ (fun i hi => List.mem_range.mp hi) q
theorem fn_of {α : Type} [Inhabited α] {G : α → D} {good : α → Prop} : ∀ {ds : List D}, (∀ d ∈ ds, ∃ a, d = G a ∧ good a) → ∃ g : Nat → α, ds = (List.range ds.length).map (fun i => G (g i)) ∧ ∀ i, i < ds.length → good (g i)
  | [], _ => ⟨fun _ => default, rfl, fun i hi => absurd hi (Nat.not_lt_zero _)⟩
  | d :: ds, h => by
    obtain ⟨a, e, ha⟩ := h d List.mem_cons_self
    obtain ⟨g, eg, hg⟩ := fn_of fun x hx => h x (List.mem_cons_of_mem _ hx)
    refine ⟨fun i => match i with | 0 => a | i + 1 => g i, ?_, fun i hi => ?_⟩
    · rw [List.length_cons, List.range_succ_eq_map, List.map_cons, List.map_map]
      dsimp only [Function.comp_def]
      rw [← eg, e]
    · cases i with
      | zero => exact ha
      | succ i => exact hg i (by simpa using hi)
theorem All2.right {p : D → D → Prop} {q : D → Prop} : ∀ {xs ys : List D}, All2 p xs ys → (∀ x y, x ∈ xs → p x y → q y) → ∀ y ∈ ys, q y
  | _, _, .nil, _, y, hy => by cases hy
  | _, _, .cons h t, f, y, hy => by
    rcases List.mem_cons.mp hy with z | z
    · subst z; exact f _ _ List.mem_cons_self h
    · exact t.right (fun a b ha => f a b (List.mem_cons_of_mem _ ha)) y z
theorem All2.get {p : D → D → Prop} : ∀ {xs ys : List D}, All2 p xs ys → ∀ {i : Nat} {x y : D}, xs[i]? = some x → ys[i]? = some y → p x y
  | _, _, .nil, i, x, y, h, _ => by simp at h
  | _, _, .cons h t, 0, x, y, h1, h2 => by simp at h1 h2; subst h1 h2; exact h
  | _, _, .cons h t, i + 1, x, y, h1, h2 => t.get (i := i) (by simpa using h1) (by simpa using h2)
/-- a comprehension by an invariant of the place, of what is there and of the memory -/
theorem cmpr_acc {ok : Mem → Prop} {el : D → Mem → (Option D → Mem → Prop) → Prop} {xs : List D} {Q : QL} (I : Nat → List D → Mem → Prop) (hok : ∀ i ys M, I i ys M → ok M)
    (step : ∀ i x ys M, xs[i]? = some x → I i ys M → ∀ R : Option D → Mem → Prop, (∀ y M', I (i + 1) (ys ++ [y]) M' → R (some y) M') → el x M R) (h0 : I 0 [] M) (fin : ∀ ys M', I xs.length ys M' → Q ys M') : wCmpr ok el xs M Q := by
  have gen : ∀ (k : Nat) (ys : List D) (M : Mem) (Q' : QL), k ≤ xs.length → I k ys M → (∀ zs M', I xs.length (ys ++ zs) M' → Q' zs M') → wCmpr ok el (xs.drop k) M Q' := by
    intro k
    induction h : xs.length - k generalizing k with
    | zero =>
      intro ys M Q' hk hI hq
      have e : k = xs.length := by omega
      subst e
      rw [List.drop_length]
      exact ⟨hok _ _ _ hI, hq [] M (by rw [List.append_nil]; exact hI)⟩
    | succ j ih =>
      intro ys M Q' hk hI hq
      have hk' : k < xs.length := by omega
      rw [List.drop_eq_getElem_cons hk']
      refine ⟨hok _ _ _ hI, step k _ ys M (List.getElem?_eq_getElem hk') hI _ fun y M' hI' => ?_⟩
      refine ih (k + 1) (by omega) (ys ++ [y]) M' _ hk' hI' fun zs M'' hI'' => hq _ _ ?_
      rw [List.append_assoc] at hI''
      exact hI''
  have := gen 0 [] M Q (Nat.zero_le _) h0 fun zs M' hI => fin zs M' hI
  rwa [List.drop_zero] at this
theorem leaveS {d : D} {M' : Mem} (s : Sub M M') (h : Q d M) : ∃ M'', Sub M'' M' ∧ Q d M'' := ⟨M, s, h⟩
/-! ### dicts -/
mutual
theorem beq_refl : ∀ d : D, D.beq d d = true
  | .non => rfl
  | .bl b => by simp [D.beq]
  | .int b => by simp [D.beq]
  | .str b => by simp [D.beq]
  | .ref b => by simp [D.beq]
  | .tup xs => by rw [D.beq]; exact beqs_refl xs
  | .rl xs => by rw [D.beq]; exact beqs_refl xs
theorem beqs_refl : ∀ ds : List D, D.beqs ds ds = true
  | [] => rfl
  | d :: ds => by rw [D.beqs, beq_refl d, beqs_refl ds]; rfl
end
theorem beq_ne {a b : D} (h : a ≠ b) : D.beq a b = false := by
  cases e : D.beq a b with
  | false => rfl
  | true => exact absurd (D.beq_eq e) h
instance : DecidableEq D := fun a b => if h : D.beq a b = true then .isTrue (D.beq_eq h) else .isFalse fun e => h (by rw [e]; exact beq_refl b)
theorem dget_nil {k : D} : dget [] k = none := rfl
theorem dget_cons_eq {k v : D} {es : List (D × D)} : dget ((k, v) :: es) k = some v := by unfold dget; rw [List.find?_cons, beq_refl]; rfl
theorem dget_cons_ne {k k' v : D} {es : List (D × D)} (h : k' ≠ k) : dget ((k', v) :: es) k = dget es k := by unfold dget; rw [List.find?_cons, beq_ne h]
theorem any_dgetL {k : D} : ∀ {es : List (D × D)}, (es.any fun p => D.beq p.1 k) = (dget es k).isSome
  | [] => rfl
  | p :: es => by
    unfold dget
    rw [List.any_cons, List.find?_cons]
    cases e : D.beq p.1 k with
    | true => rfl
    | false => rw [Bool.false_or, any_dgetL (es := es)]; rfl
theorem dput_new {es : List (D × D)} {k v : D} (h : dget es k = none) : dput es k v = es ++ [(k, v)] := by
  unfold dput; rw [any_dgetL, h]; exact if_neg (by decide)
theorem dget_append {k : D} : ∀ {es fs : List (D × D)}, dget (es ++ fs) k = (dget es k).or (dget fs k)
  | [], fs => by simp [dget_nil]
  | (k', v) :: es, fs => by
    by_cases h : k' = k
    · subst h; rw [List.cons_append, dget_cons_eq, dget_cons_eq]; rfl
    · rw [List.cons_append, dget_cons_ne h, dget_cons_ne h, dget_append]
theorem dget_repl {k v j : D} : ∀ {es : List (D × D)}, dget (es.map fun p => if D.beq p.1 k = true then (p.1, v) else p) j = (dget es j).map fun x => if j = k then v else x
  | [] => rfl
  | (k', w) :: es => by
    rw [List.map_cons]
    by_cases h : k' = k
    · subst h
      rw [if_pos (beq_refl _)]
      by_cases h2 : k' = j
      · subst h2; rw [dget_cons_eq, dget_cons_eq]; simp
      · rw [dget_cons_ne h2, dget_cons_ne h2, dget_repl]
    · rw [if_neg (by rw [beq_ne h]; decide)]
      by_cases h2 : k' = j
      · subst h2; rw [dget_cons_eq, dget_cons_eq]; simp [h]
      · rw [dget_cons_ne h2, dget_cons_ne h2, dget_repl]
theorem dget_dput {es : List (D × D)} {k v j : D} : dget (dput es k v) j = if j = k then some v else dget es j := by
  by_cases a : (es.any fun p => D.beq p.1 k) = true
  · unfold dput
    rw [if_pos a, dget_repl]
    rw [any_dgetL] at a
    by_cases h : j = k
    · subst h
      obtain ⟨x, hx⟩ := Option.isSome_iff_exists.mp a
      rw [hx]; simp
    · cases dget es j with
      | none => simp [h]
      | some x => simp [h]
  · have h : dget es k = none := by
      rw [any_dgetL] at a
      cases e : dget es k with
      | none => rfl
      | some x => rw [e] at a; exact absurd rfl a
    rw [dput_new h, dget_append]
    by_cases h2 : j = k
    · subst h2; rw [h, dget_cons_eq]; simp
    · rw [dget_cons_ne (Ne.symm h2), dget_nil]; simp [h2]
theorem dput_keys {es : List (D × D)} {k v : D} : ∀ p ∈ dput es k v, p.1 = k ∨ ∃ q ∈ es, q.1 = p.1 := by
  intro p hp
  unfold dput at hp
  split at hp
  · obtain ⟨q, hq, rfl⟩ := List.mem_map.mp hp
    refine .inr ⟨q, hq, ?_⟩
    split <;> rfl
  · rcases List.mem_append.mp hp with z | z
    · exact .inr ⟨p, z, rfl⟩
    · rw [List.mem_singleton.mp z]; exact .inl rfl
theorem dput_len {es : List (D × D)} {k v : D} : (dput es k v).length ≤ es.length + 1 := by
  unfold dput; split <;> simp
/-- all keys are good, and of the sort of this one -/
theorem DkOk.of {es : List (D × D)} {k : D} (hk : k.keyOk = true) (h : ∀ p ∈ es, p.1.keyOk = true ∧ p.1.plain = k.plain) : DkOk es k := ⟨hk, h⟩
end
end DL
/-! The draws. -/
namespace DL
local macro_rules | `(tactic| walk_at "wp") => `(tactic| simp only [wS, wE, wEs, wO, wAs, wL, wN, wI, wT, wTs, setAll, Tg.slots, wipeE, cmp_eq_int, cmp_ne_int, cmp_eq_str, cmp_ne_str, cmp_eq_tup, cmp_ne_tup, cmp_eq_bl, cmp_lt, cmp_le, cmp_gt, cmp_ge, Kt0_rt, Kt0_nx, List.getElem?_cons_zero, List.getElem?_cons_succ, List.set_cons_zero, List.set_cons_succ, Option.some.injEq, Slot.val.injEq, Slot.own.injEq, MO.lst.injEq, D.int.injEq, D.ref.injEq, D.bl.injEq, D.tup.injEq, D.str.injEq, exists_eq_left', exists_eq_left, exists_and_left, exists_and_right, and_assoc, true_and, and_true, atI_0, atI_1, atI_2, atI_3, atI_4, backs, drps, List.map_cons, List.map_nil, List.length_cons, List.length_nil, List.cons_append, List.nil_append, List.replicate, Nat.reduceAdd, Nat.reduceSub, decide_eq_true_eq, upd_at, aug_add_int, aug_sub_int, aug_mul_int, aug_add_str, ixN5_1, ixN5_2, ixN5_3, Int.toNat_natCast, List.length_map, List.length_range, tg_nm, tg_tp, tru_non, tru_bl, tru_int, tru_str, tru_tup, tru_ref, bin_add_int, bin_add_str, bin_add_tup, bin_sub, bin_mul, bin_fdiv, bin_mod, bin_pow, bin_shl, bin_shr, bin_band, bin_bor, idx_tup, idx_ref, idx_str, blt_len_tup, blt_len_str, blt_len_ref, blt_int_int, blt_int_bl, blt_bool_bl, blt_bool_int, blt_abs, blt_max2, blt_max3, blt_min2, blt_tuple_tup, blt_tuple_ref, blt_isa_non, blt_isa_bl, blt_isa_int, blt_isa_str, blt_isa_tup, isa_int_int, isa_int_bool, isa_bl_bool, isa_tup, isa_str, lk_tuple, lk_len, lk_all, lk_any, lk_sum, it_tup, it_rl, it_ref, zip_tup, enum_tup, enum_ref, eq_self_iff_true, if_true, Bool.false_eq_true, if_false, reduceIte, ss_nil, rev_tup, rev_ref, ty_split, ty_join, ty_append, ty_pop, ty_popAt, ty_reverse, ty_extend, ty_insert, mth_append, mth_pop, mth_popAt, mth_reverse, mth_extend, mth_insert, mth_split, mth_join, cmp_eq_ref, cmp_ne_ref, slc_tup, slc_str, slc_ref, lk_max, lk_min, cmp_lt_str, cmp_is_bl, cmp_not_bl, cmp_is_non, cmp_not_non, cmp_is_tup, cmp_not_tup, cmp_is_int, cmp_not_int, blt_str, blt_maxt, blt_mint, tg_np])
local macro_rules | `(tactic| simp! only [$xs:simpLemma,*]) => `(tactic| simp only [wS, wE, wEs, wO, wAs, wL, wN, wI, wT, wTs, setAll, Tg.slots, wipeE, cmp_eq_int, cmp_ne_int, cmp_eq_str, cmp_ne_str, cmp_eq_tup, cmp_ne_tup, cmp_eq_bl, cmp_lt, cmp_le, cmp_gt, cmp_ge, Kt0_rt, Kt0_nx, List.getElem?_cons_zero, List.getElem?_cons_succ, List.set_cons_zero, List.set_cons_succ, Option.some.injEq, Slot.val.injEq, Slot.own.injEq, MO.lst.injEq, D.int.injEq, D.ref.injEq, D.bl.injEq, D.tup.injEq, D.str.injEq, exists_eq_left', exists_eq_left, exists_and_left, exists_and_right, and_assoc, true_and, and_true, atI_0, atI_1, atI_2, atI_3, atI_4, backs, drps, List.map_cons, List.map_nil, List.length_cons, List.length_nil, List.cons_append, List.nil_append, List.replicate, Nat.reduceAdd, Nat.reduceSub, decide_eq_true_eq, upd_at, aug_add_int, aug_sub_int, aug_mul_int, aug_add_str, ixN5_1, ixN5_2, ixN5_3, Int.toNat_natCast, List.length_map, List.length_range, tg_nm, tg_tp, tru_non, tru_bl, tru_int, tru_str, tru_tup, tru_ref, bin_add_int, bin_add_str, bin_add_tup, bin_sub, bin_mul, bin_fdiv, bin_mod, bin_pow, bin_shl, bin_shr, bin_band, bin_bor, idx_tup, idx_ref, idx_str, blt_len_tup, blt_len_str, blt_len_ref, blt_int_int, blt_int_bl, blt_bool_bl, blt_bool_int, blt_abs, blt_max2, blt_max3, blt_min2, blt_tuple_tup, blt_tuple_ref, blt_isa_non, blt_isa_bl, blt_isa_int, blt_isa_str, blt_isa_tup, isa_int_int, isa_int_bool, isa_bl_bool, isa_tup, isa_str, lk_tuple, lk_len, lk_all, lk_any, lk_sum, it_tup, it_rl, it_ref, zip_tup, enum_tup, enum_ref, eq_self_iff_true, if_true, Bool.false_eq_true, if_false, reduceIte, ss_nil, rev_tup, rev_ref, ty_split, ty_join, ty_append, ty_pop, ty_popAt, ty_reverse, ty_extend, ty_insert, mth_append, mth_pop, mth_popAt, mth_reverse, mth_extend, mth_insert, mth_split, mth_join, cmp_eq_ref, cmp_ne_ref, slc_tup, slc_str, slc_ref, lk_max, lk_min, cmp_lt_str, cmp_is_bl, cmp_not_bl, cmp_is_non, cmp_not_non, cmp_is_tup, cmp_not_tup, cmp_is_int, cmp_not_int, blt_str, blt_maxt, blt_mint, tg_np, $xs,*])
open PySem
section
def d_begin : Fn := { name := "_law_begin", arity := 1, slots := ["script", "cell"], body :=
  [(.ret (.mk (.disp (.cons (.mk (.comp (.blt .int (.cons (.var 1) .nil)) (.nm 1) (.dyn (.var 0)) none)) (.cons (.cst (.int 0)) (.cons (.cst (.int 0)) (.cons (.cst (.int 7)) (.cons (.cst (.int 3)) .nil))))))))] }
def d_draw : Fn := { name := "_law_draw", arity := 2, slots := ["d", "many", "found", "size", "cell"], body :=
  [(.ite (.v (.cmp .gt (.idx (.var 0) (.cst (.int 2))) (.cst (.int 0)))) [(.asg (.nm 2) (.idx (.var 0) (.cst (.int 2)))),
    (.mset (.var 0) (.cst (.int 2)) (.bin .fdiv (.var 2) (.var 1))),
    (.ret (.bin .mod (.blt .int (.cons (.var 2) .nil)) (.var 1)))] []),
    (.asg (.nm 3) (.cst (.int 0))),
    (.ite (.v (.cmp .lt (.idx (.var 0) (.cst (.int 1))) (.blt .len (.cons (.idx (.var 0) (.cst (.int 0))) .nil)))) [(.asg (.nm 4) (.idx (.idx (.var 0) (.cst (.int 0))) (.idx (.var 0) (.cst (.int 1))))),
    (.asg (.nm 3) (.bin .add (.bin .mul (.cst (.int 2)) (.blt .abs (.cons (.var 4) .nil))) (.blt .int (.cons (.cmp .lt (.var 4) (.cst (.int 0))) .nil))))] []),
    (.maug (.var 0) (.cst (.int 1)) .add (.cst (.int 1))),
    (.ite (.v (.cmp .ge (.var 3) (.bin .mul (.cst (.int 2)) (.bin .pow (.cst (.int 10)) (.cst (.int 18)))))) [(.asg (.nm 2) (.bin .mod (.blt .int (.cons (.bin .fdiv (.var 3) (.cst (.int 2))) .nil)) (.bin .shl (.cst (.int 1)) (.cst (.int 6000))))),
    (.mset (.var 0) (.cst (.int 2)) (.bin .fdiv (.var 2) (.var 1))),
    (.ret (.bin .mod (.blt .int (.cons (.var 2) .nil)) (.var 1)))] []),
    (.mset (.var 0) (.cst (.int 3)) (.bin .mod (.blt .int (.cons (.bin .add (.bin .add (.bin .add (.bin .mul (.idx (.var 0) (.cst (.int 3))) (.cst (.int 48271))) (.bin .mul (.bin .mod (.blt .int (.cons (.var 3) .nil)) (.cst (.int 2147483629))) (.cst (.int 16807)))) (.bin .mul (.idx (.var 0) (.cst (.int 1))) (.cst (.int 69621)))) (.cst (.int 11))) .nil)) (.cst (.int 2147483647)))),
    (.ret (.bin .mod (.blt .int (.cons (.bin .fdiv (.idx (.var 0) (.cst (.int 3))) (.cst (.int 16))) .nil)) (.var 1)))] }
def d_pick (f_draw : Nat) : Fn := { name := "_law_pick", arity := 2, slots := ["d", "row"], body :=
  [(.ret (.idx (.var 1) (.call f_draw (.cons (.var 0) (.cons (.blt .len (.cons (.var 1) .nil)) .nil)))))] }
/-- d is the drawer of a law, c its cells -/
def Dst (M : Mem) (d c : Nat) : Prop := ∃ (cells : List Int) (a : Nat) (r g : Int), M d = some (.lst [.ref c, .int a, .int r, .int g, .int 3]) ∧ c ≠ d ∧ M c = some (.lst (cells.map D.int))
/-- only the drawer has changed -/
def DrS (d c : Nat) (M M' : Mem) : Prop := Dst M' d c ∧ ∀ a, a ≠ d → M' a = M a
theorem DrS.refl {d c : Nat} {M : Mem} (h : Dst M d c) : DrS d c M M := ⟨h, fun _ _ => rfl⟩
theorem DrS.trans {d c : Nat} {M M' M'' : Mem} (h : DrS d c M M') (h' : DrS d c M' M'') : DrS d c M M'' := ⟨h'.1, fun a ha => (h'.2 a ha).trans (h.2 a ha)⟩
theorem Dst.none {M : Mem} {d c : Nat} (h : Dst M d c) {p : Nat} (hp : M p = none) : p ≠ d ∧ p ≠ c := by
  obtain ⟨cells, a, r, g, h1, _, h2⟩ := h
  exact ⟨fun z => (by subst z; rw [h1] at hp; cases hp), fun z => (by subst z; rw [h2] at hp; cases hp)⟩
theorem Dst.at {M : Mem} {d c : Nat} {cells : List Int} {a : Int} {r g : Int} (ha : 0 ≤ a) (h : M d = some (.lst [.ref c, .int a, .int r, .int g, .int 3])) (hc : c ≠ d) (h2 : M c = some (.lst (cells.map D.int))) : Dst M d c :=
  ⟨cells, a.toNat, r, g, by rw [h]; congr 5; omega, hc, h2⟩
/-- a drawer behind a new list -/
theorem Dst.upd {M : Mem} {d c p : Nat} {o : MO} (h : Dst M d c) (hp : M p = .none) : Dst (upd M p o) d c := by
  obtain ⟨hpd, hpc⟩ := h.none hp
  obtain ⟨cells, a, r, g, h1, hc, h2⟩ := h
  exact ⟨cells, a, r, g, by rw [upd_no hpd.symm]; exact h1, hc, by rw [upd_no hpc.symm]; exact h2⟩
theorem DrS.drp {M M' : Mem} {d c p : Nat} {o : MO} (h : Dst M d c) (hp : M p = .none) (h' : DrS d c (DL.upd M p o) M') : DrS d c M (DL.drp M' p) := by
  obtain ⟨hpd, hpc⟩ := h.none hp
  refine ⟨?_, fun a ha => ?_⟩
  · obtain ⟨cells, a, r, g, h1, hc, h2⟩ := h'.1
    exact ⟨cells, a, r, g, by rw [drp_no hpd.symm]; exact h1, hc, by rw [drp_no hpc.symm]; exact h2⟩
  · by_cases e : a = p
    · subst e; rw [drp_at, hp]
    · rw [drp_no e, h'.2 a ha, upd_no e]
theorem Dst.put {M : Mem} {d c : Nat} {cells : List Int} {xs : List D} (hc : c ≠ d) (h2 : M c = some (.lst (cells.map D.int))) (a : Int) (r g : Int) (ha : 0 ≤ a) (e : xs = [.ref c, .int a, .int r, .int g, .int 3]) : DrS d c M (DL.upd M d (.lst xs)) :=
  ⟨Dst.at (a := a) ha (by rw [upd_at, e]) hc (by rw [upd_no hc]; exact h2), fun a ha => upd_no ha⟩
variable {P : List Fn} {n f : Nat} {M : Mem} {Q : QE} {E : QX}
theorem draw_ok (hf : P[f]? = some d_draw) {d c : Nat} {many : Int} (hm : 0 < many) (hm2 : many < 2 ^ 100) (h : Dst M d c) (q : ∀ k M', 0 ≤ k → k < many → DrS d c M M' → Q (.int k) M') : wFn P (n + 1) f [.ref d, .int many] M Q E := by
  obtain ⟨cells, a, r, g, h1, hc, h2⟩ := h
  have dv : DivOk many := DivOk.of hm hm2
  have md : ∀ i : Int, 0 ≤ i % many ∧ i % many < many := fun i => ⟨Int.emod_nonneg _ (by omega), Int.emod_lt_of_pos _ hm⟩
  refine enter hf rfl ?_
  simp only [d_draw]
  rw [ss_cons]
  simp! only [h1]
  split
  · rw [ss_cons]
    simp! only [h1]
    rw [ss_cons]
    simp! only [h1]
    refine ⟨dv, ?_⟩
    rw [ss_cons]
    walk_at "wp"
    exact ⟨hm, leave (q _ _ (md _).1 (md _).2 (Dst.put hc h2 a (r / many) g (by omega) rfl))⟩
  · skip
    have rest : ∀ (size : Int) (sl : Slot), wSs (wFn P n) (d_draw.body.drop 3) [.val (.ref d), .val (.int many), .no, .val (.int size), sl] M (Kt0 Q E) := fun size sl => by
      simp only [d_draw, List.drop]
      rw [ss_cons]
      simp! only [h1]
      rw [ss_cons]
      simp! only [CMulD]
      refine ⟨by decide, by decide, by decide, .inl (by decide), ?_⟩
      split
      · rw [ss_cons]
        walk_at "wp"
        refine ⟨DivOk.of (by decide) (by decide), by decide, by decide, by decide, ?_, ?_⟩
        · rw [Int.one_mul]; exact Int.pow_pos (by decide)
        rw [ss_cons]
        walk_at "wp"
        refine ⟨dv, ?_⟩
        rw [ss_cons]
        walk_at "wp"
        exact ⟨hm, leave (q _ _ (md _).1 (md _).2 (DrS.trans (Dst.put hc h2 (a + 1) r g (by omega) rfl) (Dst.put hc (by rw [upd_no hc]; exact h2) (a + 1) _ g (by omega) rfl)))⟩
      · rw [ss_cons]
        simp! only [CMulD]
        refine ⟨.inr (by decide), by decide, .inr (by decide), .inr (by decide), by decide, ?_⟩
        rw [ss_cons]
        simp! only [CMulD]
        exact ⟨DivOk.of (by decide) (by decide), hm, leave (q _ _ (md _).1 (md _).2 (DrS.trans (Dst.put hc h2 (a + 1) r g (by omega) rfl) (Dst.put hc (by rw [upd_no hc]; exact h2) (a + 1) r _ (by omega) rfl)))⟩
    rw [ss_cons]
    walk_at "wp"
    rw [ss_cons]
    simp! only [h1, h2]
    split
    · rename_i hlt
      have hlt' : a < cells.length := by simpa using hlt
      have e1 : L2.atI (cells.map D.int) (a : Int) = some (.int cells[a]) := atI_nat' rfl (by simp [List.getElem?_eq_getElem hlt'])
      rw [ss_cons]
      simp! only [h1, h2, e1]
      rw [ss_cons]
      simp! only [CMulD]
      refine ⟨.inl (by decide), ?_⟩
      exact rest _ _
    · exact rest 0 .no
/-- one of a row -/
theorem pick_ok {fd : Nat} (hf : P[f]? = some (d_pick fd)) (hd : P[fd]? = some d_draw) {d c a : Nat} {xs : List D} (h : Dst M d c) (hx : M a = some (.lst xs)) (had : a ≠ d) (h0 : xs ≠ []) (h1 : xs.length < 1073741824) (q : ∀ x M', x ∈ xs → DrS d c M M' → Q x M') : wFn P (n + 2) f [.ref d, .ref a] M Q E := by
  have hl : 0 < xs.length := List.length_pos_iff.mpr h0
  refine enter hf rfl ?_
  simp only [d_pick]
  rw [ss_cons]
  simp! only [hx]
  refine draw_ok hd (by omega) (by omega) h fun k M' k0 k1 s => ?_
  have e : L2.atI xs k = some xs[k.toNat] := atI_nat' (k := k.toNat) (by omega) (by simp)
  simp only [s.2 a had, hx, wS, wE, wEs, wO, wAs, wL, wN, wI, wT, wTs, setAll, Tg.slots, wipeE, cmp_eq_int, cmp_ne_int, cmp_eq_str, cmp_ne_str, cmp_eq_tup, cmp_ne_tup, cmp_eq_bl, cmp_lt, cmp_le, cmp_gt, cmp_ge, Kt0_rt, Kt0_nx, List.getElem?_cons_zero, List.getElem?_cons_succ, List.set_cons_zero, List.set_cons_succ, Option.some.injEq, Slot.val.injEq, Slot.own.injEq, MO.lst.injEq, D.int.injEq, D.ref.injEq, D.bl.injEq, D.tup.injEq, D.str.injEq, exists_eq_left', exists_eq_left, exists_and_left, exists_and_right, and_assoc, true_and, and_true, atI_0, atI_1, atI_2, atI_3, atI_4, backs, drps, List.map_cons, List.map_nil, List.length_cons, List.length_nil, List.cons_append, List.nil_append, List.replicate, Nat.reduceAdd, Nat.reduceSub, decide_eq_true_eq, upd_at, aug_add_int, aug_sub_int, aug_mul_int, aug_add_str, ixN5_1, ixN5_2, ixN5_3, Int.toNat_natCast, List.length_map, List.length_range, tg_nm, tg_tp, tru_non, tru_bl, tru_int, tru_str, tru_tup, tru_ref, bin_add_int, bin_add_str, bin_add_tup, bin_sub, bin_mul, bin_fdiv, bin_mod, bin_pow, bin_shl, bin_shr, bin_band, bin_bor, idx_tup, idx_ref, idx_str, blt_len_tup, blt_len_str, blt_len_ref, blt_int_int, blt_int_bl, blt_bool_bl, blt_bool_int, blt_abs, blt_max2, blt_max3, blt_min2, blt_tuple_tup, blt_tuple_ref, blt_isa_non, blt_isa_bl, blt_isa_int, blt_isa_str, blt_isa_tup, isa_int_int, isa_int_bool, isa_bl_bool, isa_tup, isa_str, lk_tuple, lk_len, lk_all, lk_any, lk_sum, it_tup, it_rl, it_ref, zip_tup, enum_tup, enum_ref, eq_self_iff_true, if_true, Bool.false_eq_true, if_false, reduceIte, ss_nil, rev_tup, rev_ref, ty_split, ty_join, ty_append, ty_pop, ty_popAt, ty_reverse, ty_extend, ty_insert, mth_append, mth_pop, mth_popAt, mth_reverse, mth_extend, mth_insert, mth_split, mth_join, cmp_eq_ref, cmp_ne_ref, slc_tup, slc_str, slc_ref, lk_max, lk_min, cmp_lt_str, cmp_is_bl, cmp_not_bl, cmp_is_non, cmp_not_non, cmp_is_tup, cmp_not_tup, cmp_is_int, cmp_not_int, blt_str, blt_maxt, blt_mint, tg_np, e]
  exact leave (q _ _ (List.getElem_mem _) s)
/-- one of a row of its own -/
theorem pick_tmp {fd : Nat} (hf : P[f]? = some (d_pick fd)) (hd : P[fd]? = some d_draw) {d c p : Nat} {xs : List D} (h : Dst M d c) (hp : M p = none) (h0 : xs ≠ []) (h1 : xs.length < 1073741824) (q : ∀ x M2, x ∈ xs → DrS d c M (drp M2 p) → Q x M2) : wFn P (n + 2) f [.ref d, .ref p] (upd M p (.lst xs)) Q E :=
  pick_ok hf hd (h.upd hp) upd_at (h.none hp).1.symm.symm h0 h1 fun x M' hx s => q x _ hx (s.drp h hp)
/-- one of a tuple -/
theorem pick_tup {fd : Nat} (hf : P[f]? = some (d_pick fd)) (hd : P[fd]? = some d_draw) {d c : Nat} {xs : List D} (h : Dst M d c) (h0 : xs ≠ []) (h1 : xs.length < 1073741824) (q : ∀ x M', x ∈ xs → DrS d c M M' → Q x M') : wFn P (n + 2) f [.ref d, .tup xs] M Q E := by
  have hl : 0 < xs.length := List.length_pos_iff.mpr h0
  refine enter hf rfl ?_
  simp only [d_pick]
  rw [ss_cons]
  walk_at "wp"
  refine draw_ok hd (by omega) (by omega) h fun k M' k0 k1 s => ?_
  have e : L2.atI xs k = some xs[k.toNat] := atI_nat' (k := k.toNat) (by omega) (by simp)
  simp! only [e]
  exact leave (q _ _ (List.getElem_mem _) s)
/-- the drawer itself -/
theorem begin_ok (hf : P[f]? = some d_begin) {ns : List Int} (hl : ns.length ≤ 63) (q : ∀ d c M', Dst M' d c → Q (.ref d) M') : wFn P (n + 1) f [.rl (ns.map D.int)] (fun _ => none) Q E := by
  refine enter hf rfl ?_
  simp only [d_begin]
  rw [ss_cons]
  walk_at "wp"
  refine ⟨Nat.le_trans hl (by decide), cmpr_map id trivial (fun x hx R hR => ?_) fun p hp => ⟨by decide, fun d hd => ?_⟩⟩
  · obtain ⟨i, hi, rfl⟩ := List.mem_map.mp hx
    walk_at "wp"
    exact hR
  · refine leave (q d p _ ?_)
    rw [List.map_id]
    have hdp : p ≠ d := by intro z; subst z; rw [upd_at] at hd; cases hd
    exact ⟨ns, 0, 0, 7, by rw [upd_at]; rfl, hdp, by rw [upd_no hdp, upd_at]⟩
end
end DL
/-! Tables: squares of small numbers. -/
namespace DL
local macro_rules | `(tactic| walk_at "wp") => `(tactic| simp only [wS, wE, wEs, wO, wAs, wL, wN, wI, wT, wTs, setAll, Tg.slots, wipeE, cmp_eq_int, cmp_ne_int, cmp_eq_str, cmp_ne_str, cmp_eq_tup, cmp_ne_tup, cmp_eq_bl, cmp_lt, cmp_le, cmp_gt, cmp_ge, Kt0_rt, Kt0_nx, List.getElem?_cons_zero, List.getElem?_cons_succ, List.set_cons_zero, List.set_cons_succ, Option.some.injEq, Slot.val.injEq, Slot.own.injEq, MO.lst.injEq, D.int.injEq, D.ref.injEq, D.bl.injEq, D.tup.injEq, D.str.injEq, exists_eq_left', exists_eq_left, exists_and_left, exists_and_right, and_assoc, true_and, and_true, atI_0, atI_1, atI_2, atI_3, atI_4, backs, drps, List.map_cons, List.map_nil, List.length_cons, List.length_nil, List.cons_append, List.nil_append, List.replicate, Nat.reduceAdd, Nat.reduceSub, decide_eq_true_eq, upd_at, aug_add_int, aug_sub_int, aug_mul_int, aug_add_str, ixN5_1, ixN5_2, ixN5_3, Int.toNat_natCast, List.length_map, List.length_range, tg_nm, tg_tp, tru_non, tru_bl, tru_int, tru_str, tru_tup, tru_ref, bin_add_int, bin_add_str, bin_add_tup, bin_sub, bin_mul, bin_fdiv, bin_mod, bin_pow, bin_shl, bin_shr, bin_band, bin_bor, idx_tup, idx_ref, idx_str, blt_len_tup, blt_len_str, blt_len_ref, blt_int_int, blt_int_bl, blt_bool_bl, blt_bool_int, blt_abs, blt_max2, blt_max3, blt_min2, blt_tuple_tup, blt_tuple_ref, blt_isa_non, blt_isa_bl, blt_isa_int, blt_isa_str, blt_isa_tup, isa_int_int, isa_int_bool, isa_bl_bool, isa_tup, isa_str, lk_tuple, lk_len, lk_all, lk_any, lk_sum, it_tup, it_rl, it_ref, zip_tup, enum_tup, enum_ref, eq_self_iff_true, if_true, Bool.false_eq_true, if_false, reduceIte, ss_nil, rev_tup, rev_ref, ty_split, ty_join, ty_append, ty_pop, ty_popAt, ty_reverse, ty_extend, ty_insert, mth_append, mth_pop, mth_popAt, mth_reverse, mth_extend, mth_insert, mth_split, mth_join, cmp_eq_ref, cmp_ne_ref, slc_tup, slc_str, slc_ref, lk_max, lk_min, cmp_lt_str, cmp_is_bl, cmp_not_bl, cmp_is_non, cmp_not_non, cmp_is_tup, cmp_not_tup, cmp_is_int, cmp_not_int, blt_str, blt_maxt, blt_mint, tg_np])
local macro_rules | `(tactic| simp! only [$xs:simpLemma,*]) => `(tactic| simp only [wS, wE, wEs, wO, wAs, wL, wN, wI, wT, wTs, setAll, Tg.slots, wipeE, cmp_eq_int, cmp_ne_int, cmp_eq_str, cmp_ne_str, cmp_eq_tup, cmp_ne_tup, cmp_eq_bl, cmp_lt, cmp_le, cmp_gt, cmp_ge, Kt0_rt, Kt0_nx, List.getElem?_cons_zero, List.getElem?_cons_succ, List.set_cons_zero, List.set_cons_succ, Option.some.injEq, Slot.val.injEq, Slot.own.injEq, MO.lst.injEq, D.int.injEq, D.ref.injEq, D.bl.injEq, D.tup.injEq, D.str.injEq, exists_eq_left', exists_eq_left, exists_and_left, exists_and_right, and_assoc, true_and, and_true, atI_0, atI_1, atI_2, atI_3, atI_4, backs, drps, List.map_cons, List.map_nil, List.length_cons, List.length_nil, List.cons_append, List.nil_append, List.replicate, Nat.reduceAdd, Nat.reduceSub, decide_eq_true_eq, upd_at, aug_add_int, aug_sub_int, aug_mul_int, aug_add_str, ixN5_1, ixN5_2, ixN5_3, Int.toNat_natCast, List.length_map, List.length_range, tg_nm, tg_tp, tru_non, tru_bl, tru_int, tru_str, tru_tup, tru_ref, bin_add_int, bin_add_str, bin_add_tup, bin_sub, bin_mul, bin_fdiv, bin_mod, bin_pow, bin_shl, bin_shr, bin_band, bin_bor, idx_tup, idx_ref, idx_str, blt_len_tup, blt_len_str, blt_len_ref, blt_int_int, blt_int_bl, blt_bool_bl, blt_bool_int, blt_abs, blt_max2, blt_max3, blt_min2, blt_tuple_tup, blt_tuple_ref, blt_isa_non, blt_isa_bl, blt_isa_int, blt_isa_str, blt_isa_tup, isa_int_int, isa_int_bool, isa_bl_bool, isa_tup, isa_str, lk_tuple, lk_len, lk_all, lk_any, lk_sum, it_tup, it_rl, it_ref, zip_tup, enum_tup, enum_ref, eq_self_iff_true, if_true, Bool.false_eq_true, if_false, reduceIte, ss_nil, rev_tup, rev_ref, ty_split, ty_join, ty_append, ty_pop, ty_popAt, ty_reverse, ty_extend, ty_insert, mth_append, mth_pop, mth_popAt, mth_reverse, mth_extend, mth_insert, mth_split, mth_join, cmp_eq_ref, cmp_ne_ref, slc_tup, slc_str, slc_ref, lk_max, lk_min, cmp_lt_str, cmp_is_bl, cmp_not_bl, cmp_is_non, cmp_not_non, cmp_is_tup, cmp_not_tup, cmp_is_int, cmp_not_int, blt_str, blt_maxt, blt_mint, tg_np, $xs,*])
open PySem
section
def d_identity : Fn := { name := "identity", arity := 1, slots := ["many", "y", "x"], body :=
  [(.ret (.lk .tuple (.new (.comp (.lk .tuple (.new (.comp (.blt .int (.cons (.cmp .eq (.var 2) (.var 1)) .nil)) (.nm 1) (.range (.var 0)) none))) (.nm 2) (.range (.var 0)) none))))] }
def d_composed_row : Fn := { name := "composed_row", arity := 3, slots := ["row", "second", "many", "found", "y", "entry", "behind", "z"], body :=
  [(.asgN 3 (.comp (.cst (.int 0)) (.nm 7) (.range (.var 2)) none)),
    (.for_ (.nm 4) (.range (.var 2)) [(.asg (.nm 5) (.idx (.var 0) (.var 4))),
    (.ite (.v (.cmp .eq (.var 5) (.cst (.int 0)))) [.cnt] []),
    (.asg (.nm 6) (.idx (.var 1) (.var 4))),
    (.for_ (.nm 7) (.range (.var 2)) [(.ite (.v (.cmp .gt (.idx (.var 6) (.var 7)) (.cst (.int 0)))) [(.set 3 (.var 7) (.blt .max (.cons (.lidx (.own 3) (.var 7)) (.cons (.var 5) (.cons (.idx (.var 6) (.var 7)) .nil)))))] [])])]),
    (.ret (.lk .tuple (.own 3)))] }
def d_compose (f_composed_row : Nat) : Fn := { name := "compose", arity := 2, slots := ["first", "second", "many", "row"], body :=
  [(.asg (.nm 2) (.blt .len (.cons (.var 0) .nil))),
    (.ret (.lk .tuple (.new (.comp (.call f_composed_row (.cons (.var 3) (.cons (.var 1) (.cons (.var 2) .nil)))) (.nm 3) (.dyn (.var 0)) none))))] }
def d_compose_all (f_identity : Nat) (f_compose : Nat) : Fn := { name := "compose_all", arity := 2, slots := ["many", "tables", "found", "table"], body :=
  [(.asg (.nm 2) (.call f_identity (.cons (.var 0) .nil))),
    (.for_ (.nm 3) (.dyn (.var 1)) [(.asg (.nm 2) (.call f_compose (.cons (.var 2) (.cons (.var 3) .nil))))]),
    (.ret (.var 2))] }
def d_tells_less : Fn := { name := "tells_less", arity := 2, slots := ["one", "other", "row", "beside", "entry", "against"], body :=
  [(.for_ (.tp [2, 3]) (.zip (.var 0) (.var 1)) [(.for_ (.tp [4, 5]) (.zip (.var 2) (.var 3)) [(.ite (.v (.cmp .gt (.var 4) (.var 5))) [(.ret (.cst (.bl false)))] [])])]),
    (.ret (.cst (.bl true)))] }
def d__law_entry (f__law_pick : Nat) (f__law_draw : Nat) : Fn := { name := "_law_entry", arity := 2, slots := ["d", "style"], body :=
  [(.ite (.v (.cmp .eq (.var 1) (.cst (.int 0)))) [(.ret (.call f__law_pick (.cons (.var 0) (.tmp (.disp (.cons (.cst (.int 0)) (.cons (.cst (.int 0)) (.cons (.cst (.int 0)) (.cons (.cst (.int 0)) (.cons (.cst (.int 1)) (.cons (.cst (.int 2)) .nil))))))) .nil))))] []),
    (.ite (.v (.cmp .eq (.var 1) (.cst (.int 1)))) [(.ret (.call f__law_draw (.cons (.var 0) (.cons (.cst (.int 3)) .nil))))] []),
    (.ret (.call f__law_pick (.cons (.var 0) (.tmp (.disp (.cons (.cst (.int 0)) (.cons (.cst (.int 0)) (.cons (.cst (.int 1)) (.cons (.cst (.int 1)) (.cons (.cst (.int 1)) (.cons (.cst (.int 2)) .nil))))))) .nil))))] }
def d__law_table (f__law_pick : Nat) (f__law_entry : Nat) : Fn := { name := "_law_table", arity := 3, slots := ["d", "many", "style", "rows", "x", "row", "y", "entry"], body :=
  [(.asgN 3 (.disp .nil)),
    (.for_ (.nm 4) (.range (.var 1)) [(.asgN 5 (.disp .nil)),
    (.for_ (.nm 6) (.range (.var 1)) [(.ite (.v (.cmp .eq (.var 2) (.cst (.int 3)))) [(.asg (.nm 7) (.call f__law_pick (.cons (.var 0) (.tmp (.disp (.cons (.cst (.int 0)) (.cons (.cst (.int 1)) (.cons (.cst (.int 1)) (.cons (.cst (.int 2)) .nil))))) .nil)))),
    (.app 5 (.ifx (.v (.cmp .eq (.var 4) (.var 6))) (.var 7) (.cst (.int 0))))] [(.ite (.v (.cmp .eq (.var 2) (.cst (.int 4)))) [(.asg (.nm 7) (.call f__law_pick (.cons (.var 0) (.tmp (.disp (.cons (.cst (.int 1)) (.cons (.cst (.int 1)) (.cons (.cst (.int 2)) (.cons (.cst (.int 0)) .nil))))) .nil)))),
    (.app 5 (.ifx (.v (.cmp .eq (.var 4) (.var 6))) (.var 7) (.call f__law_pick (.cons (.var 0) (.tmp (.disp (.cons (.cst (.int 0)) (.cons (.cst (.int 0)) (.cons (.cst (.int 0)) (.cons (.cst (.int 0)) (.cons (.cst (.int 0)) (.cons (.cst (.int 1)) .nil))))))) .nil)))))] [(.app 5 (.call f__law_entry (.cons (.var 0) (.cons (.var 2) .nil))))])])]),
    (.app 3 (.lk .tuple (.own 5)))]),
    (.ret (.lk .tuple (.own 3)))] }
def d__law_compose : Fn := { name := "_law_compose", arity := 2, slots := ["first", "second", "many", "rows", "x", "row", "z", "entry", "y"], body :=
  [(.asg (.nm 2) (.blt .len (.cons (.var 0) .nil))),
    (.asgN 3 (.disp .nil)),
    (.for_ (.nm 4) (.range (.var 2)) [(.asgN 5 (.disp .nil)),
    (.for_ (.nm 6) (.range (.var 2)) [(.asg (.nm 7) (.cst (.int 0))),
    (.for_ (.nm 8) (.range (.var 2)) [(.ite (.and (.v (.cmp .gt (.idx (.idx (.var 0) (.var 4)) (.var 8)) (.cst (.int 0)))) (.v (.cmp .gt (.idx (.idx (.var 1) (.var 8)) (.var 6)) (.cst (.int 0))))) [(.asg (.nm 7) (.blt .max (.cons (.var 7) (.cons (.idx (.idx (.var 0) (.var 4)) (.var 8)) (.cons (.idx (.idx (.var 1) (.var 8)) (.var 6)) .nil)))))] [])]),
    (.app 5 (.var 7))]),
    (.app 3 (.lk .tuple (.own 5)))]),
    (.ret (.lk .tuple (.own 3)))] }
def d__law_is_ints (f__law_is_int : Nat) : Fn := { name := "_law_is_ints", arity := 1, slots := ["row", "part"], body :=
  [(.ret (.and (.blt (.isa .tuple) (.cons (.var 0) .nil)) (.lk .all (.new (.comp (.call f__law_is_int (.cons (.var 1) .nil)) (.nm 1) (.dyn (.var 0)) none)))))] }
def d__law_is_int : Fn := { name := "_law_is_int", arity := 1, slots := ["thing"], body :=
  [(.ret (.and (.blt (.isa .int) (.cons (.var 0) .nil)) (.not (.blt (.isa .bool) (.cons (.var 0) .nil)))))] }
def d__law_same (f__law_is_ints : Nat) : Fn := { name := "_law_same", arity := 2, slots := ["told", "due", "row"], body :=
  [(.ite (.or (.not (.v (.blt (.isa .tuple) (.cons (.var 0) .nil)))) (.not (.v (.lk .all (.new (.comp (.call f__law_is_ints (.cons (.var 2) .nil)) (.nm 2) (.dyn (.var 0)) none)))))) [(.ret (.cst (.bl false)))] []),
    (.ret (.cmp .eq (.var 0) (.var 1)))] }
def d__law_says : Fn := { name := "_law_says", arity := 2, slots := ["answer", "due"], body :=
  [(.ret (.and (.blt (.isa .bool) (.cons (.var 0) .nil)) (.cmp .eq (.var 0) (.var 1))))] }
def d__law_identity : Fn := { name := "_law_identity", arity := 1, slots := ["many", "rows", "x", "y"], body :=
  [(.asgN 1 (.disp .nil)),
    (.for_ (.nm 2) (.range (.var 0)) [(.app 1 (.lk .tuple (.new (.comp (.blt .int (.cons (.cmp .eq (.var 2) (.var 3)) .nil)) (.nm 3) (.range (.var 0)) none))))]),
    (.ret (.lk .tuple (.own 1)))] }
def d__law_at_most : Fn := { name := "_law_at_most", arity := 2, slots := ["one", "other", "x", "y"], body :=
  [(.for_ (.nm 2) (.range (.blt .len (.cons (.var 0) .nil))) [(.for_ (.nm 3) (.range (.blt .len (.cons (.var 0) .nil))) [(.ite (.v (.cmp .gt (.idx (.idx (.var 0) (.var 2)) (.var 3)) (.idx (.idx (.var 1) (.var 2)) (.var 3)))) [(.ret (.cst (.bl false)))] [])])]),
    (.ret (.cst (.bl true)))] }
def d__law_lowered (f__law_draw : Nat) : Fn := { name := "_law_lowered", arity := 2, slots := ["d", "table", "rows", "row", "entry"], body :=
  [(.asgN 2 (.disp .nil)),
    (.for_ (.nm 3) (.dyn (.var 1)) [(.app 2 (.lk .tuple (.new (.comp (.call f__law_draw (.cons (.var 0) (.cons (.bin .add (.var 4) (.cst (.int 1))) .nil))) (.nm 4) (.dyn (.var 3)) none))))]),
    (.ret (.lk .tuple (.own 2)))] }
def d__law_raised (f__law_draw : Nat) : Fn := { name := "_law_raised", arity := 2, slots := ["d", "table", "rows", "row", "entry"], body :=
  [(.asgN 2 (.disp .nil)),
    (.for_ (.nm 3) (.dyn (.var 1)) [(.app 2 (.lk .tuple (.new (.comp (.bin .add (.var 4) (.call f__law_draw (.cons (.var 0) (.cons (.bin .sub (.cst (.int 3)) (.var 4)) .nil)))) (.nm 4) (.dyn (.var 3)) none))))]),
    (.ret (.lk .tuple (.own 2)))] }
def d__law_changed : Fn := { name := "_law_changed", arity := 4, slots := ["table", "x", "y", "entry", "rows", "row"], body :=
  [(.asgN 4 (.comp (.mk (.copyT (.var 5))) (.nm 5) (.dyn (.var 0)) none)),
    (.mset (.lidx (.own 4) (.var 1)) (.var 2) (.var 3)),
    (.ret (.lk .tuple (.new (.comp (.blt .tuple (.cons (.var 5) .nil)) (.nm 5) (.own 4) none))))] }
def d__law_product (f__law_identity : Nat) (f__law_compose : Nat) : Fn := { name := "_law_product", arity := 2, slots := ["many", "tables", "found", "table"], body :=
  [(.asg (.nm 2) (.call f__law_identity (.cons (.var 0) .nil))),
    (.for_ (.nm 3) (.dyn (.rev (.var 1))) [(.asg (.nm 2) (.call f__law_compose (.cons (.var 3) (.cons (.var 2) .nil))))]),
    (.ret (.var 2))] }

def RD (n : Nat) (r : Nat → Int) : D := .tup ((List.range n).map fun y => .int (r y))
def TD (n : Nat) (g : Nat → Nat → Int) : D := .tup ((List.range n).map fun x => RD n (g x))
theorem RD_flat {n : Nat} {r : Nat → Int} {k : Nat} : D.flat (k + 1) (RD n r) = true := by
  rw [RD, D.flat]
  refine flats_of fun d hd => ?_
  obtain ⟨i, _, rfl⟩ := List.mem_map.mp hd
  simp [D.flat]
theorem TD_flat {n : Nat} {g : Nat → Nat → Int} : D.flat 60 (TD n g) = true := by
  rw [TD, D.flat]
  refine flats_of fun d hd => ?_
  obtain ⟨i, _, rfl⟩ := List.mem_map.mp hd
  exact RD_flat
theorem TD_congr {n : Nat} {g h : Nat → Nat → Int} (e : ∀ x y, x < n → y < n → g x y = h x y) : TD n g = TD n h := by
  unfold TD RD
  congr 1
  refine map_range_congr fun x hx => ?_
  congr 1
  exact map_range_congr fun y hy => by rw [e x y hx hy]
theorem idx_TD {n k : Nat} {g : Nat → Nat → Int} {M : Mem} {R : D → Prop} (h : k < n) : wIdx (TD n g) (.int (k : Int)) M R = R (RD n (g k)) := by
  rw [TD, wIdx, atI_range h]; simp
theorem idx_RD {n k : Nat} {r : Nat → Int} {M : Mem} {R : D → Prop} (h : k < n) : wIdx (RD n r) (.int (k : Int)) M R = R (.int (r k)) := by
  rw [RD, wIdx, atI_range h]; simp
theorem len_TD {n : Nat} {g : Nat → Nat → Int} {M : Mem} {R : D → Prop} : wBlt .len [TD n g] M R = R (.int (n : Int)) := by rw [TD, wBlt]; simp
theorem len_RD {n : Nat} {g : Nat → Int} {M : Mem} {R : D → Prop} : wBlt .len [RD n g] M R = R (.int (n : Int)) := by rw [RD, wBlt]; simp
theorem it_TD {n : Nat} {g : Nat → Nat → Int} {M : Mem} {R : List D → (Env → Mem → Prop) → Prop} : wIt (TD n g) M R = R ((List.range n).map fun x => RD n (g x)) fun _ _ => True := by rw [TD, wIt]
theorem it_RD {n : Nat} {g : Nat → Int} {M : Mem} {R : List D → (Env → Mem → Prop) → Prop} : wIt (RD n g) M R = R ((List.range n).map fun x => .int (g x)) fun _ _ => True := by rw [RD, wIt]
/-! the composition -/
def cmpN (r : Nat → Int) (h : Nat → Nat → Int) : Nat → Nat → Int
  | 0, _ => 0
  | k + 1, z => if 0 < r k ∧ 0 < h k z then max (max (cmpN r h k z) (r k)) (h k z) else cmpN r h k z
def comp (n : Nat) (g h : Nat → Nat → Int) : Nat → Nat → Int := fun x z => cmpN (g x) h n z
variable {P : List Fn} {n f : Nat} {M : Mem} {Q : QE} {E : QX}
theorem small_line {m : Nat} (h : m < 1000) : m ≤ sizeLine := Nat.le_trans (Nat.le_of_lt h) (by decide)
theorem composed_row_ok (hf : P[f]? = some d_composed_row) {m : Nat} (hm : m < 1000) {r : Nat → Int} {h : Nat → Nat → Int} (r0 : ∀ y, y < m → 0 ≤ r y) (q : Q (RD m (fun z => cmpN r h m z)) M) : wFn P (n + 1) f [RD m r, TD m h, .int m] M Q E := by
  refine enter hf rfl ?_
  simp only [d_composed_row]
  rw [ss_cons]
  walk_at "wp"
  refine ⟨by omega, by omega, small_line hm, cmpr_map (fun _ => .int 0) trivial (fun x hx R hR => hR) fun p hp => ?_⟩
  rw [ss_cons]
  walk_at "wp"
  refine ⟨by omega, by omega, ?_⟩
  refine for_range mF (fun k e M' => M' = M ∧ ∃ s1 s2 s3 s4, e = [.val (RD m r), .val (TD m h), .val (.int m), .own p (.lst ((List.range m).map fun z => .int (cmpN r h k z))), s1, s2, s3, s4]) ⟨rfl, .no, .no, .no, .no, ?_⟩ (fun _ _ _ _ => trivial) (fun e M' hI => ?_) (fun k e M' hk hI => ?_)
  · simp [cmpN, Function.comp_def]
  · obtain ⟨rfl, s1, s2, s3, s4, rfl⟩ := hI
    dsimp only
    rw [ss_cons]
    walk_at "wp"
    exact leave q
  · obtain ⟨rfl, s1, s2, s3, s4, rfl⟩ := hI
    walk_at "wp"
    rw [ss_cons]
    simp! only [idx_RD hk]
    rw [ss_cons]
    walk_at "wp"
    have rk := r0 k hk
    split
    · rename_i e0
      rw [ss_cons]
      walk_at "wp"
      have e : ((List.range m).map fun z => D.int (cmpN r h k z)) = (List.range m).map fun z => D.int (cmpN r h (k + 1) z) := map_range_congr fun z _ => by
        rw [cmpN, if_neg (by omega)]
      rw [e]
      exact ⟨_, _, _, _, rfl⟩
    · rename_i e0
      rw [ss_cons]
      simp! only [idx_TD hk]
      rw [ss_cons]
      walk_at "wp"
      refine ⟨by omega, by omega, ?_⟩
      refine for_range mF (fun j e M2 => M2 = M' ∧ ∃ s4, e = [.val (RD m r), .val (TD m h), .val (.int m), .own p (.lst ((List.range m).map fun z => .int (if z < j then cmpN r h (k + 1) z else cmpN r h k z))), .val (.int k), .val (.int (r k)), .val (RD m (h k)), s4]) ⟨rfl, s4, by simp⟩ (fun _ _ _ _ => trivial) (fun e M2 hI => ?_) (fun j e M2 hj hI => ?_)
      · obtain ⟨rfl, s4, rfl⟩ := hI
        walk_at "wp"
        have e : ((List.range m).map fun z => D.int (if z < m then cmpN r h (k + 1) z else cmpN r h k z)) = (List.range m).map fun z => D.int (cmpN r h (k + 1) z) := map_range_congr fun z hz => by rw [if_pos hz]
        rw [e]
        exact ⟨_, _, _, _, rfl⟩
      · obtain ⟨rfl, s4, rfl⟩ := hI
        walk_at "wp"
        rw [ss_cons]
        simp! only [idx_RD hj]
        split
        · rename_i hp2
          rw [ss_cons]
          simp! only [idx_RD hj, atI_range hj, ixN_cast hj]
          rw [set_range]
          rw [map_range_congr (h := fun z => D.int (if z < j + 1 then cmpN r h (k + 1) z else cmpN r h k z)) fun z hz => by
            by_cases e1 : z = j
            · subst e1
              rw [if_pos rfl, if_neg (Nat.lt_irrefl _), if_pos (Nat.lt_succ_self _), cmpN, if_pos ⟨by omega, hp2⟩]
            · rw [if_neg e1]
              by_cases e2 : z < j
              · rw [if_pos e2, if_pos (by omega)]
              · rw [if_neg e2, if_neg (by omega)]]
          exact ⟨_, rfl⟩
        · rename_i hp2
          have e : ((List.range m).map fun z => D.int (if z < j then cmpN r h (k + 1) z else cmpN r h k z)) = (List.range m).map fun z => D.int (if z < j + 1 then cmpN r h (k + 1) z else cmpN r h k z) := map_range_congr fun z hz => by
            by_cases e1 : z = j
            · subst e1
              rw [if_neg (Nat.lt_irrefl _), if_pos (Nat.lt_succ_self _), cmpN, if_neg (by omega)]
            · by_cases e2 : z < j
              · rw [if_pos e2, if_pos (by omega)]
              · rw [if_neg e2, if_neg (by omega)]
          rw [e]
          exact ⟨_, rfl⟩
theorem compose_ok {fr : Nat} (hf : P[f]? = some (d_compose fr)) (hr : P[fr]? = some d_composed_row) {m : Nat} (hm : m < 1000) {g h : Nat → Nat → Int} (g0 : ∀ x y, x < m → y < m → 0 ≤ g x y) (q : Q (TD m (comp m g h)) M) : wFn P (n + 2) f [TD m g, TD m h] M Q E := by
  refine enter hf rfl ?_
  simp only [d_compose]
  rw [ss_cons]
  simp! only [len_TD]
  rw [ss_cons]
  simp! only [it_TD]
  refine ⟨small_line hm, ?_⟩
  refine cmpr_range (fun x => RD m (g x)) (fun x => RD m (comp m g h x)) trivial (fun x hx R hR => ?_) (leave q)
  exact composed_row_ok hr hm (fun y hy => g0 x y hx hy) hR
theorem identity_ok (hf : P[f]? = some d_identity) {m : Nat} (hm : m < 1000) (q : Q (TD m (fun x y => if x = y then 1 else 0)) M) : wFn P (n + 1) f [.int m] M Q E := by
  refine enter hf rfl ?_
  simp only [d_identity]
  rw [ss_cons]
  walk_at "wp"
  refine ⟨by omega, by omega, small_line hm, ?_⟩
  refine cmpr_range (fun x => .int x) (fun x => RD m fun y => if x = y then 1 else 0) trivial (fun x hx R hR => ?_) (leave q)
  refine ⟨by omega, by omega, small_line hm, ?_⟩
  refine cmpr_range (fun x => .int x) (fun y => .int (if x = y then 1 else 0)) trivial (fun y hy R hR => ?_) hR
  simp! only [decide_eq_true_eq]
  have e : (if (x : Int) = (y : Int) then (1 : Int) else 0) = if x = y then 1 else 0 := by
    by_cases h : x = y
    · simp [h]
    · rw [if_neg h, if_neg (by omega)]
  rw [e]
  exact hR
def idm : Nat → Nat → Int := fun x y => if x = y then 1 else 0
theorem law_identity_ok (hf : P[f]? = some d__law_identity) {m : Nat} (hm : m < 1000) (q : Q (TD m idm) M) : wFn P (n + 1) f [.int m] M Q E := by
  refine enter hf rfl ?_
  simp only [d__law_identity]
  rw [ss_cons]
  walk_at "wp"
  refine ⟨by decide, fun p hp => ?_⟩
  rw [ss_cons]
  walk_at "wp"
  refine ⟨by omega, by omega, ?_⟩
  refine for_range mF (fun k e M' => M' = M ∧ k ≤ m ∧ ∃ s1 s2, e = [.val (.int m), .own p (.lst ((List.range k).map fun x => RD m (idm x))), s1, s2]) ⟨rfl, Nat.zero_le _, _, _, rfl⟩ (fun _ _ _ _ => trivial) (fun e M' hI => ?_) (fun k e M' hk hI => ?_)
  · obtain ⟨rfl, _, s1, s2, rfl⟩ := hI
    dsimp only
    rw [ss_cons]
    walk_at "wp"
    exact leave q
  · obtain ⟨rfl, _, s1, s2, rfl⟩ := hI
    walk_at "wp"
    rw [ss_cons]
    walk_at "wp"
    refine ⟨by omega, by omega, small_line hm, ?_⟩
    have es : (List.range k).map (fun x => RD m (idm x)) ++ [D.tup ((List.range m).map fun y => D.int (idm k y))] = (List.range (k + 1)).map fun x => RD m (idm x) := range_snoc (g := fun x => RD m (idm x))
    refine cmpr_range (fun x => .int x) (fun y => .int (idm k y)) trivial (fun y hy R hR => ?_) (by rw [es]; exact ⟨Nat.lt_of_lt_of_le (Nat.lt_trans hk hm) (by decide), rfl, by omega, _, _, rfl⟩)
    simp! only [decide_eq_true_eq]
    have e : (if (k : Int) = (y : Int) then (1 : Int) else 0) = idm k y := by
      unfold idm
      by_cases h : k = y
      · simp [h]
      · rw [if_neg h, if_neg (by omega)]
    rw [e]
    exact hR
/-! the reference -/
theorem law_compose_ok (hf : P[f]? = some d__law_compose) {m : Nat} (hm : m < 1000) {g h : Nat → Nat → Int} (q : Q (TD m (comp m g h)) M) : wFn P (n + 1) f [TD m g, TD m h] M Q E := by
  refine enter hf rfl ?_
  simp only [d__law_compose]
  rw [ss_cons]
  simp! only [len_TD]
  rw [ss_cons]
  walk_at "wp"
  refine ⟨by decide, fun p hp => ?_⟩
  rw [ss_cons]
  walk_at "wp"
  refine ⟨by omega, by omega, ?_⟩
  refine for_range mF (fun k e M' => M' = M ∧ k ≤ m ∧ ∃ s4 s5 s6 s7 s8, e = [.val (TD m g), .val (TD m h), .val (.int m), .own p (.lst ((List.range k).map fun x => RD m (comp m g h x))), s4, s5, s6, s7, s8]) ⟨rfl, Nat.zero_le _, _, _, _, _, _, rfl⟩ (fun _ _ _ _ => trivial) (fun e M' hI => ?_) (fun k e M' hk hI => ?_)
  · obtain ⟨rfl, _, s4, s5, s6, s7, s8, rfl⟩ := hI
    dsimp only
    rw [ss_cons]
    walk_at "wp"
    exact leave q
  · obtain ⟨rfl, _, s4, s5, s6, s7, s8, rfl⟩ := hI
    walk_at "wp"
    rw [ss_cons]
    walk_at "wp"
    refine ⟨by decide, fun p2 hp2 => ?_⟩
    rw [ss_cons]
    walk_at "wp"
    refine ⟨by omega, by omega, ?_⟩
    refine for_range mF (fun z e M2 => M2 = M' ∧ z ≤ m ∧ ∃ s6 s7 s8, e = [.val (TD m g), .val (TD m h), .val (.int m), .own p (.lst ((List.range k).map fun x => RD m (comp m g h x))), .val (.int k), .own p2 (.lst ((List.range z).map fun z => .int (comp m g h k z))), s6, s7, s8]) ⟨rfl, Nat.zero_le _, _, _, _, rfl⟩ (fun _ _ _ _ => trivial) (fun e M2 hI => ?_) (fun z e M2 hz hI => ?_)
    · obtain ⟨rfl, _, s6, s7, s8, rfl⟩ := hI
      dsimp only
      rw [ss_cons]
      walk_at "wp"
      have es : (List.range k).map (fun x => RD m (comp m g h x)) ++ [D.tup ((List.range m).map fun z => D.int (comp m g h k z))] = (List.range (k + 1)).map fun x => RD m (comp m g h x) := range_snoc (g := fun x => RD m (comp m g h x))
      rw [es]
      exact ⟨Nat.lt_of_lt_of_le (Nat.lt_trans hk hm) (by decide), by omega, _, _, _, _, _, rfl⟩
    · obtain ⟨rfl, _, s6, s7, s8, rfl⟩ := hI
      walk_at "wp"
      rw [ss_cons]
      walk_at "wp"
      rw [ss_cons]
      walk_at "wp"
      refine ⟨by omega, by omega, ?_⟩
      refine for_range mF (fun y e M3 => M3 = M2 ∧ ∃ s8, e = [.val (TD m g), .val (TD m h), .val (.int m), .own p (.lst ((List.range k).map fun x => RD m (comp m g h x))), .val (.int k), .own p2 (.lst ((List.range z).map fun z => .int (comp m g h k z))), .val (.int z), .val (.int (cmpN (g k) h y z)), s8]) ⟨rfl, _, rfl⟩ (fun _ _ _ _ => trivial) (fun e M3 hI => ?_) (fun y e M3 hy hI => ?_)
      · obtain ⟨rfl, s8, rfl⟩ := hI
        dsimp only
        rw [ss_cons]
        walk_at "wp"
        have es : (List.range z).map (fun z => D.int (comp m g h k z)) ++ [D.int (cmpN (g k) h m z)] = (List.range (z + 1)).map fun z => D.int (comp m g h k z) := range_snoc (g := fun z => D.int (comp m g h k z))
        rw [es]
        exact ⟨Nat.lt_of_lt_of_le (Nat.lt_trans hz hm) (by decide), by omega, _, _, _, rfl⟩
      · obtain ⟨rfl, s8, rfl⟩ := hI
        walk_at "wp"
        rw [ss_cons]
        simp! only [idx_TD hk, idx_RD hy, idx_TD hy, idx_RD hz]
        split
        · rename_i h1
          split
          · rename_i h2
            rw [ss_cons]
            simp! only [idx_TD hk, idx_RD hy, idx_TD hy, idx_RD hz]
            rw [cmpN, if_pos ⟨h1, h2⟩]
            exact ⟨_, rfl⟩
          · rename_i h2
            rw [cmpN, if_neg (by omega)]
            exact ⟨_, rfl⟩
        · rename_i h1
          rw [cmpN, if_neg (by omega)]
          exact ⟨_, rfl⟩
theorem is_int_ok (hf : P[f]? = some d__law_is_int) {i : Int} (q : Q (.bl true) M) : wFn P (n + 1) f [.int i] M Q E := by
  refine enter hf rfl ?_
  simp only [d__law_is_int]
  rw [ss_cons]
  walk_at "wp"
  exact leave q
theorem is_ints_ok {fi : Nat} (hf : P[f]? = some (d__law_is_ints fi)) (hi : P[fi]? = some d__law_is_int) {m : Nat} (hm : m < 1000) {r : Nat → Int} (q : Q (.bl true) M) : wFn P (n + 2) f [RD m r] M Q E := by
  refine enter hf rfl ?_
  simp only [d__law_is_ints, RD]
  rw [ss_cons]
  walk_at "wp"
  refine ⟨small_line hm, cmpr_range (fun x => .int (r x)) (fun x => .bl true) trivial (fun x hx R hR => is_int_ok hi hR) ?_⟩
  rw [allBl_true (fun x hx => by obtain ⟨i, _, rfl⟩ := List.mem_map.mp hx; rfl)]
  walk_at "wp"
  exact leave q
theorem same_ok {fs fi : Nat} (hf : P[f]? = some (d__law_same fs)) (hs : P[fs]? = some (d__law_is_ints fi)) (hi : P[fi]? = some d__law_is_int) {m : Nat} (hm : m < 1000) {g h : Nat → Nat → Int} (e : ∀ x y, x < m → y < m → g x y = h x y) (q : Q (.bl true) M) : wFn P (n + 3) f [TD m g, TD m h] M Q E := by
  rw [← TD_congr e]
  have fl := TD_flat (n := m) (g := g)
  have er := D.eqv_refl fl
  refine enter hf rfl ?_
  simp only [d__law_same]
  simp only [TD] at fl er ⊢
  rw [D.eqv] at er
  rw [ss_cons]
  walk_at "wp"
  simp only [isa_tup, Bool.not_true, Bool.false_eq_true, if_false, wS, wE, wEs, wO, wAs, wL, wN, wI, wT, wTs, setAll, Tg.slots, wipeE, cmp_eq_int, cmp_ne_int, cmp_eq_str, cmp_ne_str, cmp_eq_tup, cmp_ne_tup, cmp_eq_bl, cmp_lt, cmp_le, cmp_gt, cmp_ge, Kt0_rt, Kt0_nx, List.getElem?_cons_zero, List.getElem?_cons_succ, List.set_cons_zero, List.set_cons_succ, Option.some.injEq, Slot.val.injEq, Slot.own.injEq, MO.lst.injEq, D.int.injEq, D.ref.injEq, D.bl.injEq, D.tup.injEq, D.str.injEq, exists_eq_left', exists_eq_left, exists_and_left, exists_and_right, and_assoc, true_and, and_true, atI_0, atI_1, atI_2, atI_3, atI_4, backs, drps, List.map_cons, List.map_nil, List.length_cons, List.length_nil, List.cons_append, List.nil_append, List.replicate, Nat.reduceAdd, Nat.reduceSub, decide_eq_true_eq, upd_at, aug_add_int, aug_sub_int, aug_mul_int, aug_add_str, ixN5_1, ixN5_2, ixN5_3, Int.toNat_natCast, List.length_map, List.length_range, tg_nm, tg_tp, tru_non, tru_bl, tru_int, tru_str, tru_tup, tru_ref, bin_add_int, bin_add_str, bin_add_tup, bin_sub, bin_mul, bin_fdiv, bin_mod, bin_pow, bin_shl, bin_shr, bin_band, bin_bor, idx_tup, idx_ref, idx_str, blt_len_tup, blt_len_str, blt_len_ref, blt_int_int, blt_int_bl, blt_bool_bl, blt_bool_int, blt_abs, blt_max2, blt_max3, blt_min2, blt_tuple_tup, blt_tuple_ref, blt_isa_non, blt_isa_bl, blt_isa_int, blt_isa_str, blt_isa_tup, isa_int_int, isa_int_bool, isa_bl_bool, isa_tup, isa_str, lk_tuple, lk_len, lk_all, lk_any, lk_sum, it_tup, it_rl, it_ref, zip_tup, enum_tup, enum_ref, eq_self_iff_true, if_true, Bool.false_eq_true, if_false, reduceIte, ss_nil, rev_tup, rev_ref, ty_split, ty_join, ty_append, ty_pop, ty_popAt, ty_reverse, ty_extend, ty_insert, mth_append, mth_pop, mth_popAt, mth_reverse, mth_extend, mth_insert, mth_split, mth_join, cmp_eq_ref, cmp_ne_ref, slc_tup, slc_str, slc_ref, lk_max, lk_min, cmp_lt_str, cmp_is_bl, cmp_not_bl, cmp_is_non, cmp_not_non, cmp_is_tup, cmp_not_tup, cmp_is_int, cmp_not_int, blt_str, blt_maxt, blt_mint, tg_np]
  refine ⟨small_line hm, cmpr_range (fun x => RD m (g x)) (fun x => .bl true) trivial (fun x hx R hR => is_ints_ok hs hi hm hR) ?_⟩
  rw [allBl_true (fun x hx => by obtain ⟨i, _, rfl⟩ := List.mem_map.mp hx; rfl)]
  simp! only [Bool.not_true]
  rw [ss_cons]
  simp! only [fl, er]
  exact leave q
theorem says_ok (hf : P[f]? = some d__law_says) {b : Bool} (q : Q (.bl true) M) : wFn P (n + 1) f [.bl b, .bl b] M Q E := by
  refine enter hf rfl ?_
  simp only [d__law_says]
  rw [ss_cons]
  simp! only [beq_self_eq_true]
  exact leave q
/-- the order -/
def leT (m : Nat) (g h : Nat → Nat → Int) : Prop := ∀ x y, x < m → y < m → g x y ≤ h x y
instance {m : Nat} {g h : Nat → Nat → Int} : Decidable (leT m g h) :=
  decidable_of_iff (∀ x, x < m → ∀ y, y < m → g x y ≤ h x y) ⟨fun z x y hx hy => z x hx y hy, fun z x hx y hy => z x y hx hy⟩
theorem zip_TD {m : Nat} {g h : Nat → Nat → Int} {R : List D → (Env → Mem → Prop) → Prop} : wZip (TD m g) (TD m h) M R = R ((List.range m).map fun x => .tup [RD m (g x), RD m (h x)]) fun _ _ => True := by
  rw [TD, TD, zip_tup, List.zipWith_map, List.zipWith_self]
theorem zip_RD {m : Nat} {g h : Nat → Int} {R : List D → (Env → Mem → Prop) → Prop} : wZip (RD m g) (RD m h) M R = R ((List.range m).map fun x => .tup [.int (g x), .int (h x)]) fun _ _ => True := by
  rw [RD, RD, zip_tup, List.zipWith_map, List.zipWith_self]
theorem get_range {m i : Nat} {u : Nat → D} {x : D} (h : ((List.range m).map u)[i]? = some x) : i < m ∧ x = u i := by
  have hi := (List.getElem?_eq_some_iff.mp h).1
  simp at hi
  rw [List.getElem?_map, List.getElem?_range hi] at h
  exact ⟨hi, (Option.some.inj h).symm⟩
theorem tells_less_ok (hf : P[f]? = some d_tells_less) {m : Nat} {g h : Nat → Nat → Int} (q : Q (.bl (decide (leT m g h))) M) : wFn P (n + 1) f [TD m g, TD m h] M Q E := by
  refine enter hf rfl ?_
  simp only [d_tells_less]
  rw [ss_cons]
  simp! only [zip_TD]
  refine for_idx mF (fun k e M' => M' = M ∧ (∀ x y, x < k → y < m → g x y ≤ h x y) ∧ ∃ s2 s3 s4 s5, e = [.val (TD m g), .val (TD m h), s2, s3, s4, s5]) ⟨rfl, fun x y hx => absurd hx (Nat.not_lt_zero _), _, _, _, _, rfl⟩ (fun _ _ _ _ => trivial) (fun e M' hI => ?_) (fun k x e M' hx hI => ?_)
  · obtain ⟨rfl, hl, s2, s3, s4, s5, rfl⟩ := hI
    simp only [wS, wE, wEs, wO, wAs, wL, wN, wI, wT, wTs, setAll, Tg.slots, wipeE, cmp_eq_int, cmp_ne_int, cmp_eq_str, cmp_ne_str, cmp_eq_tup, cmp_ne_tup, cmp_eq_bl, cmp_lt, cmp_le, cmp_gt, cmp_ge, Kt0_rt, Kt0_nx, List.getElem?_cons_zero, List.getElem?_cons_succ, List.set_cons_zero, List.set_cons_succ, Option.some.injEq, Slot.val.injEq, Slot.own.injEq, MO.lst.injEq, D.int.injEq, D.ref.injEq, D.bl.injEq, D.tup.injEq, D.str.injEq, exists_eq_left', exists_eq_left, exists_and_left, exists_and_right, and_assoc, true_and, and_true, atI_0, atI_1, atI_2, atI_3, atI_4, backs, drps, List.map_cons, List.map_nil, List.length_cons, List.length_nil, List.cons_append, List.nil_append, List.replicate, Nat.reduceAdd, Nat.reduceSub, decide_eq_true_eq, upd_at, aug_add_int, aug_sub_int, aug_mul_int, aug_add_str, ixN5_1, ixN5_2, ixN5_3, Int.toNat_natCast, List.length_map, List.length_range, tg_nm, tg_tp, tru_non, tru_bl, tru_int, tru_str, tru_tup, tru_ref, bin_add_int, bin_add_str, bin_add_tup, bin_sub, bin_mul, bin_fdiv, bin_mod, bin_pow, bin_shl, bin_shr, bin_band, bin_bor, idx_tup, idx_ref, idx_str, blt_len_tup, blt_len_str, blt_len_ref, blt_int_int, blt_int_bl, blt_bool_bl, blt_bool_int, blt_abs, blt_max2, blt_max3, blt_min2, blt_tuple_tup, blt_tuple_ref, blt_isa_non, blt_isa_bl, blt_isa_int, blt_isa_str, blt_isa_tup, isa_int_int, isa_int_bool, isa_bl_bool, isa_tup, isa_str, lk_tuple, lk_len, lk_all, lk_any, lk_sum, it_tup, it_rl, it_ref, zip_tup, enum_tup, enum_ref, eq_self_iff_true, if_true, Bool.false_eq_true, if_false, reduceIte, ss_nil, rev_tup, rev_ref, ty_split, ty_join, ty_append, ty_pop, ty_popAt, ty_reverse, ty_extend, ty_insert, mth_append, mth_pop, mth_popAt, mth_reverse, mth_extend, mth_insert, mth_split, mth_join, cmp_eq_ref, cmp_ne_ref, slc_tup, slc_str, slc_ref, lk_max, lk_min, cmp_lt_str, cmp_is_bl, cmp_not_bl, cmp_is_non, cmp_not_non, cmp_is_tup, cmp_not_tup, cmp_is_int, cmp_not_int, blt_str, blt_maxt, blt_mint, tg_np] at hl ⊢
    rw [ss_cons]
    walk_at "wp"
    have : leT m g h := hl
    rw [decide_eq_true this] at q
    exact leave q
  · obtain ⟨rfl, hl, s2, s3, s4, s5, rfl⟩ := hI
    obtain ⟨hk, rfl⟩ := get_range hx
    walk_at "wp"
    rw [ss_cons]
    simp! only [zip_RD]
    refine for_idx mF (fun j e M2 => M2 = M' ∧ (∀ y, y < j → g k y ≤ h k y) ∧ ∃ s4 s5, e = [.val (TD m g), .val (TD m h), .val (RD m (g k)), .val (RD m (h k)), s4, s5]) ⟨rfl, fun y hy => absurd hy (Nat.not_lt_zero _), _, _, rfl⟩ (fun _ _ _ _ => trivial) (fun e M2 hI => ?_) (fun j x e M2 hx hI => ?_)
    · obtain ⟨rfl, hj, s4, s5, rfl⟩ := hI
      simp only [wS, wE, wEs, wO, wAs, wL, wN, wI, wT, wTs, setAll, Tg.slots, wipeE, cmp_eq_int, cmp_ne_int, cmp_eq_str, cmp_ne_str, cmp_eq_tup, cmp_ne_tup, cmp_eq_bl, cmp_lt, cmp_le, cmp_gt, cmp_ge, Kt0_rt, Kt0_nx, List.getElem?_cons_zero, List.getElem?_cons_succ, List.set_cons_zero, List.set_cons_succ, Option.some.injEq, Slot.val.injEq, Slot.own.injEq, MO.lst.injEq, D.int.injEq, D.ref.injEq, D.bl.injEq, D.tup.injEq, D.str.injEq, exists_eq_left', exists_eq_left, exists_and_left, exists_and_right, and_assoc, true_and, and_true, atI_0, atI_1, atI_2, atI_3, atI_4, backs, drps, List.map_cons, List.map_nil, List.length_cons, List.length_nil, List.cons_append, List.nil_append, List.replicate, Nat.reduceAdd, Nat.reduceSub, decide_eq_true_eq, upd_at, aug_add_int, aug_sub_int, aug_mul_int, aug_add_str, ixN5_1, ixN5_2, ixN5_3, Int.toNat_natCast, List.length_map, List.length_range, tg_nm, tg_tp, tru_non, tru_bl, tru_int, tru_str, tru_tup, tru_ref, bin_add_int, bin_add_str, bin_add_tup, bin_sub, bin_mul, bin_fdiv, bin_mod, bin_pow, bin_shl, bin_shr, bin_band, bin_bor, idx_tup, idx_ref, idx_str, blt_len_tup, blt_len_str, blt_len_ref, blt_int_int, blt_int_bl, blt_bool_bl, blt_bool_int, blt_abs, blt_max2, blt_max3, blt_min2, blt_tuple_tup, blt_tuple_ref, blt_isa_non, blt_isa_bl, blt_isa_int, blt_isa_str, blt_isa_tup, isa_int_int, isa_int_bool, isa_bl_bool, isa_tup, isa_str, lk_tuple, lk_len, lk_all, lk_any, lk_sum, it_tup, it_rl, it_ref, zip_tup, enum_tup, enum_ref, eq_self_iff_true, if_true, Bool.false_eq_true, if_false, reduceIte, ss_nil, rev_tup, rev_ref, ty_split, ty_join, ty_append, ty_pop, ty_popAt, ty_reverse, ty_extend, ty_insert, mth_append, mth_pop, mth_popAt, mth_reverse, mth_extend, mth_insert, mth_split, mth_join, cmp_eq_ref, cmp_ne_ref, slc_tup, slc_str, slc_ref, lk_max, lk_min, cmp_lt_str, cmp_is_bl, cmp_not_bl, cmp_is_non, cmp_not_non, cmp_is_tup, cmp_not_tup, cmp_is_int, cmp_not_int, blt_str, blt_maxt, blt_mint, tg_np] at hj ⊢
      refine ⟨fun x y hx hy => ?_, _, _, _, _, rfl⟩
      rcases Nat.lt_succ_iff_lt_or_eq.mp hx with z | z
      · exact hl x y z hy
      · subst z; exact hj y hy
    · obtain ⟨rfl, hj, s4, s5, rfl⟩ := hI
      obtain ⟨hjm, rfl⟩ := get_range hx
      walk_at "wp"
      rw [ss_cons]
      walk_at "wp"
      split
      · rename_i hlt
        rw [ss_cons]
        walk_at "wp"
        have : ¬ leT m g h := fun z => absurd (z k j hk hjm) (by omega)
        rw [decide_eq_false this] at q
        exact leave q
      · rename_i hlt
        refine ⟨fun y hy => ?_, _, _, rfl⟩
        rcases Nat.lt_succ_iff_lt_or_eq.mp hy with z | z
        · exact hj y z
        · subst z; omega
theorem at_most_ok (hf : P[f]? = some d__law_at_most) {m : Nat} (hm : m < 1000) {g h : Nat → Nat → Int} (q : Q (.bl (decide (leT m g h))) M) : wFn P (n + 1) f [TD m g, TD m h] M Q E := by
  refine enter hf rfl ?_
  simp only [d__law_at_most]
  rw [ss_cons]
  simp! only [len_TD]
  refine ⟨by omega, by omega, ?_⟩
  refine for_range mF (fun k e M' => M' = M ∧ (∀ x y, x < k → y < m → g x y ≤ h x y) ∧ ∃ s2 s3, e = [.val (TD m g), .val (TD m h), s2, s3]) ⟨rfl, fun x y hx => absurd hx (Nat.not_lt_zero _), _, _, rfl⟩ (fun _ _ _ _ => trivial) (fun e M' hI => ?_) (fun k e M' hk hI => ?_)
  · obtain ⟨rfl, hl, s2, s3, rfl⟩ := hI
    dsimp only
    rw [ss_cons]
    walk_at "wp"
    have : leT m g h := hl
    rw [decide_eq_true this] at q
    exact leave q
  · obtain ⟨rfl, hl, s2, s3, rfl⟩ := hI
    walk_at "wp"
    rw [ss_cons]
    simp! only [len_TD]
    refine ⟨by omega, by omega, ?_⟩
    refine for_range mF (fun j e M2 => M2 = M' ∧ (∀ y, y < j → g k y ≤ h k y) ∧ ∃ s3, e = [.val (TD m g), .val (TD m h), .val (.int k), s3]) ⟨rfl, fun y hy => absurd hy (Nat.not_lt_zero _), _, rfl⟩ (fun _ _ _ _ => trivial) (fun e M2 hI => ?_) (fun j e M2 hj hI => ?_)
    · obtain ⟨rfl, hj, s3, rfl⟩ := hI
      walk_at "wp"
      refine ⟨fun x y hx hy => ?_, _, _, rfl⟩
      rcases Nat.lt_succ_iff_lt_or_eq.mp hx with z | z
      · exact hl x y z hy
      · subst z; exact hj y hy
    · obtain ⟨rfl, hjl, s3, rfl⟩ := hI
      walk_at "wp"
      rw [ss_cons]
      simp! only [idx_TD hk, idx_RD hj]
      split
      · rename_i hlt
        rw [ss_cons]
        walk_at "wp"
        have : ¬ leT m g h := fun z => absurd (z k j hk hj) (by omega)
        rw [decide_eq_false this] at q
        exact leave q
      · rename_i hlt
        refine ⟨fun y hy => ?_, _, rfl⟩
        rcases Nat.lt_succ_iff_lt_or_eq.mp hy with z | z
        · exact hjl y z
        · subst z; omega
/-! drawn tables -/
def Ent (m : Nat) (g : Nat → Nat → Int) : Prop := ∀ x y, x < m → y < m → 0 ≤ g x y ∧ g x y ≤ 2
def IsE (d : D) : Prop := ∃ i : Int, d = .int i ∧ 0 ≤ i ∧ i ≤ 2
theorem entry_ok {fp fd : Nat} (hf : P[f]? = some (d__law_entry fp fd)) (hp : P[fp]? = some (d_pick fd)) (hd : P[fd]? = some d_draw) {d c : Nat} {st : Int} (h : Dst M d c) (q : ∀ i M', 0 ≤ i → i ≤ 2 → DrS d c M M' → Q (.int i) M') : wFn P (n + 3) f [.ref d, .int st] M Q E := by
  have pick : ∀ (xs : List D) (p : Nat) (Q : QE) (E : QX), M p = none → xs ≠ [] → xs.length < 1073741824 → (∀ x ∈ xs, IsE x) → (∀ i M', 0 ≤ i → i ≤ 2 → DrS d c M (drp M' p) → Q (.int i) M') → wFn P (n + 2) fp [.ref d, .ref p] (upd M p (.lst xs)) Q E := fun xs p Q E hp2 h0 h1 ha hq =>
    pick_tmp hp hd h hp2 h0 h1 fun x M2 hx s => by
      obtain ⟨i, rfl, i0, i2⟩ := ha x hx
      exact hq i M2 i0 i2 s
  refine enter hf rfl ?_
  simp only [d__law_entry]
  rw [ss_cons]
  walk_at "wp"
  split
  · rw [ss_cons]
    walk_at "wp"
    refine ⟨by decide, fun p hp2 => pick _ p _ _ hp2 (by simp) (by decide) (fun x hx => ?_) fun i M' i0 i2 s => leave (q i _ i0 i2 s)⟩
    simp at hx
    rcases hx with rfl | rfl | rfl <;> exact ⟨_, rfl, by decide, by decide⟩
  · rw [ss_cons]
    walk_at "wp"
    split
    · rw [ss_cons]
      walk_at "wp"
      exact draw_ok hd (by decide) (by decide) h fun k M' k0 k1 s => leave (q k M' k0 (by omega) s)
    · rw [ss_cons]
      walk_at "wp"
      refine ⟨by decide, fun p hp2 => pick _ p _ _ hp2 (by simp) (by decide) (fun x hx => ?_) fun i M' i0 i2 s => leave (q i _ i0 i2 s)⟩
      simp at hx
      rcases hx with rfl | rfl | rfl <;> exact ⟨_, rfl, by decide, by decide⟩
theorem RD_of {ds : List D} {good : Int → Prop} (h : ∀ x ∈ ds, ∃ i : Int, x = .int i ∧ good i) : ∃ r : Nat → Int, .tup ds = RD ds.length r ∧ ∀ y, y < ds.length → good (r y) := by
  obtain ⟨r, e, hr⟩ := fn_of h
  exact ⟨r, congrArg D.tup e, hr⟩
theorem TD_of {m : Nat} {ds : List D} {good : (Nat → Int) → Prop} (h : ∀ x ∈ ds, ∃ r, x = RD m r ∧ good r) (hl : ds.length = m) : ∃ g : Nat → Nat → Int, .tup ds = TD m g ∧ ∀ y, y < m → good (g y) := by
  obtain ⟨g, e, hg⟩ := fn_of h
  rw [hl] at e hg
  exact ⟨g, congrArg D.tup e, hg⟩
theorem table_ok {fp fe fd : Nat} (hf : P[f]? = some (d__law_table fp fe)) (he : P[fe]? = some (d__law_entry fp fd)) (hp : P[fp]? = some (d_pick fd)) (hd : P[fd]? = some d_draw) {d c m : Nat} {st : Int} (hm : m < 1000) (h : Dst M d c) (q : ∀ g M', Ent m g → DrS d c M M' → Q (TD m g) M') : wFn P (n + 4) f [.ref d, .int m, .int st] M Q E := by
  have pick : ∀ (M : Mem) (xs : List D) (p : Nat) (Q : QE) (E : QX), Dst M d c → M p = none → xs ≠ [] → xs.length < 1073741824 → (∀ x ∈ xs, IsE x) → (∀ i M', 0 ≤ i → i ≤ 2 → DrS d c M (drp M' p) → Q (.int i) M') → wFn P (n + 3) fp [.ref d, .ref p] (upd M p (.lst xs)) Q E := fun M xs p Q E h hp2 h0 h1 ha hq =>
    pick_tmp hp hd h hp2 h0 h1 fun x M2 hx s => by
      obtain ⟨i, rfl, i0, i2⟩ := ha x hx
      exact hq i M2 i0 i2 s
  refine enter hf rfl ?_
  simp only [d__law_table]
  rw [ss_cons]
  walk_at "wp"
  refine ⟨by decide, fun p hp => ?_⟩
  rw [ss_cons]
  walk_at "wp"
  refine ⟨by omega, by omega, ?_⟩
  refine for_range mF (fun k e M' => DrS d c M M' ∧ k ≤ m ∧ ∃ rows, rows.length = k ∧ (∀ x ∈ rows, ∃ r, x = RD m r ∧ ∀ y, y < m → 0 ≤ r y ∧ r y ≤ 2) ∧ ∃ s4 s5 s6 s7, e = [.val (.ref d), .val (.int m), .val (.int st), .own p (.lst rows), s4, s5, s6, s7]) ⟨DrS.refl h, Nat.zero_le _, [], rfl, by simp, _, _, _, _, rfl⟩ (fun _ _ _ _ => trivial) (fun e M' hI => ?_) (fun k e M' hk hI => ?_)
  · obtain ⟨hs, _, rows, hl, hr, s4, s5, s6, s7, rfl⟩ := hI
    dsimp only
    rw [ss_cons]
    walk_at "wp"
    obtain ⟨g, eg, hg⟩ := TD_of hr hl
    rw [eg]
    exact leave (q g M' (fun x y hx hy => hg x hx y hy) hs)
  · obtain ⟨hs, _, rows, hl, hr, s4, s5, s6, s7, rfl⟩ := hI
    walk_at "wp"
    rw [ss_cons]
    walk_at "wp"
    refine ⟨by decide, fun p2 hp2 => ?_⟩
    rw [ss_cons]
    walk_at "wp"
    refine ⟨by omega, by omega, ?_⟩
    refine for_range mF (fun z e M2 => DrS d c M M2 ∧ z ≤ m ∧ ∃ row, row.length = z ∧ (∀ x ∈ row, IsE x) ∧ ∃ s6 s7, e = [.val (.ref d), .val (.int m), .val (.int st), .own p (.lst rows), .val (.int k), .own p2 (.lst row), s6, s7]) ⟨hs, Nat.zero_le _, [], rfl, by simp, _, _, rfl⟩ (fun _ _ _ _ => trivial) (fun e M2 hI => ?_) (fun z e M2 hz hI => ?_)
    · obtain ⟨hs, _, row, hl2, hr2, s6, s7, rfl⟩ := hI
      dsimp only
      rw [ss_cons]
      walk_at "wp"
      obtain ⟨r, er, hgr⟩ := RD_of hr2
      rw [hl2] at er hgr
      rw [er]
      refine ⟨by rw [hl]; exact Nat.lt_of_lt_of_le (Nat.lt_trans hk hm) (by decide), hs, by omega, rows ++ [RD m r], by simp [hl], fun x hx => ?_, _, _, _, _, rfl⟩
      rcases List.mem_append.mp hx with hx | hx
      · exact hr x hx
      · rw [List.mem_singleton.mp hx]
        exact ⟨r, rfl, hgr⟩
    · obtain ⟨hs, _, row, hl2, hr2, s6, s7, rfl⟩ := hI
      have fin : ∀ (i : Int) (M3 : Mem) (s7 : Slot), 0 ≤ i → i ≤ 2 → DrS d c M2 M3 → row.length < sizeLine ∧ DrS d c M M3 ∧ z + 1 ≤ m ∧ ∃ row1, row1.length = z + 1 ∧ (∀ x ∈ row1, IsE x) ∧ ∃ s61 s71,
          [Slot.val (.ref d), .val (.int m), .val (.int st), .own p (.lst rows), .val (.int k), .own p2 (.lst (row ++ [.int i])), .val (.int z), s7] = [.val (.ref d), .val (.int m), .val (.int st), .own p (.lst rows), .val (.int k), .own p2 (.lst row1), s61, s71] := fun i M3 s7 i0 i2 s3 =>
        ⟨by rw [hl2]; exact Nat.lt_of_lt_of_le (Nat.lt_trans hz hm) (by decide), hs.trans s3, by omega, _, by simp [hl2], fun x hx => by
          rcases List.mem_append.mp hx with hx | hx
          · exact hr2 x hx
          · rw [List.mem_singleton.mp hx]
            exact ⟨i, rfl, i0, i2⟩, _, _, rfl⟩
      walk_at "wp"
      rw [ss_cons]
      walk_at "wp"
      split
      · rw [ss_cons]
        walk_at "wp"
        refine ⟨by decide, fun p3 hp3 => pick M2 _ p3 _ _ hs.1 hp3 (by simp) (by decide) (fun x hx => ?_) fun i M' i0 i2 s => ?_⟩
        · simp at hx
          rcases hx with rfl | rfl | rfl <;> exact ⟨_, rfl, by decide, by decide⟩
        · rw [ss_cons]
          walk_at "wp"
          split
          · exact fin i _ _ i0 i2 s
          · exact fin 0 _ _ (by decide) (by decide) s
      · rw [ss_cons]
        walk_at "wp"
        split
        · rw [ss_cons]
          walk_at "wp"
          refine ⟨by decide, fun p3 hp3 => pick M2 _ p3 _ _ hs.1 hp3 (by simp) (by decide) (fun x hx => ?_) fun i M' i0 i2 s => ?_⟩
          · simp at hx
            rcases hx with rfl | rfl | rfl <;> exact ⟨_, rfl, by decide, by decide⟩
          · rw [ss_cons]
            walk_at "wp"
            split
            · exact fin i _ _ i0 i2 s
            · refine ⟨by decide, fun p4 hp4 => pick _ _ p4 _ _ s.1 hp4 (by simp) (by decide) (fun x hx => ?_) fun i2 M' i20 i22 s2 => ?_⟩
              · simp at hx
                rcases hx with rfl | rfl <;> exact ⟨_, rfl, by decide, by decide⟩
              · exact fin i2 _ _ i20 i22 (s.trans s2)
        · rw [ss_cons]
          walk_at "wp"
          exact entry_ok he ‹P[fp]? = some (d_pick fd)› hd hs.1 fun i M' i0 i2 s => fin i _ _ i0 i2 s
/-! algebra of the composition -/
theorem cmpN_nonneg {r : Nat → Int} {h : Nat → Nat → Int} : ∀ {k z : Nat}, 0 ≤ cmpN r h k z
  | 0, _ => by simp [cmpN]
  | k + 1, z => by
    have := cmpN_nonneg (r := r) (h := h) (k := k) (z := z)
    rw [cmpN]
    split <;> omega
theorem le_cmpN {r : Nat → Int} {h : Nat → Nat → Int} {t : Int} (ht : 0 < t) : ∀ {k z : Nat}, t ≤ cmpN r h k z ↔ ∃ y, y < k ∧ 0 < r y ∧ 0 < h y z ∧ (t ≤ r y ∨ t ≤ h y z)
  | 0, _ => by
    rw [cmpN]
    constructor
    · intro; omega
    · rintro ⟨y, hy, _⟩; omega
  | k + 1, z => by
    have ih := le_cmpN (r := r) (h := h) ht (k := k) (z := z)
    rw [cmpN]
    split
    · rename_i hp
      constructor
      · intro hm
        by_cases h1 : t ≤ cmpN r h k z
        · obtain ⟨y, hy, r1⟩ := ih.mp h1
          exact ⟨y, by omega, r1⟩
        · exact ⟨k, by omega, hp.1, hp.2, by omega⟩
      · rintro ⟨y, hy, a, b, ab⟩
        by_cases e : y = k
        · subst e
          rcases ab with ab | ab
          · exact Int.le_trans ab (Int.le_trans (Int.le_max_right _ _) (Int.le_max_left _ _))
          · exact Int.le_trans ab (Int.le_max_right _ _)
        · have := ih.mpr ⟨y, by omega, a, b, ab⟩
          exact Int.le_trans this (Int.le_trans (Int.le_max_left _ _) (Int.le_max_left _ _))
    · rename_i hp
      rw [ih]
      constructor
      · rintro ⟨y, hy, r1⟩
        exact ⟨y, by omega, r1⟩
      · rintro ⟨y, hy, a, b, ab⟩
        refine ⟨y, ?_, a, b, ab⟩
        by_cases e : y = k
        · subst e; exact absurd ⟨a, b⟩ hp
        · omega
theorem eq_of_le {a b : Int} (ha : 0 ≤ a) (hb : 0 ≤ b) (h : ∀ t, 0 < t → (t ≤ a ↔ t ≤ b)) : a = b := by
  have h1 := h a
  have h2 := h b
  omega
theorem comp_nonneg {m : Nat} {g h : Nat → Nat → Int} {x z : Nat} : 0 ≤ comp m g h x z := cmpN_nonneg
theorem le_comp {m : Nat} {g h : Nat → Nat → Int} {t : Int} (ht : 0 < t) {x z : Nat} : t ≤ comp m g h x z ↔ ∃ y, y < m ∧ 0 < g x y ∧ 0 < h y z ∧ (t ≤ g x y ∨ t ≤ h y z) := le_cmpN ht
theorem pos_comp {m : Nat} {g h : Nat → Nat → Int} {x z : Nat} : 0 < comp m g h x z ↔ ∃ y, y < m ∧ 0 < g x y ∧ 0 < h y z := by
  have := le_comp (m := m) (g := g) (h := h) (t := 1) (by decide) (x := x) (z := z)
  constructor
  · intro h0
    obtain ⟨y, a, b, c, _⟩ := this.mp (by omega)
    exact ⟨y, a, b, c⟩
  · rintro ⟨y, a, b, c⟩
    have := this.mpr ⟨y, a, b, c, .inl (by omega)⟩
    omega
theorem comp_assoc {m : Nat} {g h k : Nat → Nat → Int} {x w : Nat} : comp m (comp m g h) k x w = comp m g (comp m h k) x w := by
  refine eq_of_le comp_nonneg comp_nonneg fun t ht => ?_
  rw [le_comp ht, le_comp ht]
  constructor
  · rintro ⟨z, hz, p1, p2, p3⟩
    obtain ⟨y, hy, q1, q2⟩ := pos_comp.mp p1
    by_cases h3 : t ≤ k z w
    · exact ⟨y, hy, q1, pos_comp.mpr ⟨z, hz, q2, p2⟩, .inr ((le_comp ht).mpr ⟨z, hz, q2, p2, .inr h3⟩)⟩
    · obtain ⟨y', hy', a, b, ab⟩ := (le_comp ht).mp (p3.resolve_right h3)
      refine ⟨y', hy', a, pos_comp.mpr ⟨z, hz, b, p2⟩, ?_⟩
      rcases ab with ab | ab
      · exact .inl ab
      · exact .inr ((le_comp ht).mpr ⟨z, hz, b, p2, .inl ab⟩)
  · rintro ⟨y, hy, p1, p2, p3⟩
    obtain ⟨z, hz, q1, q2⟩ := pos_comp.mp p2
    by_cases h3 : t ≤ g x y
    · exact ⟨z, hz, pos_comp.mpr ⟨y, hy, p1, q1⟩, q2, .inl ((le_comp ht).mpr ⟨y, hy, p1, q1, .inl h3⟩)⟩
    · obtain ⟨z', hz', a, b, ab⟩ := (le_comp ht).mp (p3.resolve_left h3)
      refine ⟨z', hz', pos_comp.mpr ⟨y, hy, p1, a⟩, b, ?_⟩
      rcases ab with ab | ab
      · exact .inl ((le_comp ht).mpr ⟨y, hy, p1, a, .inr ab⟩)
      · exact .inr ab
theorem comp_congr {m : Nat} {g h g' h' : Nat → Nat → Int} (e : ∀ x y, x < m → y < m → g x y = g' x y) (e' : ∀ x y, x < m → y < m → h x y = h' x y) {x z : Nat} (hx : x < m) (hz : z < m) : comp m g h x z = comp m g' h' x z := by
  refine eq_of_le comp_nonneg comp_nonneg fun t ht => ?_
  rw [le_comp ht, le_comp ht]
  constructor
  · rintro ⟨y, hy, p⟩
    rw [e x y hx hy, e' y z hy hz] at p
    exact ⟨y, hy, p⟩
  · rintro ⟨y, hy, p⟩
    rw [← e x y hx hy, ← e' y z hy hz] at p
    exact ⟨y, hy, p⟩
theorem comp_idl {m : Nat} {g : Nat → Nat → Int} (g0 : ∀ x y, x < m → y < m → 0 ≤ g x y) {x z : Nat} (hx : x < m) (hz : z < m) : comp m idm g x z = g x z := by
  refine eq_of_le comp_nonneg (g0 x z hx hz) fun t ht => ?_
  rw [le_comp ht]
  constructor
  · rintro ⟨y, hy, a, b, ab⟩
    unfold idm at a ab
    split at a
    · rename_i e; subst e; rw [if_pos rfl] at ab; omega
    · omega
  · intro h
    refine ⟨x, hx, by simp [idm], by omega, .inr h⟩
theorem comp_idr {m : Nat} {g : Nat → Nat → Int} (g0 : ∀ x y, x < m → y < m → 0 ≤ g x y) {x z : Nat} (hx : x < m) (hz : z < m) : comp m g idm x z = g x z := by
  refine eq_of_le comp_nonneg (g0 x z hx hz) fun t ht => ?_
  rw [le_comp ht]
  constructor
  · rintro ⟨y, hy, a, b, ab⟩
    unfold idm at b ab
    split at b
    · rename_i e; subst e; rw [if_pos rfl] at ab; omega
    · omega
  · intro h
    refine ⟨z, hz, by omega, by simp [idm], .inl h⟩
theorem comp_mono {m : Nat} {g h g' h' : Nat → Nat → Int} (e : leT m g g') (e' : leT m h h') : leT m (comp m g h) (comp m g' h') := fun x z hx hz => by
  by_cases h0 : comp m g h x z ≤ 0
  · exact Int.le_trans h0 comp_nonneg
  · rw [le_comp (by omega)]
    obtain ⟨y, hy, a, b, ab⟩ := (le_comp (m := m) (g := g) (h := h) (t := comp m g h x z) (by omega)).mp (Int.le_refl _)
    have e1 := e x y hx hy
    have e2 := e' y z hy hz
    exact ⟨y, hy, by omega, by omega, by omega⟩
theorem Ent.nonneg {m : Nat} {g : Nat → Nat → Int} (h : Ent m g) : ∀ x y, x < m → y < m → 0 ≤ g x y := fun x y hx hy => (h x y hx hy).1
/-! more defs -/
theorem law_lowered_ok {fd : Nat} (hf : P[f]? = some (d__law_lowered fd)) (hd : P[fd]? = some d_draw) {d c m : Nat} (hm : m < 1000) {g : Nat → Nat → Int} (hg : Ent m g) (h : Dst M d c) (q : ∀ g' M', Ent m g' → leT m g' g → DrS d c M M' → Q (TD m g') M') : wFn P (n + 2) f [.ref d, TD m g] M Q E := by
  refine enter hf rfl ?_
  simp only [d__law_lowered]
  rw [ss_cons]
  walk_at "wp"
  refine ⟨by decide, fun p hp => ?_⟩
  rw [ss_cons]
  simp! only [it_TD]
  refine for_at mF (fun k e M' => DrS d c M M' ∧ k ≤ m ∧ (∃ g', (∀ x y, x < k → y < m → 0 ≤ g' x y ∧ g' x y ≤ g x y) ∧ ∃ s3 s4, e = [.val (.ref d), .val (TD m g), .own p (.lst ((List.range k).map fun x => RD m (g' x))), s3, s4])) ⟨DrS.refl h, Nat.zero_le _, fun _ _ => 0, fun x y hx => absurd hx (Nat.not_lt_zero _), _, _, rfl⟩ (fun _ _ _ _ => trivial) (fun e M' hI => ?_) (fun k x e M' hx hI => ?_)
  · obtain ⟨hs, _, g', hg', s3, s4, rfl⟩ := hI
    simp only [wS, wE, wEs, wO, wAs, wL, wN, wI, wT, wTs, setAll, Tg.slots, wipeE, cmp_eq_int, cmp_ne_int, cmp_eq_str, cmp_ne_str, cmp_eq_tup, cmp_ne_tup, cmp_eq_bl, cmp_lt, cmp_le, cmp_gt, cmp_ge, Kt0_rt, Kt0_nx, List.getElem?_cons_zero, List.getElem?_cons_succ, List.set_cons_zero, List.set_cons_succ, Option.some.injEq, Slot.val.injEq, Slot.own.injEq, MO.lst.injEq, D.int.injEq, D.ref.injEq, D.bl.injEq, D.tup.injEq, D.str.injEq, exists_eq_left', exists_eq_left, exists_and_left, exists_and_right, and_assoc, true_and, and_true, atI_0, atI_1, atI_2, atI_3, atI_4, backs, drps, List.map_cons, List.map_nil, List.length_cons, List.length_nil, List.cons_append, List.nil_append, List.replicate, Nat.reduceAdd, Nat.reduceSub, decide_eq_true_eq, upd_at, aug_add_int, aug_sub_int, aug_mul_int, aug_add_str, ixN5_1, ixN5_2, ixN5_3, Int.toNat_natCast, List.length_map, List.length_range, tg_nm, tg_tp, tru_non, tru_bl, tru_int, tru_str, tru_tup, tru_ref, bin_add_int, bin_add_str, bin_add_tup, bin_sub, bin_mul, bin_fdiv, bin_mod, bin_pow, bin_shl, bin_shr, bin_band, bin_bor, idx_tup, idx_ref, idx_str, blt_len_tup, blt_len_str, blt_len_ref, blt_int_int, blt_int_bl, blt_bool_bl, blt_bool_int, blt_abs, blt_max2, blt_max3, blt_min2, blt_tuple_tup, blt_tuple_ref, blt_isa_non, blt_isa_bl, blt_isa_int, blt_isa_str, blt_isa_tup, isa_int_int, isa_int_bool, isa_bl_bool, isa_tup, isa_str, lk_tuple, lk_len, lk_all, lk_any, lk_sum, it_tup, it_rl, it_ref, zip_tup, enum_tup, enum_ref, eq_self_iff_true, if_true, Bool.false_eq_true, if_false, reduceIte, ss_nil, rev_tup, rev_ref, ty_split, ty_join, ty_append, ty_pop, ty_popAt, ty_reverse, ty_extend, ty_insert, mth_append, mth_pop, mth_popAt, mth_reverse, mth_extend, mth_insert, mth_split, mth_join, cmp_eq_ref, cmp_ne_ref, slc_tup, slc_str, slc_ref, lk_max, lk_min, cmp_lt_str, cmp_is_bl, cmp_not_bl, cmp_is_non, cmp_not_non, cmp_is_tup, cmp_not_tup, cmp_is_int, cmp_not_int, blt_str, blt_maxt, blt_mint, tg_np] at hg' ⊢
    rw [ss_cons]
    walk_at "wp"
    exact leave (q g' M' (fun x y hx hy => ⟨(hg' x y hx hy).1, Int.le_trans (hg' x y hx hy).2 (hg x y hx hy).2⟩) (fun x y hx hy => (hg' x y hx hy).2) hs)
  · obtain ⟨hs, _, g', hg', s3, s4, rfl⟩ := hI
    obtain ⟨hk, rfl⟩ := get_range hx
    walk_at "wp"
    rw [ss_cons]
    simp! only [it_RD]
    refine ⟨small_line hm, cmpr_inv (I := fun M' => DrS d c M M') (p := fun x y => ∃ i : Int, y = .int i ∧ ∃ j : Int, x = .int j ∧ 0 ≤ i ∧ i ≤ j) (fun _ _ => trivial) hs (fun x hx M2 hs2 R hR => ?_) fun ys M2 hys hs2 => ?_⟩
    · obtain ⟨y, hy, rfl⟩ := List.mem_map.mp hx
      have hy := List.mem_range.mp hy
      have b := hg k y hk hy
      walk_at "wp"
      exact draw_ok hd (by omega) (by omega) hs2.1 fun i M3 i0 i1 s => hR _ _ ⟨i, rfl, _, rfl, i0, by omega⟩ (hs2.trans s)
    · have hl : ys.length = m := by rw [hys.len]; simp
      obtain ⟨r, er, hr⟩ := fn_of (G := D.int) (good := fun _ => True) (ds := ys) (hys.right fun x y _ ⟨i, e, _⟩ => ⟨i, e, trivial⟩)
      rw [hl] at er hr
      have hb : ∀ y, y < m → 0 ≤ r y ∧ r y ≤ g k y := fun y hy => by
        obtain ⟨i, e1, j, e2, h0, h1⟩ := hys.get (i := y) (x := .int (g k y)) (y := .int (r y)) (by rw [List.getElem?_map, List.getElem?_range hy]; rfl) (by rw [er, List.getElem?_map, List.getElem?_range hy]; rfl)
        cases e1; cases e2
        exact ⟨h0, h1⟩
      have es : (List.range k).map (fun x => RD m (g' x)) ++ [D.tup ys] = (List.range (k + 1)).map fun x => RD m ((fun x => if x = k then r else g' x) x) := by
        rw [← range_snoc (g := fun x => RD m ((fun x => if x = k then r else g' x) x))]
        show _ = _ ++ [RD m (if k = k then r else g' k)]
        rw [if_pos rfl, er]
        congr 1
        exact map_range_congr fun x hx => by
          show _ = RD m (if x = k then r else g' x)
          rw [if_neg (Nat.ne_of_lt hx)]
      rw [es]
      refine ⟨Nat.lt_of_lt_of_le (Nat.lt_trans hk hm) (by decide), hs2, by omega, _, fun x y hx hy => ?_, _, _, rfl⟩
      by_cases e : x = k
      · subst e; rw [if_pos rfl]; exact hb y hy
      · rw [if_neg e]; exact hg' x y (by omega) hy
theorem law_raised_ok {fd : Nat} (hf : P[f]? = some (d__law_raised fd)) (hd : P[fd]? = some d_draw) {d c m : Nat} (hm : m < 1000) {g : Nat → Nat → Int} (hg : Ent m g) (h : Dst M d c) (q : ∀ g' M', Ent m g' → leT m g g' → DrS d c M M' → Q (TD m g') M') : wFn P (n + 2) f [.ref d, TD m g] M Q E := by
  refine enter hf rfl ?_
  simp only [d__law_raised]
  rw [ss_cons]
  walk_at "wp"
  refine ⟨by decide, fun p hp => ?_⟩
  rw [ss_cons]
  simp! only [it_TD]
  refine for_at mF (fun k e M' => DrS d c M M' ∧ k ≤ m ∧ (∃ g', (∀ x y, x < k → y < m → g' x y ≤ 2 ∧ g x y ≤ g' x y) ∧ ∃ s3 s4, e = [.val (.ref d), .val (TD m g), .own p (.lst ((List.range k).map fun x => RD m (g' x))), s3, s4])) ⟨DrS.refl h, Nat.zero_le _, fun _ _ => 0, fun x y hx => absurd hx (Nat.not_lt_zero _), _, _, rfl⟩ (fun _ _ _ _ => trivial) (fun e M' hI => ?_) (fun k x e M' hx hI => ?_)
  · obtain ⟨hs, _, g', hg', s3, s4, rfl⟩ := hI
    simp only [wS, wE, wEs, wO, wAs, wL, wN, wI, wT, wTs, setAll, Tg.slots, wipeE, cmp_eq_int, cmp_ne_int, cmp_eq_str, cmp_ne_str, cmp_eq_tup, cmp_ne_tup, cmp_eq_bl, cmp_lt, cmp_le, cmp_gt, cmp_ge, Kt0_rt, Kt0_nx, List.getElem?_cons_zero, List.getElem?_cons_succ, List.set_cons_zero, List.set_cons_succ, Option.some.injEq, Slot.val.injEq, Slot.own.injEq, MO.lst.injEq, D.int.injEq, D.ref.injEq, D.bl.injEq, D.tup.injEq, D.str.injEq, exists_eq_left', exists_eq_left, exists_and_left, exists_and_right, and_assoc, true_and, and_true, atI_0, atI_1, atI_2, atI_3, atI_4, backs, drps, List.map_cons, List.map_nil, List.length_cons, List.length_nil, List.cons_append, List.nil_append, List.replicate, Nat.reduceAdd, Nat.reduceSub, decide_eq_true_eq, upd_at, aug_add_int, aug_sub_int, aug_mul_int, aug_add_str, ixN5_1, ixN5_2, ixN5_3, Int.toNat_natCast, List.length_map, List.length_range, tg_nm, tg_tp, tru_non, tru_bl, tru_int, tru_str, tru_tup, tru_ref, bin_add_int, bin_add_str, bin_add_tup, bin_sub, bin_mul, bin_fdiv, bin_mod, bin_pow, bin_shl, bin_shr, bin_band, bin_bor, idx_tup, idx_ref, idx_str, blt_len_tup, blt_len_str, blt_len_ref, blt_int_int, blt_int_bl, blt_bool_bl, blt_bool_int, blt_abs, blt_max2, blt_max3, blt_min2, blt_tuple_tup, blt_tuple_ref, blt_isa_non, blt_isa_bl, blt_isa_int, blt_isa_str, blt_isa_tup, isa_int_int, isa_int_bool, isa_bl_bool, isa_tup, isa_str, lk_tuple, lk_len, lk_all, lk_any, lk_sum, it_tup, it_rl, it_ref, zip_tup, enum_tup, enum_ref, eq_self_iff_true, if_true, Bool.false_eq_true, if_false, reduceIte, ss_nil, rev_tup, rev_ref, ty_split, ty_join, ty_append, ty_pop, ty_popAt, ty_reverse, ty_extend, ty_insert, mth_append, mth_pop, mth_popAt, mth_reverse, mth_extend, mth_insert, mth_split, mth_join, cmp_eq_ref, cmp_ne_ref, slc_tup, slc_str, slc_ref, lk_max, lk_min, cmp_lt_str, cmp_is_bl, cmp_not_bl, cmp_is_non, cmp_not_non, cmp_is_tup, cmp_not_tup, cmp_is_int, cmp_not_int, blt_str, blt_maxt, blt_mint, tg_np] at hg' ⊢
    rw [ss_cons]
    walk_at "wp"
    exact leave (q g' M' (fun x y hx hy => ⟨Int.le_trans (hg x y hx hy).1 (hg' x y hx hy).2, (hg' x y hx hy).1⟩) (fun x y hx hy => (hg' x y hx hy).2) hs)
  · obtain ⟨hs, _, g', hg', s3, s4, rfl⟩ := hI
    obtain ⟨hk, rfl⟩ := get_range hx
    walk_at "wp"
    rw [ss_cons]
    simp! only [it_RD]
    refine ⟨small_line hm, cmpr_inv (I := fun M' => DrS d c M M') (p := fun x y => ∃ i : Int, y = .int i ∧ ∃ j : Int, x = .int j ∧ i ≤ 2 ∧ j ≤ i) (fun _ _ => trivial) hs (fun x hx M2 hs2 R hR => ?_) fun ys M2 hys hs2 => ?_⟩
    · obtain ⟨y, hy, rfl⟩ := List.mem_map.mp hx
      have hy := List.mem_range.mp hy
      have b := hg k y hk hy
      walk_at "wp"
      exact draw_ok hd (by omega) (by omega) hs2.1 fun i M3 i0 i1 s => hR _ _ ⟨_, rfl, _, rfl, by omega, by omega⟩ (hs2.trans s)
    · have hl : ys.length = m := by rw [hys.len]; simp
      obtain ⟨r, er, hr⟩ := fn_of (G := D.int) (good := fun _ => True) (ds := ys) (hys.right fun x y _ ⟨i, e, _⟩ => ⟨i, e, trivial⟩)
      rw [hl] at er hr
      have hb : ∀ y, y < m → r y ≤ 2 ∧ g k y ≤ r y := fun y hy => by
        obtain ⟨i, e1, j, e2, h0, h1⟩ := hys.get (i := y) (x := .int (g k y)) (y := .int (r y)) (by rw [List.getElem?_map, List.getElem?_range hy]; rfl) (by rw [er, List.getElem?_map, List.getElem?_range hy]; rfl)
        cases e1; cases e2
        exact ⟨h0, h1⟩
      have es : (List.range k).map (fun x => RD m (g' x)) ++ [D.tup ys] = (List.range (k + 1)).map fun x => RD m ((fun x => if x = k then r else g' x) x) := by
        rw [← range_snoc (g := fun x => RD m ((fun x => if x = k then r else g' x) x))]
        show _ = _ ++ [RD m (if k = k then r else g' k)]
        rw [if_pos rfl, er]
        congr 1
        exact map_range_congr fun x hx => by
          show _ = RD m (if x = k then r else g' x)
          rw [if_neg (Nat.ne_of_lt hx)]
      rw [es]
      refine ⟨Nat.lt_of_lt_of_le (Nat.lt_trans hk hm) (by decide), hs2, by omega, _, fun x y hx hy => ?_, _, _, rfl⟩
      by_cases e : x = k
      · subst e; rw [if_pos rfl]; exact hb y hy
      · rw [if_neg e]; exact hg' x y (by omega) hy
theorem law_changed_ok (hf : P[f]? = some d__law_changed) {m : Nat} (hm : m < 1000) {g : Nat → Nat → Int} {x y : Nat} {v : Int} (hx : x < m) (hy : y < m) (q : Q (TD m (fun i j => if i = x ∧ j = y then v else g i j)) M) : wFn P (n + 1) f [TD m g, .int x, .int y, .int v] M Q E := by
  refine enter hf rfl ?_
  simp only [d__law_changed]
  rw [ss_cons]
  simp! only [it_TD]
  refine ⟨small_line hm, cmpr_acc (fun k ys M' => ∃ a : Nat → Nat, ys = (List.range k).map (fun i => D.ref (a i)) ∧ (∀ i, i < k → M (a i) = none ∧ M' (a i) = some (.lst ((List.range m).map fun j => .int (g i j)))) ∧ (∀ i j, i < k → j < k → a i = a j → i = j) ∧ ∀ b, (∀ i, i < k → a i ≠ b) → M' b = M b) (fun _ _ _ _ => trivial) (fun k z ys M' hz hI R hR => ?_) ⟨fun _ => 0, rfl, fun i hi => absurd hi (Nat.not_lt_zero _), fun i j hi => absurd hi (Nat.not_lt_zero _), fun _ _ => rfl⟩ fun ys M' hI p hp => ?_⟩
  · obtain ⟨a, rfl, h1, h2, h3⟩ := hI
    obtain ⟨hk, rfl⟩ := get_range hz
    simp only [RD]
    refine ⟨_, rfl, fun p hp => hR _ _ ⟨fun i => if i = k then p else a i, ?_, fun i hi => ?_, fun i j hi hj e => ?_, fun b hb => ?_⟩⟩
    · rw [← range_snoc (g := fun i => D.ref (if i = k then p else a i)), if_pos rfl]
      congr 1
      exact map_range_congr fun i hi => by rw [if_neg (Nat.ne_of_lt hi)]
    · have hap : ∀ i, i < k → a i ≠ p := fun i hi z => by rw [← z, (h1 i hi).2] at hp; cases hp
      dsimp only
      by_cases e : i = k
      · subst e
        rw [if_pos rfl]
        refine ⟨?_, upd_at⟩
        rw [← h3 p hap]; exact hp
      · rw [if_neg e, upd_no (hap i (by omega))]
        exact h1 i (by omega)
    · have hap : ∀ i, i < k → a i ≠ p := fun i hi z => by rw [← z, (h1 i hi).2] at hp; cases hp
      dsimp only at e
      by_cases e1 : i = k <;> by_cases e2 : j = k
      · omega
      · rw [if_pos e1, if_neg e2] at e; exact absurd e.symm (hap j (by omega))
      · rw [if_neg e1, if_pos e2] at e; exact absurd e (hap i (by omega))
      · rw [if_neg e1, if_neg e2] at e; exact h2 i j (by omega) (by omega) e
    · have hbp : b ≠ p := by
        have := hb k (Nat.lt_succ_self _)
        dsimp only at this
        rw [if_pos rfl] at this
        exact this.symm
      rw [upd_no hbp]
      exact h3 b fun i hi => by
        have := hb i (by omega)
        dsimp only at this
        rw [if_neg (Nat.ne_of_lt hi)] at this
        exact this
  · simp only [wS, wE, wEs, wO, wAs, wL, wN, wI, wT, wTs, setAll, Tg.slots, wipeE, cmp_eq_int, cmp_ne_int, cmp_eq_str, cmp_ne_str, cmp_eq_tup, cmp_ne_tup, cmp_eq_bl, cmp_lt, cmp_le, cmp_gt, cmp_ge, Kt0_rt, Kt0_nx, List.getElem?_cons_zero, List.getElem?_cons_succ, List.set_cons_zero, List.set_cons_succ, Option.some.injEq, Slot.val.injEq, Slot.own.injEq, MO.lst.injEq, D.int.injEq, D.ref.injEq, D.bl.injEq, D.tup.injEq, D.str.injEq, exists_eq_left', exists_eq_left, exists_and_left, exists_and_right, and_assoc, true_and, and_true, atI_0, atI_1, atI_2, atI_3, atI_4, backs, drps, List.map_cons, List.map_nil, List.length_cons, List.length_nil, List.cons_append, List.nil_append, List.replicate, Nat.reduceAdd, Nat.reduceSub, decide_eq_true_eq, upd_at, aug_add_int, aug_sub_int, aug_mul_int, aug_add_str, ixN5_1, ixN5_2, ixN5_3, Int.toNat_natCast, List.length_map, List.length_range, tg_nm, tg_tp, tru_non, tru_bl, tru_int, tru_str, tru_tup, tru_ref, bin_add_int, bin_add_str, bin_add_tup, bin_sub, bin_mul, bin_fdiv, bin_mod, bin_pow, bin_shl, bin_shr, bin_band, bin_bor, idx_tup, idx_ref, idx_str, blt_len_tup, blt_len_str, blt_len_ref, blt_int_int, blt_int_bl, blt_bool_bl, blt_bool_int, blt_abs, blt_max2, blt_max3, blt_min2, blt_tuple_tup, blt_tuple_ref, blt_isa_non, blt_isa_bl, blt_isa_int, blt_isa_str, blt_isa_tup, isa_int_int, isa_int_bool, isa_bl_bool, isa_tup, isa_str, lk_tuple, lk_len, lk_all, lk_any, lk_sum, it_tup, it_rl, it_ref, zip_tup, enum_tup, enum_ref, eq_self_iff_true, if_true, Bool.false_eq_true, if_false, reduceIte, ss_nil, rev_tup, rev_ref, ty_split, ty_join, ty_append, ty_pop, ty_popAt, ty_reverse, ty_extend, ty_insert, mth_append, mth_pop, mth_popAt, mth_reverse, mth_extend, mth_insert, mth_split, mth_join, cmp_eq_ref, cmp_ne_ref, slc_tup, slc_str, slc_ref, lk_max, lk_min, cmp_lt_str, cmp_is_bl, cmp_not_bl, cmp_is_non, cmp_not_non, cmp_is_tup, cmp_not_tup, cmp_is_int, cmp_not_int, blt_str, blt_maxt, blt_mint, tg_np] at hI
    obtain ⟨a, rfl, h1, h2, h3⟩ := hI
    rw [ss_cons]
    simp! only [atI_range hx]
    rw [(h1 x hx).2]
    simp! only [ixN_cast hy]
    rw [ss_cons]
    walk_at "wp"
    refine ⟨small_line hm, cmpr_range (fun i => .ref (a i)) (fun i => RD m (fun j => if i = x ∧ j = y then v else g i j)) trivial (fun i hi R hR => ?_) (leaveS (fun b o hb => ?_) q)⟩
    · by_cases e : i = x
      · subst e
        rw [blt_tuple_ref, upd_at]
        refine ⟨_, rfl, ?_⟩
        rw [set_range]
        have : ((List.range m).map fun j => if j = y then D.int v else .int (g i j)) = (List.range m).map fun j => D.int (if i = i ∧ j = y then v else g i j) := map_range_congr fun j _ => by
          by_cases e : j = y <;> simp [e]
        rw [this]
        rw [set_range, this] at hR
        exact hR
      · rw [blt_tuple_ref, upd_no (fun z => e (h2 i x hi hx z)), (h1 i hi).2]
        refine ⟨_, rfl, ?_⟩
        have : ((List.range m).map fun j => D.int (g i j)) = (List.range m).map fun j => D.int (if i = x ∧ j = y then v else g i j) := map_range_congr fun j _ => by
          simp [e]
        rw [this]
        exact hR
    · have hb' : ∀ i, i < m → a i ≠ b := fun i hi z => by rw [← z, (h1 i hi).1] at hb; cases hb
      rw [upd_no (hb' x hx).symm, h3 b hb']
      exact hb
/-! a row of tables -/
def TL (m : Nat) (gs : List (Nat → Nat → Int)) : D := .tup (gs.map (TD m))
theorem compose_all_ok {fi fc fr : Nat} (hf : P[f]? = some (d_compose_all fi fc)) (hi : P[fi]? = some d_identity) (hc : P[fc]? = some (d_compose fr)) (hr : P[fr]? = some d_composed_row) {m : Nat} (hm : m < 1000) {gs : List (Nat → Nat → Int)} (q : Q (TD m (gs.foldl (comp m) idm)) M) : wFn P (n + 3) f [.int m, TL m gs] M Q E := by
  refine enter hf rfl ?_
  simp only [d_compose_all, TL]
  rw [ss_cons]
  walk_at "wp"
  refine identity_ok hi hm ?_
  rw [ss_cons]
  walk_at "wp"
  refine for_at mF (fun k e M' => M' = M ∧ ∃ s3, e = [.val (.int m), .val (TL m gs), .val (TD m ((gs.take k).foldl (comp m) idm)), s3]) ⟨rfl, .no, rfl⟩ (fun _ _ _ _ => trivial) (fun e M' hI => ?_) (fun k x e M' hx hI => ?_)
  · obtain ⟨rfl, s3, rfl⟩ := hI
    walk_at "wp"
    rw [ss_cons]
    walk_at "wp"
    rw [List.take_length]
    exact leave q
  · obtain ⟨rfl, s3, rfl⟩ := hI
    rw [List.getElem?_map] at hx
    obtain ⟨g, hg, rfl⟩ := Option.map_eq_some_iff.mp hx
    walk_at "wp"
    rw [ss_cons]
    walk_at "wp"
    have nn : ∀ x y, x < m → y < m → 0 ≤ (gs.take k).foldl (comp m) idm x y := by
      intro x y _ _
      rcases List.eq_nil_or_concat (gs.take k) with e | ⟨l, b, e⟩
      · rw [e]; simp [idm]; split <;> decide
      · rw [e, List.concat_eq_append, List.foldl_append]; exact comp_nonneg
    refine compose_ok hc hr hm nn ?_
    rw [List.take_add_one, hg]
    simp only [Option.toList, List.foldl_append, List.foldl_cons, List.foldl_nil]
    exact ⟨trivial, _, rfl⟩
theorem law_product_ok {fi fc : Nat} (hf : P[f]? = some (d__law_product fi fc)) (hi : P[fi]? = some d__law_identity) (hc : P[fc]? = some d__law_compose) {m : Nat} (hm : m < 1000) {gs : List (Nat → Nat → Int)} (q : Q (TD m (gs.foldr (comp m) idm)) M) : wFn P (n + 2) f [.int m, TL m gs] M Q E := by
  refine enter hf rfl ?_
  simp only [d__law_product, TL]
  rw [ss_cons]
  walk_at "wp"
  refine law_identity_ok hi hm ?_
  rw [ss_cons]
  walk_at "wp"
  rw [← List.map_reverse]
  refine for_at mF (fun k e M' => M' = M ∧ ∃ s3, e = [.val (.int m), .val (TL m gs), .val (TD m ((gs.reverse.take k).foldl (fun a b => comp m b a) idm)), s3]) ⟨rfl, .no, rfl⟩ (fun _ _ _ _ => trivial) (fun e M' hI => ?_) (fun k x e M' hx hI => ?_)
  · obtain ⟨rfl, s3, rfl⟩ := hI
    walk_at "wp"
    rw [ss_cons]
    walk_at "wp"
    rw [List.take_length, List.foldl_reverse]
    exact leave q
  · obtain ⟨rfl, s3, rfl⟩ := hI
    rw [List.getElem?_map] at hx
    obtain ⟨g, hg, rfl⟩ := Option.map_eq_some_iff.mp hx
    walk_at "wp"
    rw [ss_cons]
    walk_at "wp"
    refine law_compose_ok hc hm ?_
    rw [List.take_add_one, hg]
    simp only [Option.toList, List.foldl_append, List.foldl_cons, List.foldl_nil]
    exact ⟨trivial, _, rfl⟩
theorem fold_eq {m : Nat} : ∀ {gs : List (Nat → Nat → Int)} {a : Nat → Nat → Int}, (∀ g ∈ gs, ∀ x y, x < m → y < m → 0 ≤ g x y) → (∀ x y, x < m → y < m → 0 ≤ a x y) → ∀ x z, x < m → z < m → gs.foldl (comp m) a x z = comp m a (gs.foldr (comp m) idm) x z
  | [], a, _, ha, x, z, hx, hz => (comp_idr ha hx hz).symm
  | g :: gs, a, hg, ha, x, z, hx, hz => by
    rw [List.foldl_cons, List.foldr_cons, fold_eq (fun g' h' => hg g' (List.mem_cons_of_mem _ h')) (fun _ _ _ _ => comp_nonneg) x z hx hz]
    exact comp_assoc
theorem leT_chg {m x y : Nat} {g : Nat → Nat → Int} {v : Int} (hx : x < m) (hy : y < m) : decide (leT m (fun i j => if i = x ∧ j = y then v else g i j) g) = decide (v ≤ g x y) := by
  by_cases e : v ≤ g x y
  · rw [decide_eq_true e]
    refine decide_eq_true fun i j hi hj => ?_
    show (if i = x ∧ j = y then v else g i j) ≤ g i j
    by_cases z : i = x ∧ j = y
    · rw [if_pos z, z.1, z.2]; exact e
    · rw [if_neg z]; exact Int.le_refl _
  · rw [decide_eq_false e]
    refine decide_eq_false fun z => ?_
    have h : (if x = x ∧ y = y then v else g x y) ≤ g x y := z x y hx hy
    rw [if_pos ⟨rfl, rfl⟩] at h
    exact e h
theorem leT_chg' {m x y : Nat} {g : Nat → Nat → Int} {v : Int} (hx : x < m) (hy : y < m) : decide (leT m g (fun i j => if i = x ∧ j = y then v else g i j)) = decide (g x y ≤ v) := by
  by_cases e : g x y ≤ v
  · rw [decide_eq_true e]
    refine decide_eq_true fun i j hi hj => ?_
    show g i j ≤ (if i = x ∧ j = y then v else g i j)
    by_cases z : i = x ∧ j = y
    · rw [if_pos z, z.1, z.2]; exact e
    · rw [if_neg z]; exact Int.le_refl _
  · rw [decide_eq_false e]
    refine decide_eq_false fun z => ?_
    have h : g x y ≤ (if x = x ∧ y = y then v else g x y) := z x y hx hy
    rw [if_pos ⟨rfl, rfl⟩] at h
    exact e h
end
end DL
/-! Webs. -/
namespace DL
local macro_rules | `(tactic| walk_at "wp") => `(tactic| simp only [wS, wE, wEs, wO, wAs, wL, wN, wI, wT, wTs, setAll, Tg.slots, wipeE, cmp_eq_int, cmp_ne_int, cmp_eq_str, cmp_ne_str, cmp_eq_tup, cmp_ne_tup, cmp_eq_bl, cmp_lt, cmp_le, cmp_gt, cmp_ge, Kt0_rt, Kt0_nx, List.getElem?_cons_zero, List.getElem?_cons_succ, List.set_cons_zero, List.set_cons_succ, Option.some.injEq, Slot.val.injEq, Slot.own.injEq, MO.lst.injEq, D.int.injEq, D.ref.injEq, D.bl.injEq, D.tup.injEq, D.str.injEq, exists_eq_left', exists_eq_left, exists_and_left, exists_and_right, and_assoc, true_and, and_true, atI_0, atI_1, atI_2, atI_3, atI_4, backs, drps, List.map_cons, List.map_nil, List.length_cons, List.length_nil, List.cons_append, List.nil_append, List.replicate, Nat.reduceAdd, Nat.reduceSub, decide_eq_true_eq, upd_at, aug_add_int, aug_sub_int, aug_mul_int, aug_add_str, ixN5_1, ixN5_2, ixN5_3, Int.toNat_natCast, List.length_map, List.length_range, tg_nm, tg_tp, tru_non, tru_bl, tru_int, tru_str, tru_tup, tru_ref, bin_add_int, bin_add_str, bin_add_tup, bin_sub, bin_mul, bin_fdiv, bin_mod, bin_pow, bin_shl, bin_shr, bin_band, bin_bor, idx_tup, idx_ref, idx_str, blt_len_tup, blt_len_str, blt_len_ref, blt_int_int, blt_int_bl, blt_bool_bl, blt_bool_int, blt_abs, blt_max2, blt_max3, blt_min2, blt_tuple_tup, blt_tuple_ref, blt_isa_non, blt_isa_bl, blt_isa_int, blt_isa_str, blt_isa_tup, isa_int_int, isa_int_bool, isa_bl_bool, isa_tup, isa_str, lk_tuple, lk_len, lk_all, lk_any, lk_sum, it_tup, it_rl, it_ref, zip_tup, enum_tup, enum_ref, eq_self_iff_true, if_true, Bool.false_eq_true, if_false, reduceIte, ss_nil, rev_tup, rev_ref, ty_split, ty_join, ty_append, ty_pop, ty_popAt, ty_reverse, ty_extend, ty_insert, mth_append, mth_pop, mth_popAt, mth_reverse, mth_extend, mth_insert, mth_split, mth_join, cmp_eq_ref, cmp_ne_ref, slc_tup, slc_str, slc_ref, lk_max, lk_min, cmp_lt_str, cmp_is_bl, cmp_not_bl, cmp_is_non, cmp_not_non, cmp_is_tup, cmp_not_tup, cmp_is_int, cmp_not_int, blt_str, blt_maxt, blt_mint, tg_np])
local macro_rules | `(tactic| simp! only [$xs:simpLemma,*]) => `(tactic| simp only [wS, wE, wEs, wO, wAs, wL, wN, wI, wT, wTs, setAll, Tg.slots, wipeE, cmp_eq_int, cmp_ne_int, cmp_eq_str, cmp_ne_str, cmp_eq_tup, cmp_ne_tup, cmp_eq_bl, cmp_lt, cmp_le, cmp_gt, cmp_ge, Kt0_rt, Kt0_nx, List.getElem?_cons_zero, List.getElem?_cons_succ, List.set_cons_zero, List.set_cons_succ, Option.some.injEq, Slot.val.injEq, Slot.own.injEq, MO.lst.injEq, D.int.injEq, D.ref.injEq, D.bl.injEq, D.tup.injEq, D.str.injEq, exists_eq_left', exists_eq_left, exists_and_left, exists_and_right, and_assoc, true_and, and_true, atI_0, atI_1, atI_2, atI_3, atI_4, backs, drps, List.map_cons, List.map_nil, List.length_cons, List.length_nil, List.cons_append, List.nil_append, List.replicate, Nat.reduceAdd, Nat.reduceSub, decide_eq_true_eq, upd_at, aug_add_int, aug_sub_int, aug_mul_int, aug_add_str, ixN5_1, ixN5_2, ixN5_3, Int.toNat_natCast, List.length_map, List.length_range, tg_nm, tg_tp, tru_non, tru_bl, tru_int, tru_str, tru_tup, tru_ref, bin_add_int, bin_add_str, bin_add_tup, bin_sub, bin_mul, bin_fdiv, bin_mod, bin_pow, bin_shl, bin_shr, bin_band, bin_bor, idx_tup, idx_ref, idx_str, blt_len_tup, blt_len_str, blt_len_ref, blt_int_int, blt_int_bl, blt_bool_bl, blt_bool_int, blt_abs, blt_max2, blt_max3, blt_min2, blt_tuple_tup, blt_tuple_ref, blt_isa_non, blt_isa_bl, blt_isa_int, blt_isa_str, blt_isa_tup, isa_int_int, isa_int_bool, isa_bl_bool, isa_tup, isa_str, lk_tuple, lk_len, lk_all, lk_any, lk_sum, it_tup, it_rl, it_ref, zip_tup, enum_tup, enum_ref, eq_self_iff_true, if_true, Bool.false_eq_true, if_false, reduceIte, ss_nil, rev_tup, rev_ref, ty_split, ty_join, ty_append, ty_pop, ty_popAt, ty_reverse, ty_extend, ty_insert, mth_append, mth_pop, mth_popAt, mth_reverse, mth_extend, mth_insert, mth_split, mth_join, cmp_eq_ref, cmp_ne_ref, slc_tup, slc_str, slc_ref, lk_max, lk_min, cmp_lt_str, cmp_is_bl, cmp_not_bl, cmp_is_non, cmp_not_non, cmp_is_tup, cmp_not_tup, cmp_is_int, cmp_not_int, blt_str, blt_maxt, blt_mint, tg_np, $xs,*])
open PySem
section
def d__law_pool : Fn := { name := "_law_pool", arity := 0, slots := ["text"], body :=
  [(.asg (.nm 0) (.cst (.str "x y z n m left right size row9 a1 deep more2 keep top q0 hold sum next1 abcdefgh w k b c d e f g h i j"))),
    (.asg (.nm 0) (.bin .add (.var 0) (.cst (.str " lo hi step go back wake call up down turn red blue tin oak elm ash fir yew zzzzzzz9")))),
    (.ret (.meth .split (.var 0) (.cons (.cst (.str " ")) .nil)))] }
def d__law_names (f__law_pool : Nat) (f__law_draw : Nat) : Fn := { name := "_law_names", arity := 2, slots := ["d", "many", "names", "found", "k"], body :=
  [(.asg (.nm 2) (.call f__law_pool .nil)),
    (.asgN 3 (.disp .nil)),
    (.for_ (.nm 4) (.range (.var 1)) [(.app 3 (.meth .popAt (.var 2) (.cons (.call f__law_draw (.cons (.var 0) (.cons (.blt .len (.cons (.var 2) .nil)) .nil))) .nil)))]),
    (.ret (.lk .tuple (.own 3)))] }

def d__law_web (f__law_names : Nat) (f__law_draw : Nat) (f__law_table : Nat) : Fn := { name := "_law_web", arity := 6, slots := ["d", "sizes", "workers", "places", "moves", "style", "names", "found", "k", "source", "target", "start"], body :=
  [(.asg (.nm 6) (.call f__law_names (.cons (.var 0) (.cons (.var 4) .nil)))),
    (.asgN 7 (.disp .nil)),
    (.for_ (.nm 8) (.range (.var 4)) [(.asg (.nm 9) (.call f__law_draw (.cons (.var 0) (.cons (.var 3) .nil)))),
    (.asg (.nm 10) (.call f__law_draw (.cons (.var 0) (.cons (.var 3) .nil)))),
    (.ite (.v (.cmp .lt (.var 8) (.var 3))) [(.asg (.nm 9) (.var 8))] []),
    (.app 7 (.tup (.cons (.idx (.var 6) (.var 8)) (.cons (.call f__law_draw (.cons (.var 0) (.cons (.var 2) .nil))) (.cons (.var 9) (.cons (.var 10) (.cons (.call f__law_table (.cons (.var 0) (.cons (.var 1) (.cons (.var 5) .nil)))) .nil)))))))]),
    (.asg (.nm 11) (.call f__law_draw (.cons (.var 0) (.cons (.var 3) .nil)))),
    (.ret (.tup (.cons (.call f__law_names (.cons (.var 0) (.cons (.var 1) .nil))) (.cons (.call f__law_names (.cons (.var 0) (.cons (.var 2) .nil))) (.cons (.call f__law_names (.cons (.var 0) (.cons (.var 3) .nil))) (.cons (.var 11) (.cons (.lk .tuple (.own 7)) .nil)))))))] }
def d__law_small_web (f__law_pick : Nat) (f__law_web : Nat) : Fn := { name := "_law_small_web", arity := 1, slots := ["d", "sizes", "workers", "places", "moves"], body :=
  [(.asg (.nm 1) (.call f__law_pick (.cons (.var 0) (.tmp (.disp (.cons (.cst (.int 1)) (.cons (.cst (.int 2)) (.cons (.cst (.int 2)) (.cons (.cst (.int 2)) (.cons (.cst (.int 3)) .nil)))))) .nil)))),
    (.asg (.nm 2) (.call f__law_pick (.cons (.var 0) (.tmp (.disp (.cons (.cst (.int 1)) (.cons (.cst (.int 2)) (.cons (.cst (.int 2)) (.cons (.cst (.int 3)) .nil))))) .nil)))),
    (.asg (.nm 3) (.call f__law_pick (.cons (.var 0) (.tmp (.disp (.cons (.cst (.int 1)) (.cons (.cst (.int 1)) (.cons (.cst (.int 2)) (.cons (.cst (.int 2)) (.cons (.cst (.int 3)) .nil)))))) .nil)))),
    (.asg (.nm 4) (.call f__law_pick (.cons (.var 0) (.tmp (.disp (.cons (.cst (.int 1)) (.cons (.cst (.int 2)) (.cons (.cst (.int 3)) (.cons (.cst (.int 3)) (.cons (.cst (.int 4)) .nil)))))) .nil)))),
    (.ret (.call f__law_web (.cons (.var 0) (.cons (.var 1) (.cons (.var 2) (.cons (.var 3) (.cons (.var 4) (.cons (.call f__law_pick (.cons (.var 0) (.tmp (.disp (.cons (.cst (.int 0)) (.cons (.cst (.int 1)) (.cons (.cst (.int 2)) (.cons (.cst (.int 3)) (.cons (.cst (.int 4)) .nil)))))) .nil))) .nil))))))))] }
def d__law_leaving : Fn := { name := "_law_leaving", arity := 2, slots := ["web", "place", "k"], body :=
  [(.ret (.mk (.comp (.var 2) (.nm 2) (.range (.blt .len (.cons (.idx (.var 0) (.cst (.int 4))) .nil))) (some (.v (.cmp .eq (.idx (.idx (.idx (.var 0) (.cst (.int 4))) (.var 2)) (.cst (.int 2))) (.var 1)))))))] }
def d__law_word (f__law_leaving : Nat) (f__law_pick : Nat) : Fn := { name := "_law_word", arity := 4, slots := ["d", "web", "place", "length", "word", "here", "k", "moves"], body :=
  [(.asgN 4 (.disp .nil)),
    (.asg (.nm 5) (.var 2)),
    (.for_ (.nm 6) (.range (.var 3)) [(.asg (.nm 7) (.call f__law_leaving (.cons (.var 1) (.cons (.var 5) .nil)))),
    (.ite (.v (.cmp .gt (.blt .len (.cons (.var 7) .nil)) (.cst (.int 0)))) [(.app 4 (.call f__law_pick (.cons (.var 0) (.cons (.var 7) .nil)))),
    (.asg (.nm 5) (.idx (.idx (.idx (.var 1) (.cst (.int 4))) (.lidx (.own 4) (.neg (.cst (.int 1))))) (.cst (.int 3))))] [])]),
    (.ret (.lk .tuple (.own 4)))] }
def d__law_row (f__law_draw : Nat) : Fn := { name := "_law_row", arity := 3, slots := ["d", "many", "top", "k"], body :=
  [(.ret (.lk .tuple (.new (.comp (.call f__law_draw (.cons (.var 0) (.cons (.bin .add (.var 2) (.cst (.int 1))) .nil))) (.nm 3) (.range (.var 1)) none))))] }
def d__law_keeps : Fn := { name := "_law_keeps", arity := 3, slots := ["table", "ahead", "behind", "x", "y"], body :=
  [(.for_ (.nm 3) (.range (.blt .len (.cons (.var 0) .nil))) [(.for_ (.nm 4) (.range (.blt .len (.cons (.var 0) .nil))) [(.ite (.and (.v (.cmp .eq (.idx (.idx (.var 0) (.var 3)) (.var 4)) (.cst (.int 1)))) (.v (.cmp .gt (.idx (.var 2) (.var 4)) (.idx (.var 1) (.var 3))))) [(.ret (.cst (.bl false)))] []),
    (.ite (.and (.v (.cmp .eq (.idx (.idx (.var 0) (.var 3)) (.var 4)) (.cst (.int 2)))) (.v (.cmp .ge (.idx (.var 2) (.var 4)) (.idx (.var 1) (.var 3))))) [(.ret (.cst (.bl false)))] [])])]),
    (.ret (.cst (.bl true)))] }
def d__law_is_rows (f__law_is_ints : Nat) : Fn := { name := "_law_is_rows", arity := 2, slots := ["rows", "many", "row"], body :=
  [(.ite (.or (.not (.v (.blt (.isa .tuple) (.cons (.var 0) .nil)))) (.not (.v (.lk .all (.new (.comp (.call f__law_is_ints (.cons (.var 2) .nil)) (.nm 2) (.dyn (.var 0)) none)))))) [(.ret (.cst (.bl false)))] []),
    (.ret (.lk .all (.new (.comp (.cmp .eq (.blt .len (.cons (.var 2) .nil)) (.var 1)) (.nm 2) (.dyn (.var 0)) none))))] }
def d__law_great_web (f__law_draw : Nat) (f__law_table : Nat) (f__law_pick : Nat) : Fn := { name := "_law_great_web", arity := 1, slots := ["d", "sizes", "workers", "places", "many", "style", "tables", "moves", "k", "source", "sized", "crew", "where"], body :=
  [(.asg (.nm 1) (.bin .add (.cst (.int 6)) (.call f__law_draw (.cons (.var 0) (.cons (.cst (.int 4)) .nil))))),
    (.asg (.nm 2) (.bin .add (.cst (.int 1)) (.call f__law_draw (.cons (.var 0) (.cons (.cst (.int 4)) .nil))))),
    (.asg (.nm 3) (.bin .add (.cst (.int 1)) (.call f__law_draw (.cons (.var 0) (.cons (.cst (.int 64)) .nil))))),
    (.asg (.nm 4) (.bin .add (.var 3) (.call f__law_draw (.cons (.var 0) (.cons (.bin .sub (.cst (.int 161)) (.var 3)) .nil))))),
    (.asg (.nm 5) (.call f__law_draw (.cons (.var 0) (.cons (.cst (.int 5)) .nil)))),
    (.asgN 6 (.comp (.call f__law_table (.cons (.var 0) (.cons (.var 1) (.cons (.var 5) .nil)))) (.nm 8) (.range (.cst (.int 4))) none)),
    (.asgN 7 (.disp .nil)),
    (.for_ (.nm 8) (.range (.var 4)) [(.asg (.nm 9) (.call f__law_draw (.cons (.var 0) (.cons (.var 3) .nil)))),
    (.ite (.v (.cmp .lt (.var 8) (.var 3))) [(.asg (.nm 9) (.var 8))] []),
    (.app 7 (.tup (.cons (.bin .add (.cst (.str "m")) (.blt .str (.cons (.var 8) .nil))) (.cons (.call f__law_draw (.cons (.var 0) (.cons (.var 2) .nil))) (.cons (.var 9) (.cons (.call f__law_draw (.cons (.var 0) (.cons (.var 3) .nil))) (.cons (.call f__law_pick (.cons (.var 0) (.lend 6 .nil))) .nil)))))))]),
    (.asg (.nm 10) (.lk .tuple (.new (.comp (.bin .add (.cst (.str "s")) (.blt .str (.cons (.var 8) .nil))) (.nm 8) (.range (.var 1)) none)))),
    (.asg (.nm 11) (.lk .tuple (.new (.comp (.bin .add (.cst (.str "w")) (.blt .str (.cons (.var 8) .nil))) (.nm 8) (.range (.var 2)) none)))),
    (.asg (.nm 12) (.lk .tuple (.new (.comp (.bin .add (.cst (.str "p")) (.blt .str (.cons (.var 8) .nil))) (.nm 8) (.range (.var 3)) none)))),
    (.ret (.tup (.cons (.var 10) (.cons (.var 11) (.cons (.var 12) (.cons (.call f__law_draw (.cons (.var 0) (.cons (.var 3) .nil))) (.cons (.lk .tuple (.own 7)) .nil)))))))] }
def d__law_ground (f__law_draw : Nat) (f__law_great_web : Nat) (f__law_small_web : Nat) (f__law_web : Nat) : Fn := { name := "_law_ground", arity := 1, slots := ["d", "kind", "sizes", "workers", "places"], body :=
  [(.asg (.nm 1) (.call f__law_draw (.cons (.var 0) (.cons (.cst (.int 8)) .nil)))),
    (.ite (.v (.cmp .eq (.var 1) (.cst (.int 0)))) [(.ret (.call f__law_great_web (.cons (.var 0) .nil)))] []),
    (.ite (.v (.cmp .lt (.var 1) (.cst (.int 4)))) [(.ret (.call f__law_small_web (.cons (.var 0) .nil)))] []),
    (.asg (.nm 2) (.call f__law_draw (.cons (.var 0) (.cons (.cst (.int 6)) .nil)))),
    (.asg (.nm 3) (.bin .add (.cst (.int 1)) (.call f__law_draw (.cons (.var 0) (.cons (.cst (.int 4)) .nil))))),
    (.asg (.nm 4) (.bin .add (.cst (.int 1)) (.call f__law_draw (.cons (.var 0) (.cons (.cst (.int 5)) .nil))))),
    (.ret (.call f__law_web (.cons (.var 0) (.cons (.var 2) (.cons (.var 3) (.cons (.var 4) (.cons (.bin .add (.var 4) (.call f__law_draw (.cons (.var 0) (.cons (.cst (.int 6)) .nil)))) (.cons (.call f__law_draw (.cons (.var 0) (.cons (.cst (.int 5)) .nil))) .nil))))))))] }
def d__law_length (f__law_draw : Nat) : Fn := { name := "_law_length", arity := 2, slots := ["d", "web"], body :=
  [(.ite (.v (.cmp .gt (.blt .len (.cons (.idx (.var 1) (.cst (.int 0))) .nil)) (.cst (.int 5)))) [(.ret (.call f__law_draw (.cons (.var 0) (.cons (.cst (.int 31)) .nil))))] []),
    (.ite (.v (.cmp .eq (.call f__law_draw (.cons (.var 0) (.cons (.cst (.int 12)) .nil))) (.cst (.int 0)))) [(.ret (.cst (.int 100)))] []),
    (.ret (.call f__law_draw (.cons (.var 0) (.cons (.cst (.int 9)) .nil))))] }
def poolText : Str := "x y z n m left right size row9 a1 deep more2 keep top q0 hold sum next1 abcdefgh w k b c d e f g h i j"
def poolText2 : Str := " lo hi step go back wake call up down turn red blue tin oak elm ash fir yew zzzzzzz9"
def pool : List Str := ["x", "y", "z", "n", "m", "left", "right", "size", "row9", "a1", "deep", "more2", "keep", "top", "q0", "hold", "sum", "next1", "abcdefgh", "w", "k", "b", "c", "d", "e", "f", "g", "h", "i", "j",
  "lo", "hi", "step", "go", "back", "wake", "call", "up", "down", "turn", "red", "blue", "tin", "oak", "elm", "ash", "fir", "yew", "zzzzzzz9"].map fun (s : String) => (s : Str)
theorem pool_split : Txt.split (poolText ++ poolText2) " " = pool := by decide +kernel
variable {P : List Fn} {n f : Nat} {M : Mem} {Q : QE} {E : QX}
theorem pool_ok (hf : P[f]? = some d__law_pool) (q : ∀ p, M p = none → Q (.ref p) (upd M p (.lst (pool.map .str)))) : wFn P (n + 1) f [] M Q E := by
  refine enter hf rfl ?_
  simp only [d__law_pool]
  (rw [ss_cons]; walk_at "wp")
  (rw [ss_cons]; walk_at "wp")
  refine ⟨by decide +kernel, ?_⟩
  (rw [ss_cons]; walk_at "wp")
  refine ⟨rfl, by decide +kernel, fun p hp => leave ?_⟩
  have := q p hp
  rw [← pool_split] at this
  exact this
theorem map_erase {f : Str → D} : ∀ {l : List Str} {i : Nat}, (l.map f).eraseIdx i = (l.eraseIdx i).map f
  | [], _ => rfl
  | _ :: _, 0 => rfl
  | x :: l, i + 1 => by simp only [List.map_cons, List.eraseIdx_cons_succ, map_erase]
theorem perm_erase : ∀ {l : List Str} {i : Nat} (h : i < l.length), (l[i] :: l.eraseIdx i).Perm l
  | x :: l, 0, _ => .refl _
  | x :: l, i + 1, h => by
    have h' : i < l.length := by simpa using h
    have := perm_erase h'
    simp only [List.getElem_cons_succ, List.eraseIdx_cons_succ]
    exact (List.Perm.swap _ _ _).trans (this.cons x)
/-- names out of the pool, each once -/
def NmOk (ns : List Str) : Prop := ∃ rest, (ns ++ rest).Perm pool
theorem names_ok {fp fd : Nat} (hf : P[f]? = some (d__law_names fp fd)) (hp : P[fp]? = some d__law_pool) (hd : P[fd]? = some d_draw) {d c m : Nat} (hm : m ≤ 49) (h : Dst M d c) (q : ∀ ns M', ns.length = m → NmOk ns → DrS d c M M' → Q (.tup (ns.map .str)) M') : wFn P (n + 2) f [.ref d, .int m] M Q E := by
  refine enter hf rfl ?_
  simp only [d__law_names]
  (rw [ss_cons]; walk_at "wp")
  refine pool_ok hp fun p hp0 => ?_
  obtain ⟨hpd, hpc⟩ := h.none hp0
  have hlen : pool.length = 49 := by decide +kernel
  (try walk_at "wp")
  (rw [ss_cons]; walk_at "wp")
  refine ⟨by decide, fun p2 hp2 => ?_⟩
  (rw [ss_cons]; walk_at "wp")
  refine ⟨by omega, by omega, ?_⟩
  refine for_range mF (fun k e M' => Dst M' d c ∧ k ≤ m ∧ (∀ a, a ≠ d → a ≠ p → M' a = M a) ∧ ∃ ns rest, M' p = some (.lst (rest.map D.str)) ∧ ns.length = k ∧ (ns ++ rest).Perm pool ∧ ∃ s4, e = [.val (.ref d), .val (.int m), .val (.ref p), .own p2 (.lst (ns.map D.str)), s4])
    ⟨h.upd hp0, Nat.zero_le _, fun a _ ha => upd_no ha, [], pool, upd_at, rfl, .refl _, _, rfl⟩ (fun _ _ _ _ => trivial) (fun e M' hI => ?_) (fun k e M' hk hI => ?_)
  · obtain ⟨hD, _, hM, ns, rest, hr, hl, hpm, s4, rfl⟩ := hI
    (try walk_at "wp")
    (rw [ss_cons]; walk_at "wp")
    obtain ⟨cells, a, r, g, h1, hc, h2⟩ := hD
    refine ⟨drp M' p, fun a o e => ?_, q ns _ hl ⟨rest, hpm⟩ ⟨⟨cells, a, r, g, by rw [drp_no hpd.symm]; exact h1, hc, by rw [drp_no hpc.symm]; exact h2⟩, fun a ha => ?_⟩⟩
    · by_cases e2 : a = p
      · subst e2; rw [drp_at] at e; cases e
      · rw [drp_no e2] at e; exact e
    · by_cases e2 : a = p
      · subst e2; rw [drp_at, hp0]
      · rw [drp_no e2, hM a ha e2]
  · obtain ⟨hD, _, hM, ns, rest, hr, hl, hpm, s4, rfl⟩ := hI
    have hl2 := hpm.length_eq
    rw [List.length_append, hl, hlen] at hl2
    (try walk_at "wp")
    (rw [ss_cons]; walk_at "wp")
    rw [hr]
    walk_at "wp"
    refine ⟨⟨_, rfl⟩, draw_ok hd (by omega) (by omega) hD fun i M2 i0 i1 s => ?_⟩
    obtain ⟨j, rfl⟩ := Int.eq_ofNat_of_zero_le i0
    have hj : j < rest.length := by omega
    have hp3 : M2 p = some (.lst (rest.map D.str)) := by rw [s.2 p hpd]; exact hr
    simp! only [hp3]
    refine ⟨by omega, by omega, j, ixN_cast hj, .str rest[j], by simp [hj], Nat.lt_of_lt_of_le (show ns.length < 49 by omega) (by decide), ?_⟩
    have hD2 := s.1
    obtain ⟨cells, a, r, g, h1, hc, h2⟩ := hD2
    refine ⟨⟨cells, a, r, g, by rw [upd_no hpd.symm]; exact h1, hc, by rw [upd_no hpc.symm]; exact h2⟩, by omega, fun a ha hap => by rw [upd_no hap, s.2 a ha, hM a ha hap], ns ++ [rest[j]], rest.eraseIdx j, ?_, by simp [hl], ?_, ?_⟩
    · rw [map_erase]
    · rw [List.append_assoc]
      exact (List.Perm.append_left ns (perm_erase hj)).trans hpm
    · simp
/-! webs -/
structure Mv where
  name : Str
  wk : Nat
  src : Nat
  tgt : Nat
  tb : Nat → Nat → Int
structure Wb where
  sizes : List Str
  workers : List Str
  places : List Str
  start : Nat
  moves : List Mv
def MvD (s : Nat) (v : Mv) : D := .tup [.str v.name, .int v.wk, .int v.src, .int v.tgt, TD s v.tb]
def WD (w : Wb) : D := .tup [.tup (w.sizes.map .str), .tup (w.workers.map .str), .tup (w.places.map .str), .int w.start, .tup (w.moves.map (MvD w.sizes.length))]
structure MvOk (s wk pl : Nat) (v : Mv) : Prop where
  wk : v.wk < wk
  src : v.src < pl
  tgt : v.tgt < pl
  tb : Ent s v.tb
structure WbOk (w : Wb) : Prop where
  start : w.start < w.places.length
  moves : ∀ v ∈ w.moves, MvOk w.sizes.length w.workers.length w.places.length v
  left : ∀ p, p < w.places.length → ∀ v, w.moves[p]? = some v → v.src = p
/-- the sizes of a web -/
structure WbSz (w : Wb) (s wk pl mv : Nat) : Prop where
  sizes : w.sizes.length = s
  workers : w.workers.length = wk
  places : w.places.length = pl
  moves : w.moves.length = mv
/-- its names are out of the pool -/
structure WbNm (w : Wb) : Prop where
  sizes : NmOk w.sizes
  workers : NmOk w.workers
  places : NmOk w.places
  moves : NmOk (w.moves.map (·.name))
theorem str_get {ns : List Str} {k : Nat} (h : k < ns.length) : L2.atI (ns.map D.str) (k : Int) = some (.str ns[k]) := atI_cast (by simp [h])
theorem web_ok {fn fp fpl ft fe fd : Nat} (hf : P[f]? = some (d__law_web fn fd ft)) (hn : P[fn]? = some (d__law_names fpl fd)) (hpl : P[fpl]? = some d__law_pool) (ht : P[ft]? = some (d__law_table fp fe)) (he : P[fe]? = some (d__law_entry fp fd)) (hp : P[fp]? = some (d_pick fd)) (hd : P[fd]? = some d_draw)
    {d c s wk pl mv : Nat} {st : Int} (hs : s ≤ 49) (hwk : 0 < wk ∧ wk ≤ 49) (hplc : 0 < pl ∧ pl ≤ 49) (hmv : mv ≤ 49) (h : Dst M d c) (q : ∀ w M', WbOk w → WbSz w s wk pl mv → WbNm w → DrS d c M M' → Q (WD w) M') : wFn P (n + 5) f [.ref d, .int s, .int wk, .int pl, .int mv, .int st] M Q E := by
  have names : ∀ (a m : Nat) (M : Mem) (Q : QE) (E : QX), m ≤ 49 → Dst M d c → (∀ ns M', ns.length = m → NmOk ns → DrS d c M M' → Q (.tup (ns.map .str)) M') → wFn P (a + 2) fn [.ref d, .int m] M Q E := fun a m M Q E h1 h2 h3 => names_ok hn hpl hd h1 h2 h3
  have draw : ∀ (a : Nat) (M : Mem) (many : Int) (Q : QE) (E : QX), 0 < many → many < 1073741824 → Dst M d c → (∀ k M', 0 ≤ k → k < many → DrS d c M M' → Q (.int k) M') → wFn P (a + 1) fd [.ref d, .int many] M Q E := fun a M many Q E h1 h2 h3 h4 => draw_ok hd h1 (Int.lt_trans h2 (by decide)) h3 h4
  refine enter hf rfl ?_
  simp only [d__law_web]
  (rw [ss_cons]; walk_at "wp")
  refine names _ _ _ _ _ hmv h fun nm M1 hl1 hn1 s1 => ?_
  (try walk_at "wp")
  (rw [ss_cons]; walk_at "wp")
  refine ⟨by decide, fun p hp0 => ?_⟩
  (rw [ss_cons]; walk_at "wp")
  refine ⟨by omega, by omega, ?_⟩
  refine for_range mF (fun k e M' => DrS d c M M' ∧ k ≤ mv ∧ ∃ mvs : List Mv, mvs.length = k ∧ mvs.map (·.name) = nm.take k ∧ (∀ v ∈ mvs, MvOk s wk pl v) ∧ (∀ p, p < pl → ∀ v, mvs[p]? = some v → v.src = p) ∧ ∃ s8 s9 s10 s11, e = [.val (.ref d), .val (.int s), .val (.int wk), .val (.int pl), .val (.int mv), .val (.int st), .val (.tup (nm.map D.str)), .own p (.lst (mvs.map (MvD s))), s8, s9, s10, s11])
    ⟨s1, Nat.zero_le _, [], rfl, rfl, by simp, by simp, _, _, _, _, rfl⟩ (fun _ _ _ _ => trivial) (fun e M' hI => ?_) (fun k e M' hk hI => ?_)
  · obtain ⟨hs', _, mvs, hml, hmn, hmo, hmf, s8, s9, s10, s11, rfl⟩ := hI
    (try walk_at "wp")
    (rw [ss_cons]; walk_at "wp")
    refine draw _ _ _ _ _ (by omega) (by omega) hs'.1 fun b' M2 b0 b1 s2 => ?_
    obtain ⟨b, rfl⟩ := Int.eq_ofNat_of_zero_le b0
    (try walk_at "wp")
    (rw [ss_cons]; walk_at "wp")
    refine names _ _ _ _ _ hs s2.1 fun zs M3 hl3 hn3 s3 => ?_
    (try walk_at "wp")
    refine names _ _ _ _ _ hwk.2 s3.1 fun ws M4 hl4 hn4 s4 => ?_
    (try walk_at "wp")
    refine names _ _ _ _ _ hplc.2 s4.1 fun ps M5 hl5 hn5 s5 => ?_
    (try walk_at "wp")
    refine ⟨by decide, leave ?_⟩
    have := q ⟨zs, ws, ps, b, mvs⟩ M5 ⟨by show b < ps.length; omega, by show ∀ v ∈ mvs, MvOk zs.length ws.length ps.length v; rw [hl3, hl4, hl5]; exact hmo, by show ∀ p, p < ps.length → _; rw [hl5]; exact hmf⟩ ⟨hl3, hl4, hl5, hml⟩ ⟨hn3, hn4, hn5, by show NmOk (mvs.map (·.name)); rw [hmn, ← hl1, List.take_length]; exact hn1⟩ (hs'.trans (s2.trans (s3.trans (s4.trans s5))))
    simp only [WD, hl3] at this
    exact this
  · obtain ⟨hs', _, mvs, hml, hmn, hmo, hmf, s8, s9, s10, s11, rfl⟩ := hI
    (try walk_at "wp")
    (rw [ss_cons]; walk_at "wp")
    refine draw _ _ _ _ _ (by omega) (by omega) hs'.1 fun x' M2 x0 x1 s2 => ?_
    obtain ⟨x, rfl⟩ := Int.eq_ofNat_of_zero_le x0
    (try walk_at "wp")
    (rw [ss_cons]; walk_at "wp")
    refine draw _ _ _ _ _ (by omega) (by omega) s2.1 fun y' M3 y0 y1 s3 => ?_
    obtain ⟨y, rfl⟩ := Int.eq_ofNat_of_zero_le y0
    (try walk_at "wp")
    have hk1 : k < nm.length := by omega
    have rest : ∀ z : Nat, z < pl → (k < pl → z = k) → wSs (wFn P (n + 4)) [IS.app 7 (.tup (.cons (.idx (.var 6) (.var 8)) (.cons (.call fd (.cons (.var 0) (.cons (.var 2) .nil))) (.cons (.var 9) (.cons (.var 10) (.cons (.call ft (.cons (.var 0) (.cons (.var 1) (.cons (.var 5) .nil)))) .nil))))))]
        [.val (.ref d), .val (.int s), .val (.int wk), .val (.int pl), .val (.int mv), .val (.int st), .val (.tup (nm.map D.str)), .own p (.lst (mvs.map (MvD s))), .val (.int k), .val (.int z), .val (.int y), s11] M3
        { Kt0 Q E with nx := fun e M' => DrS d c M M' ∧ k + 1 ≤ mv ∧ ∃ mvs : List Mv, mvs.length = k + 1 ∧ mvs.map (·.name) = nm.take (k + 1) ∧ (∀ v ∈ mvs, MvOk s wk pl v) ∧ (∀ p, p < pl → ∀ v, mvs[p]? = some v → v.src = p) ∧ ∃ s8 s9 s10 s11, e = [.val (.ref d), .val (.int s), .val (.int wk), .val (.int pl), .val (.int mv), .val (.int st), .val (.tup (nm.map D.str)), .own p (.lst (mvs.map (MvD s))), s8, s9, s10, s11] } := fun z hz hzk => by
      (rw [ss_cons]; walk_at "wp")
      refine ⟨_, str_get hk1, draw _ _ _ _ _ (by omega) (by omega) s3.1 fun u' M4 u0 u1 s4 => ?_⟩
      obtain ⟨u, rfl⟩ := Int.eq_ofNat_of_zero_le u0
      (try walk_at "wp")
      refine table_ok ht he hp hd (by omega) s4.1 fun g M5 hg s5 => ?_
      (try walk_at "wp")
      refine ⟨by decide, Nat.lt_of_lt_of_le (show mvs.length < 1000 by omega) (by decide), hs'.trans (s2.trans (s3.trans (s4.trans s5))), by omega, mvs ++ [⟨nm[k], u, z, y, g⟩], by simp [hml], ?_, fun v hv => ?_, fun p' hp' v hv => ?_, ?_⟩
      · rw [List.map_append, hmn, List.take_add_one, List.getElem?_eq_getElem hk1]; rfl
      · rcases List.mem_append.mp hv with hv | hv
        · exact hmo v hv
        · rw [List.mem_singleton.mp hv]
          exact ⟨by show u < wk; omega, hz, by show y < pl; omega, hg⟩
      · by_cases e : p' < mvs.length
        · rw [List.getElem?_append_left e] at hv
          exact hmf p' hp' v hv
        · rw [List.getElem?_append_right (by omega)] at hv
          have e2 : p' - mvs.length = 0 := by
            by_cases e3 : p' - mvs.length = 0
            · exact e3
            · rw [List.getElem?_eq_none (by simp; omega)] at hv; cases hv
          rw [e2] at hv
          have hv : (⟨nm[k], u, z, y, g⟩ : Mv) = v := by simpa using hv
          subst hv
          show z = p'
          have := hzk (by omega)
          omega
      · rw [List.map_append]
        exact ⟨_, _, _, _, rfl⟩
    (rw [ss_cons]; walk_at "wp")
    split
    · (rw [ss_cons]; walk_at "wp")
      exact rest k (by omega) fun _ => rfl
    · exact rest x (by omega) fun h => absurd h (by omega)
/-- one of some whole numbers from lo to hi -/
theorem pick_nat {fd : Nat} (hf : P[f]? = some (d_pick fd)) (hd : P[fd]? = some d_draw) {d c p : Nat} {xs : List D} {lo hi : Nat} (h : Dst M d c) (hp : M p = none) (h0 : xs ≠ []) (h1 : xs.length < 1073741824) (hx : ∀ x ∈ xs, ∃ k : Nat, x = .int k ∧ lo ≤ k ∧ k ≤ hi) (q : ∀ (k : Nat) M2, lo ≤ k → k ≤ hi → DrS d c M (drp M2 p) → Q (.int k) M2) : wFn P (n + 2) f [.ref d, .ref p] (upd M p (.lst xs)) Q E :=
  pick_tmp hf hd h hp h0 h1 fun x M2 hxx s => by
    obtain ⟨k, rfl, a, b⟩ := hx x hxx
    exact q k M2 a b s
structure WebDefs (P : List Fn) (fw fn fp fpl ft fe fd : Nat) : Prop where
  web : P[fw]? = some (d__law_web fn fd ft)
  names : P[fn]? = some (d__law_names fpl fd)
  pool : P[fpl]? = some d__law_pool
  table : P[ft]? = some (d__law_table fp fe)
  entry : P[fe]? = some (d__law_entry fp fd)
  pick : P[fp]? = some (d_pick fd)
  draw : P[fd]? = some d_draw
/-- a web within bounds -/
structure WbIn (w : Wb) : Prop where
  ok : WbOk w
  sizes : w.sizes.length ≤ 9
  workers : w.workers.length ≤ 4
  places : w.places.length ≤ 64
  moves : w.moves.length ≤ 160
  full : w.places.length ≤ w.moves.length ∨ w.places.length ≤ 3
theorem small_web_ok {fw fn fp fpl ft fe fd : Nat} (W : WebDefs P fw fn fp fpl ft fe fd) (hf : P[f]? = some (d__law_small_web fp fw)) {d c : Nat} (h : Dst M d c)
    (q : ∀ w M', WbOk w → WbNm w → (1 ≤ w.sizes.length ∧ w.sizes.length ≤ 3) → (1 ≤ w.workers.length ∧ w.workers.length ≤ 3) → (1 ≤ w.places.length ∧ w.places.length ≤ 3) → (1 ≤ w.moves.length ∧ w.moves.length ≤ 4) → DrS d c M M' → Q (WD w) M') : wFn P (n + 6) f [.ref d] M Q E := by
  refine enter hf rfl ?_
  simp only [d__law_small_web]
  (rw [ss_cons]; walk_at "wp")
  refine ⟨by decide, fun p hp => pick_nat (lo := 1) (hi := 3) W.pick W.draw h hp (by simp) (by decide) (fun x hx => ?_) fun s M1 a1 b1 s1 => ?_⟩
  · simp only [List.mem_cons, List.not_mem_nil, or_false] at hx
    rcases hx with rfl | rfl | rfl | rfl | rfl
    · exact ⟨1, rfl, by decide, by decide⟩
    · exact ⟨2, rfl, by decide, by decide⟩
    · exact ⟨2, rfl, by decide, by decide⟩
    · exact ⟨2, rfl, by decide, by decide⟩
    · exact ⟨3, rfl, by decide, by decide⟩
  (try walk_at "wp")
  (rw [ss_cons]; walk_at "wp")
  refine ⟨by decide, fun p2 hp2 => pick_nat (lo := 1) (hi := 3) W.pick W.draw s1.1 hp2 (by simp) (by decide) (fun x hx => ?_) fun wk M2 a2 b2 s2 => ?_⟩
  · simp only [List.mem_cons, List.not_mem_nil, or_false] at hx
    rcases hx with rfl | rfl | rfl | rfl
    · exact ⟨1, rfl, by decide, by decide⟩
    · exact ⟨2, rfl, by decide, by decide⟩
    · exact ⟨2, rfl, by decide, by decide⟩
    · exact ⟨3, rfl, by decide, by decide⟩
  (try walk_at "wp")
  (rw [ss_cons]; walk_at "wp")
  refine ⟨by decide, fun p3 hp3 => pick_nat (lo := 1) (hi := 3) W.pick W.draw s2.1 hp3 (by simp) (by decide) (fun x hx => ?_) fun pl M3 a3 b3 s3 => ?_⟩
  · simp only [List.mem_cons, List.not_mem_nil, or_false] at hx
    rcases hx with rfl | rfl | rfl | rfl | rfl
    · exact ⟨1, rfl, by decide, by decide⟩
    · exact ⟨1, rfl, by decide, by decide⟩
    · exact ⟨2, rfl, by decide, by decide⟩
    · exact ⟨2, rfl, by decide, by decide⟩
    · exact ⟨3, rfl, by decide, by decide⟩
  (try walk_at "wp")
  (rw [ss_cons]; walk_at "wp")
  refine ⟨by decide, fun p4 hp4 => pick_nat (lo := 1) (hi := 4) W.pick W.draw s3.1 hp4 (by simp) (by decide) (fun x hx => ?_) fun mv M4 a4 b4 s4 => ?_⟩
  · simp only [List.mem_cons, List.not_mem_nil, or_false] at hx
    rcases hx with rfl | rfl | rfl | rfl | rfl
    · exact ⟨1, rfl, by decide, by decide⟩
    · exact ⟨2, rfl, by decide, by decide⟩
    · exact ⟨3, rfl, by decide, by decide⟩
    · exact ⟨3, rfl, by decide, by decide⟩
    · exact ⟨4, rfl, by decide, by decide⟩
  (try walk_at "wp")
  (rw [ss_cons]; walk_at "wp")
  refine ⟨by decide, fun p5 hp5 => pick_nat (lo := 0) (hi := 4) W.pick W.draw s4.1 hp5 (by simp) (by decide) (fun x hx => ?_) fun st M5 a5 b5 s5 => ?_⟩
  · simp only [List.mem_cons, List.not_mem_nil, or_false] at hx
    rcases hx with rfl | rfl | rfl | rfl | rfl
    · exact ⟨0, rfl, by decide, by decide⟩
    · exact ⟨1, rfl, by decide, by decide⟩
    · exact ⟨2, rfl, by decide, by decide⟩
    · exact ⟨3, rfl, by decide, by decide⟩
    · exact ⟨4, rfl, by decide, by decide⟩
  (try walk_at "wp")
  refine web_ok W.web W.names W.pool W.table W.entry W.pick W.draw (by omega) ⟨by omega, by omega⟩ ⟨by omega, by omega⟩ (by omega) s5.1 fun w M6 hw hz hn s6 => ?_
  (try walk_at "wp")
  have e1 := hz.sizes
  have e2 := hz.workers
  have e3 := hz.places
  have e4 := hz.moves
  exact leave (q w M6 hw hn (by omega) (by omega) (by omega) (by omega) (s1.trans (s2.trans (s3.trans (s4.trans (s5.trans s6))))))
/-! great webs -/
def nmS (x : Str) (k : Nat) : Str := x ++ ((toString (k : Int) : String) : Str)
theorem small_log {k : Nat} (h : k < 1000) : (k : Int).natAbs.log2 < 1920 := by
  have : (k : Int).natAbs = k := by omega
  rw [this]
  exact Nat.lt_of_le_of_lt (Nat.log2_le_self k) (by omega)
theorem cmpr_filt {ok : Mem → Prop} {el : D → Mem → (Option D → Mem → Prop) → Prop} (c : Nat → Bool) (u v : Nat → D) {n : Nat} {Q : QL} (ho : ok M) (h : ∀ i, i < n → ∀ R : Option D → Mem → Prop, R (if c i then some (v i) else none) M → el (u i) M R) (q : Q (((List.range n).filter c).map v) M) : wCmpr ok el ((List.range n).map u) M Q := by
  have gen : ∀ (l : List Nat) (Q : QL), (∀ i ∈ l, i < n) → Q ((l.filter c).map v) M → wCmpr ok el (l.map u) M Q := by
    intro l
    induction l with
    | nil => intro Q _ q; exact ⟨ho, q⟩
    | cons i l ih =>
      intro Q hl q
      refine ⟨ho, h i (hl i List.mem_cons_self) _ ?_⟩
      rw [List.filter_cons] at q
      by_cases e : c i = true
      · rw [if_pos e] at q ⊢
        exact ih _ (fun j hj => hl j (List.mem_cons_of_mem _ hj)) q
      · rw [if_neg e] at q ⊢
        exact ih _ (fun j hj => hl j (List.mem_cons_of_mem _ hj)) q
  exact gen _ _ (fun i hi => List.mem_range.mp hi) q
def srcOf (w : Wb) (k : Nat) : Option Nat := w.moves[k]?.map (·.src)
/-- the moves that leave a place -/
def lv (w : Wb) (p : Nat) : List Nat := (List.range w.moves.length).filter fun k => decide (srcOf w k = some p)
theorem mv_get {w : Wb} {k : Nat} (h : k < w.moves.length) : L2.atI (w.moves.map (MvD w.sizes.length)) (k : Int) = some (MvD w.sizes.length w.moves[k]) := atI_cast (by simp [h])
theorem leaving_ok (hf : P[f]? = some d__law_leaving) {w : Wb} {p : Nat} (hm : w.moves.length < 1000) (q : ∀ a, M a = none → Q (.ref a) (upd M a (.lst ((lv w p).map fun (k : Nat) => .int (k : Int))))) : wFn P (n + 1) f [WD w, .int p] M Q E := by
  refine enter hf rfl ?_
  simp only [d__law_leaving, WD]
  (rw [ss_cons]; walk_at "wp")
  refine ⟨by omega, by omega, small_line hm, cmpr_filt (fun k => decide (srcOf w k = some p)) (fun k => .int k) (fun k => .int k) trivial (fun k hk R hR => ?_) fun a ha => leave (q a ha)⟩
  simp! only [mv_get hk, MvD]
  have e1 : srcOf w k = some w.moves[k].src := by unfold srcOf; rw [List.getElem?_eq_getElem hk]; rfl
  rw [e1] at hR
  by_cases e : w.moves[k].src = p
  · rw [if_pos (by omega)]
    rw [if_pos (by simp [e])] at hR
    exact hR
  · rw [if_neg (by omega)]
    rw [if_neg (by simp [e])] at hR
    exact hR
theorem mem_lv {w : Wb} {p k : Nat} : k ∈ lv w p ↔ ∃ h : k < w.moves.length, w.moves[k].src = p := by
  unfold lv srcOf
  rw [List.mem_filter, List.mem_range, decide_eq_true_eq]
  constructor
  · rintro ⟨h, e⟩
    refine ⟨h, ?_⟩
    rw [List.getElem?_eq_getElem h] at e
    simpa using e
  · rintro ⟨h, e⟩
    refine ⟨h, ?_⟩
    rw [List.getElem?_eq_getElem h]
    simp [e]
/-- a walk: each move leaves where the one ahead leads -/
def Steps (w : Wb) : Nat → List Nat → Prop
  | _, [] => True
  | p, k :: ks => ∃ h : k < w.moves.length, w.moves[k].src = p ∧ Steps w w.moves[k].tgt ks
def endOf (w : Wb) : Nat → List Nat → Nat
  | p, [] => p
  | p, k :: ks => endOf w ((w.moves[k]?.map (·.tgt)).getD p) ks
theorem steps_snoc {w : Wb} : ∀ {ks : List Nat} {p k : Nat}, Steps w p ks → (h : k < w.moves.length) → w.moves[k].src = endOf w p ks → Steps w p (ks ++ [k]) ∧ endOf w p (ks ++ [k]) = w.moves[k].tgt
  | [], p, k, _, h, e => ⟨⟨h, e, trivial⟩, by simp [endOf, List.getElem?_eq_getElem h]⟩
  | j :: ks, p, k, s, h, e => by
    obtain ⟨hj, e1, s1⟩ := s
    have e2 : (w.moves[j]?.map (·.tgt)).getD p = w.moves[j].tgt := by rw [List.getElem?_eq_getElem hj]; rfl
    have e3 : endOf w p (j :: ks) = endOf w w.moves[j].tgt ks := by rw [endOf, e2]
    rw [e3] at e
    obtain ⟨a, b⟩ := steps_snoc s1 h e
    refine ⟨⟨hj, e1, a⟩, ?_⟩
    show endOf w ((w.moves[j]?.map (·.tgt)).getD p) (ks ++ [k]) = _
    rw [e2]; exact b
theorem endOf_lt {w : Wb} (ok : WbOk w) : ∀ {ks : List Nat} {p : Nat}, p < w.places.length → Steps w p ks → endOf w p ks < w.places.length
  | [], p, h, _ => h
  | j :: ks, p, h, s => by
    obtain ⟨hj, e1, s1⟩ := s
    have e2 : (w.moves[j]?.map (·.tgt)).getD p = w.moves[j].tgt := by rw [List.getElem?_eq_getElem hj]; rfl
    rw [endOf, e2]
    exact endOf_lt ok (ok.moves _ (List.getElem_mem hj)).tgt s1
/-- the drawer has changed, and there may be more -/
def DrG (d c : Nat) (M M' : Mem) : Prop := Dst M' d c ∧ ∀ b o, b ≠ d → M b = some o → M' b = some o
theorem DrG.refl {d c : Nat} {M : Mem} (h : Dst M d c) : DrG d c M M := ⟨h, fun _ _ _ e => e⟩
theorem DrG.upd {d c b : Nat} {M M' : Mem} {o : MO} (h : DrG d c M M') (hb : M' b = none) : DrG d c M (DL.upd M' b o) := ⟨h.1.upd hb, fun a u ha e => by
  have := h.2 a u ha e
  rw [upd_no (ne_of_mem this hb)]
  exact this⟩
theorem DrG.go {d c : Nat} {M M' M'' : Mem} (h : DrG d c M M') (s : DrS d c M' M'') : DrG d c M M'' := ⟨s.1, fun a u ha e => by rw [s.2 a ha]; exact h.2 a u ha e⟩
def mix (M M' : Mem) (d : Nat) : Mem := fun b => if b = d then M' d else M b
theorem mix_at {M M' : Mem} {d : Nat} : mix M M' d d = M' d := if_pos rfl
theorem mix_no {M M' : Mem} {d b : Nat} (h : b ≠ d) : mix M M' d b = M b := if_neg h
theorem DrG.back {d c : Nat} {M M' : Mem} (h : DrG d c M M') (h0 : Dst M d c) : ∃ M'', Sub M'' M' ∧ DrS d c M M'' := by
  refine ⟨mix M M' d, fun b o e => ?_, ?_, fun b hb => mix_no hb⟩
  · by_cases z : b = d
    · subst z; rw [mix_at] at e; exact e
    · rw [mix_no z] at e; exact h.2 b o z e
  · obtain ⟨cells, a, r, g, h1, hc, h2⟩ := h.1
    obtain ⟨cells0, a0, r0, g0, h10, hc0, h20⟩ := h0
    exact ⟨cells0, a, r, g, by rw [mix_at]; exact h1, hc, by rw [mix_no hc]; exact h20⟩
theorem word_ok {fl fp fd : Nat} (hf : P[f]? = some (d__law_word fl fp)) (hl : P[fl]? = some d__law_leaving) (hp : P[fp]? = some (d_pick fd)) (hd : P[fd]? = some d_draw) {d c p m : Nat} {w : Wb} (hw : WbOk w) (hm : w.moves.length < 1000) (hp0 : p < w.places.length) (hmm : m < 1000) (h : Dst M d c)
    (q : ∀ ks M', ks.length ≤ m → Steps w p ks → (w.places.length ≤ w.moves.length → ks.length = m) → DrS d c M M' → Q (.tup (ks.map fun (k : Nat) => .int (k : Int))) M') : wFn P (n + 4) f [.ref d, WD w, .int p, .int m] M Q E := by
  refine enter hf rfl ?_
  simp only [d__law_word]
  (rw [ss_cons]; walk_at "wp")
  refine ⟨by decide, fun a ha => ?_⟩
  (rw [ss_cons]; walk_at "wp")
  (rw [ss_cons]; walk_at "wp")
  refine ⟨by omega, by omega, ?_⟩
  refine for_range mF (fun k e M' => DrG d c M M' ∧ k ≤ m ∧ ∃ ks, ks.length ≤ k ∧ Steps w p ks ∧ (w.places.length ≤ w.moves.length → ks.length = k) ∧ ∃ s6 s7, e = [.val (.ref d), .val (WD w), .val (.int p), .val (.int m), .own a (.lst (ks.map fun (k : Nat) => .int (k : Int))), .val (.int (endOf w p ks : Nat)), s6, s7])
    ⟨DrG.refl h, Nat.zero_le _, [], Nat.le_refl _, trivial, fun _ => rfl, _, _, rfl⟩ (fun _ _ _ _ => trivial) (fun e M' hI => ?_) (fun k e M' hk hI => ?_)
  · obtain ⟨hs, _, ks, h1, h2, h3, s6, s7, rfl⟩ := hI
    (try walk_at "wp")
    (rw [ss_cons]; walk_at "wp")
    obtain ⟨M'', sb, s⟩ := hs.back h
    exact leaveS sb (q ks M'' h1 h2 h3 s)
  · obtain ⟨hs, _, ks, h1, h2, h3, s6, s7, rfl⟩ := hI
    have he : endOf w p ks < w.places.length := endOf_lt hw hp0 h2
    (try walk_at "wp")
    (rw [ss_cons]; walk_at "wp")
    refine leaving_ok hl hm fun b hb => ?_
    have hbd := (hs.1.none hb).1
    have hG : DrG d c M (upd M' b (.lst ((lv w (endOf w p ks)).map fun (k : Nat) => .int (k : Int)))) := hs.upd hb
    (try walk_at "wp")
    (rw [ss_cons]; walk_at "wp")
    split
    · rename_i hpos
      have hne : lv w (endOf w p ks) ≠ [] := fun z => by rw [z] at hpos; simp at hpos
      have hll : (lv w (endOf w p ks)).length < 1000 := by
        have : (lv w (endOf w p ks)).length ≤ (List.range w.moves.length).length := List.length_filter_le _ _
        rw [List.length_range] at this; omega
      (rw [ss_cons]; walk_at "wp")
      refine pick_ok hp hd hG.1 upd_at hbd (by simpa using hne) (by simpa using (by omega : (lv w (endOf w p ks)).length < 1073741824)) fun x M2 hx s2 => ?_
      obtain ⟨j, hj, rfl⟩ := List.mem_map.mp hx
      obtain ⟨hj1, hj2⟩ := mem_lv.mp hj
      obtain ⟨st, en⟩ := steps_snoc h2 hj1 hj2
      (try walk_at "wp")
      refine ⟨Nat.lt_of_lt_of_le (show ks.length < 1000 by omega) (by decide), ?_⟩
      (rw [ss_cons]; walk_at "wp")
      have e1 : L2.atI ((ks.map fun (k : Nat) => D.int (k : Int)) ++ [D.int (j : Int)]) (-1) = some (.int (j : Int)) := L2.atI_last _ _
      simp only [WD, wS, wE, wEs, wO, wAs, wL, wN, wI, wT, wTs, setAll, Tg.slots, wipeE, cmp_eq_int, cmp_ne_int, cmp_eq_str, cmp_ne_str, cmp_eq_tup, cmp_ne_tup, cmp_eq_bl, cmp_lt, cmp_le, cmp_gt, cmp_ge, Kt0_rt, Kt0_nx, List.getElem?_cons_zero, List.getElem?_cons_succ, List.set_cons_zero, List.set_cons_succ, Option.some.injEq, Slot.val.injEq, Slot.own.injEq, MO.lst.injEq, D.int.injEq, D.ref.injEq, D.bl.injEq, D.tup.injEq, D.str.injEq, exists_eq_left', exists_eq_left, exists_and_left, exists_and_right, and_assoc, true_and, and_true, atI_0, atI_1, atI_2, atI_3, atI_4, backs, drps, List.map_cons, List.map_nil, List.length_cons, List.length_nil, List.cons_append, List.nil_append, List.replicate, Nat.reduceAdd, Nat.reduceSub, decide_eq_true_eq, upd_at, aug_add_int, aug_sub_int, aug_mul_int, aug_add_str, ixN5_1, ixN5_2, ixN5_3, Int.toNat_natCast, List.length_map, List.length_range, tg_nm, tg_tp, tru_non, tru_bl, tru_int, tru_str, tru_tup, tru_ref, bin_add_int, bin_add_str, bin_add_tup, bin_sub, bin_mul, bin_fdiv, bin_mod, bin_pow, bin_shl, bin_shr, bin_band, bin_bor, idx_tup, idx_ref, idx_str, blt_len_tup, blt_len_str, blt_len_ref, blt_int_int, blt_int_bl, blt_bool_bl, blt_bool_int, blt_abs, blt_max2, blt_max3, blt_min2, blt_tuple_tup, blt_tuple_ref, blt_isa_non, blt_isa_bl, blt_isa_int, blt_isa_str, blt_isa_tup, isa_int_int, isa_int_bool, isa_bl_bool, isa_tup, isa_str, lk_tuple, lk_len, lk_all, lk_any, lk_sum, it_tup, it_rl, it_ref, zip_tup, enum_tup, enum_ref, eq_self_iff_true, if_true, Bool.false_eq_true, if_false, reduceIte, ss_nil, rev_tup, rev_ref, ty_split, ty_join, ty_append, ty_pop, ty_popAt, ty_reverse, ty_extend, ty_insert, mth_append, mth_pop, mth_popAt, mth_reverse, mth_extend, mth_insert, mth_split, mth_join, cmp_eq_ref, cmp_ne_ref, slc_tup, slc_str, slc_ref, lk_max, lk_min, cmp_lt_str, cmp_is_bl, cmp_not_bl, cmp_is_non, cmp_not_non, cmp_is_tup, cmp_not_tup, cmp_is_int, cmp_not_int, blt_str, blt_maxt, blt_mint, tg_np, e1, mv_get hj1, MvD]
      have e2 : (ks.map fun (k : Nat) => D.int (k : Int)) ++ [D.int (j : Int)] = (ks ++ [j]).map fun (k : Nat) => D.int (k : Int) := by rw [List.map_append]; rfl
      rw [e2, ← en]
      exact ⟨hG.go s2, by omega, ks ++ [j], by simp; omega, st, fun hf => by simp [h3 hf], _, _, rfl⟩
    · rename_i hpos
      refine ⟨hG, by omega, ks, by omega, h2, fun hf => ?_, _, _, rfl⟩
      exfalso
      apply hpos
      have hlt : endOf w p ks < w.moves.length := by omega
      have hmem : endOf w p ks ∈ lv w (endOf w p ks) := mem_lv.mpr ⟨hlt, hw.left _ he _ (List.getElem?_eq_getElem hlt)⟩
      have := List.length_pos_of_mem hmem
      omega
end
end DL
/-! Webs, further: rows, great webs, grounds. -/
namespace DL
local macro_rules | `(tactic| walk_at "wp") => `(tactic| simp only [wS, wE, wEs, wO, wAs, wL, wN, wI, wT, wTs, setAll, Tg.slots, wipeE, cmp_eq_int, cmp_ne_int, cmp_eq_str, cmp_ne_str, cmp_eq_tup, cmp_ne_tup, cmp_eq_bl, cmp_lt, cmp_le, cmp_gt, cmp_ge, Kt0_rt, Kt0_nx, List.getElem?_cons_zero, List.getElem?_cons_succ, List.set_cons_zero, List.set_cons_succ, Option.some.injEq, Slot.val.injEq, Slot.own.injEq, MO.lst.injEq, D.int.injEq, D.ref.injEq, D.bl.injEq, D.tup.injEq, D.str.injEq, exists_eq_left', exists_eq_left, exists_and_left, exists_and_right, and_assoc, true_and, and_true, atI_0, atI_1, atI_2, atI_3, atI_4, backs, drps, List.map_cons, List.map_nil, List.length_cons, List.length_nil, List.cons_append, List.nil_append, List.replicate, Nat.reduceAdd, Nat.reduceSub, decide_eq_true_eq, upd_at, aug_add_int, aug_sub_int, aug_mul_int, aug_add_str, ixN5_1, ixN5_2, ixN5_3, Int.toNat_natCast, List.length_map, List.length_range, tg_nm, tg_tp, tru_non, tru_bl, tru_int, tru_str, tru_tup, tru_ref, bin_add_int, bin_add_str, bin_add_tup, bin_sub, bin_mul, bin_fdiv, bin_mod, bin_pow, bin_shl, bin_shr, bin_band, bin_bor, idx_tup, idx_ref, idx_str, blt_len_tup, blt_len_str, blt_len_ref, blt_int_int, blt_int_bl, blt_bool_bl, blt_bool_int, blt_abs, blt_max2, blt_max3, blt_min2, blt_tuple_tup, blt_tuple_ref, blt_isa_non, blt_isa_bl, blt_isa_int, blt_isa_str, blt_isa_tup, isa_int_int, isa_int_bool, isa_bl_bool, isa_tup, isa_str, lk_tuple, lk_len, lk_all, lk_any, lk_sum, it_tup, it_rl, it_ref, zip_tup, enum_tup, enum_ref, eq_self_iff_true, if_true, Bool.false_eq_true, if_false, reduceIte, ss_nil, rev_tup, rev_ref, ty_split, ty_join, ty_append, ty_pop, ty_popAt, ty_reverse, ty_extend, ty_insert, mth_append, mth_pop, mth_popAt, mth_reverse, mth_extend, mth_insert, mth_split, mth_join, cmp_eq_ref, cmp_ne_ref, slc_tup, slc_str, slc_ref, lk_max, lk_min, cmp_lt_str, cmp_is_bl, cmp_not_bl, cmp_is_non, cmp_not_non, cmp_is_tup, cmp_not_tup, cmp_is_int, cmp_not_int, blt_str, blt_maxt, blt_mint, tg_np])
local macro_rules | `(tactic| simp! only [$xs:simpLemma,*]) => `(tactic| simp only [wS, wE, wEs, wO, wAs, wL, wN, wI, wT, wTs, setAll, Tg.slots, wipeE, cmp_eq_int, cmp_ne_int, cmp_eq_str, cmp_ne_str, cmp_eq_tup, cmp_ne_tup, cmp_eq_bl, cmp_lt, cmp_le, cmp_gt, cmp_ge, Kt0_rt, Kt0_nx, List.getElem?_cons_zero, List.getElem?_cons_succ, List.set_cons_zero, List.set_cons_succ, Option.some.injEq, Slot.val.injEq, Slot.own.injEq, MO.lst.injEq, D.int.injEq, D.ref.injEq, D.bl.injEq, D.tup.injEq, D.str.injEq, exists_eq_left', exists_eq_left, exists_and_left, exists_and_right, and_assoc, true_and, and_true, atI_0, atI_1, atI_2, atI_3, atI_4, backs, drps, List.map_cons, List.map_nil, List.length_cons, List.length_nil, List.cons_append, List.nil_append, List.replicate, Nat.reduceAdd, Nat.reduceSub, decide_eq_true_eq, upd_at, aug_add_int, aug_sub_int, aug_mul_int, aug_add_str, ixN5_1, ixN5_2, ixN5_3, Int.toNat_natCast, List.length_map, List.length_range, tg_nm, tg_tp, tru_non, tru_bl, tru_int, tru_str, tru_tup, tru_ref, bin_add_int, bin_add_str, bin_add_tup, bin_sub, bin_mul, bin_fdiv, bin_mod, bin_pow, bin_shl, bin_shr, bin_band, bin_bor, idx_tup, idx_ref, idx_str, blt_len_tup, blt_len_str, blt_len_ref, blt_int_int, blt_int_bl, blt_bool_bl, blt_bool_int, blt_abs, blt_max2, blt_max3, blt_min2, blt_tuple_tup, blt_tuple_ref, blt_isa_non, blt_isa_bl, blt_isa_int, blt_isa_str, blt_isa_tup, isa_int_int, isa_int_bool, isa_bl_bool, isa_tup, isa_str, lk_tuple, lk_len, lk_all, lk_any, lk_sum, it_tup, it_rl, it_ref, zip_tup, enum_tup, enum_ref, eq_self_iff_true, if_true, Bool.false_eq_true, if_false, reduceIte, ss_nil, rev_tup, rev_ref, ty_split, ty_join, ty_append, ty_pop, ty_popAt, ty_reverse, ty_extend, ty_insert, mth_append, mth_pop, mth_popAt, mth_reverse, mth_extend, mth_insert, mth_split, mth_join, cmp_eq_ref, cmp_ne_ref, slc_tup, slc_str, slc_ref, lk_max, lk_min, cmp_lt_str, cmp_is_bl, cmp_not_bl, cmp_is_non, cmp_not_non, cmp_is_tup, cmp_not_tup, cmp_is_int, cmp_not_int, blt_str, blt_maxt, blt_mint, tg_np, $xs,*])
open PySem
section
variable {P : List Fn} {n f : Nat} {M : Mem} {Q : QE} {E : QX}
theorem idx_WD0 {w : Wb} {R : D → Prop} : wIdx (WD w) (.int 0) M R = R (.tup (w.sizes.map .str)) := by rw [WD, idx_tup, atI_0]; simp
theorem idx_WD1 {w : Wb} {R : D → Prop} : wIdx (WD w) (.int 1) M R = R (.tup (w.workers.map .str)) := by rw [WD, idx_tup, atI_1]; simp
theorem idx_WD2 {w : Wb} {R : D → Prop} : wIdx (WD w) (.int 2) M R = R (.tup (w.places.map .str)) := by rw [WD, idx_tup, atI_2]; simp
theorem idx_WD3 {w : Wb} {R : D → Prop} : wIdx (WD w) (.int 3) M R = R (.int w.start) := by rw [WD, idx_tup, atI_3]; simp
theorem idx_WD4 {w : Wb} {R : D → Prop} : wIdx (WD w) (.int 4) M R = R (.tup (w.moves.map (MvD w.sizes.length))) := by rw [WD, idx_tup, atI_4]; simp
theorem idx_MvD0 {s : Nat} {v : Mv} {R : D → Prop} : wIdx (MvD s v) (.int 0) M R = R (.str v.name) := by rw [MvD, idx_tup, atI_0]; simp
theorem idx_MvD1 {s : Nat} {v : Mv} {R : D → Prop} : wIdx (MvD s v) (.int 1) M R = R (.int v.wk) := by rw [MvD, idx_tup, atI_1]; simp
theorem idx_MvD2 {s : Nat} {v : Mv} {R : D → Prop} : wIdx (MvD s v) (.int 2) M R = R (.int v.src) := by rw [MvD, idx_tup, atI_2]; simp
theorem idx_MvD3 {s : Nat} {v : Mv} {R : D → Prop} : wIdx (MvD s v) (.int 3) M R = R (.int v.tgt) := by rw [MvD, idx_tup, atI_3]; simp
theorem idx_MvD4 {s : Nat} {v : Mv} {R : D → Prop} : wIdx (MvD s v) (.int 4) M R = R (TD s v.tb) := by rw [MvD, idx_tup, atI_4]; simp
theorem get_map {α : Type} {f : α → D} {xs : List α} {k : Nat} (h : k < xs.length) : L2.atI (xs.map f) (k : Int) = some (f xs[k]) := atI_cast (by simp [h])
theorem get_map1 {α : Type} {f : α → D} {xs : List α} {k : Nat} (h : k + 1 < xs.length) : L2.atI (xs.map f) ((k : Int) + 1) = some (f xs[k + 1]) := atI_nat' (k := k + 1) rfl (by simp [h])
/-- a row of whole numbers -/
theorem row_ok {fd : Nat} (hf : P[f]? = some (d__law_row fd)) (hd : P[fd]? = some d_draw) {d c m : Nat} {top : Int} (hm : m < 1000) (ht : 0 ≤ top) (ht2 : top < 2 ^ 99) (h : Dst M d c) (q : ∀ r M', (∀ i, i < m → 0 ≤ r i ∧ r i ≤ top) → DrS d c M M' → Q (RD m r) M') : wFn P (n + 2) f [.ref d, .int m, .int top] M Q E := by
  refine enter hf rfl ?_
  simp only [d__law_row]
  (rw [ss_cons]; walk_at "wp")
  refine ⟨by omega, by omega, small_line hm, cmpr_inv (I := fun M' => DrS d c M M') (p := fun _ y => ∃ i : Int, y = .int i ∧ 0 ≤ i ∧ i ≤ top) (fun _ _ => trivial) (DrS.refl h) (fun x hx M2 hs R hR => ?_) fun ys M2 hys hs => ?_⟩
  · exact draw_ok hd (by omega) (by omega) hs.1 fun i M3 i0 i1 s => hR _ _ ⟨i, rfl, i0, by omega⟩ (hs.trans s)
  · have hl := hys.len
    simp only [List.length_map, List.length_range] at hl
    obtain ⟨r, er, hr⟩ := fn_of (G := D.int) (good := fun i => 0 ≤ i ∧ i ≤ top) (ds := ys) (hys.right fun x y _ h => h)
    rw [hl] at er hr
    rw [er]
    exact leave (q r M2 hr hs)
theorem nm_len : ∀ k : Nat, k < 1000 → ((toString (k : Int) : String) : Str).length ≤ 4 := by
  have h : ((List.range 1000).all fun k => decide (((toString (k : Int) : String) : Str).length ≤ 4)) = true := by decide +kernel
  intro k hk
  have := List.all_eq_true.mp h k (List.mem_range.mpr hk)
  exact of_decide_eq_true this
theorem nm_line {x : Str} {k : Nat} (hk : k < 1000) (hx : x.length ≤ 100) : x.length + ((toString (k : Int) : String) : Str).length ≤ sizeLine := by
  have := nm_len k hk
  exact Nat.le_trans (show _ ≤ 104 by omega) (by decide)
structure GrDefs (P : List Fn) (fg fgw fsw fl fw fn fp fpl ft fe fd : Nat) : Prop where
  web : WebDefs P fw fn fp fpl ft fe fd
  great : P[fgw]? = some (d__law_great_web fd ft fp)
  small : P[fsw]? = some (d__law_small_web fp fw)
  ground : P[fg]? = some (d__law_ground fd fgw fsw fw)
  length : P[fl]? = some (d__law_length fd)
theorem great_web_ok {fp ft fe fd : Nat} (hf : P[f]? = some (d__law_great_web fd ft fp)) (ht : P[ft]? = some (d__law_table fp fe)) (he : P[fe]? = some (d__law_entry fp fd)) (hp : P[fp]? = some (d_pick fd)) (hd : P[fd]? = some d_draw) {d c : Nat} (h : Dst M d c)
    (q : ∀ w M', WbOk w → (6 ≤ w.sizes.length ∧ w.sizes.length ≤ 9) → (1 ≤ w.workers.length ∧ w.workers.length ≤ 4) → (1 ≤ w.places.length ∧ w.places.length ≤ 64) → (w.places.length ≤ w.moves.length ∧ w.moves.length ≤ 160) → DrS d c M M' → Q (WD w) M') : wFn P (n + 6) f [.ref d] M Q E := by
  have draw : ∀ (a : Nat) (M : Mem) (many : Int) (Q : QE) (E : QX), 0 < many → many < 1073741824 → Dst M d c → (∀ k M', 0 ≤ k → k < many → DrS d c M M' → Q (.int k) M') → wFn P (a + 1) fd [.ref d, .int many] M Q E := fun a M many Q E h1 h2 h3 h4 => draw_ok hd h1 (Int.lt_trans h2 (by decide)) h3 h4
  refine enter hf rfl ?_
  simp only [d__law_great_web]
  (rw [ss_cons]; walk_at "wp")
  refine draw _ _ _ _ _ (by decide) (by decide) h fun a M1 a0 a1 s1 => ?_
  (try walk_at "wp")
  (rw [ss_cons]; walk_at "wp")
  refine draw _ _ _ _ _ (by decide) (by decide) s1.1 fun b M2 b0 b1 s2 => ?_
  (try walk_at "wp")
  (rw [ss_cons]; walk_at "wp")
  refine draw _ _ _ _ _ (by decide) (by decide) s2.1 fun e M3 e0 e1 s3 => ?_
  (try walk_at "wp")
  (rw [ss_cons]; walk_at "wp")
  refine draw _ _ _ _ _ (by omega) (by omega) s3.1 fun g M4 g0 g1 s4 => ?_
  (try walk_at "wp")
  (rw [ss_cons]; walk_at "wp")
  refine draw _ _ _ _ _ (by decide) (by decide) s4.1 fun st M5 st0 st1 s5 => ?_
  (try walk_at "wp")
  obtain ⟨s, hs⟩ : ∃ s : Nat, 6 + a = (s : Int) := ⟨(6 + a).toNat, by omega⟩
  obtain ⟨wk, hwk⟩ : ∃ s : Nat, 1 + b = (s : Int) := ⟨(1 + b).toNat, by omega⟩
  obtain ⟨pl, hpl⟩ : ∃ s : Nat, 1 + e = (s : Int) := ⟨(1 + e).toNat, by omega⟩
  obtain ⟨mv, hmv⟩ : ∃ s : Nat, 1 + e + g = (s : Int) := ⟨(1 + e + g).toNat, by omega⟩
  rw [hs, hwk, hmv, hpl]
  have hs5 := s1.trans (s2.trans (s3.trans (s4.trans s5)))
  clear s1 s2 s3 s4 s5
  (rw [ss_cons]; walk_at "wp")
  refine ⟨by decide, by decide, by decide, cmpr_inv (I := fun M' => DrS d c M M') (p := fun _ y => ∃ g, y = TD s g ∧ Ent s g) (fun _ _ => trivial) hs5 (fun x hx M2 hs R hR => ?_) fun ys M6 hys hs6 => ?_⟩
  · refine table_ok ht he hp hd (by omega) hs.1 fun g M3 hg s3 => hR _ _ ⟨g, rfl, hg⟩ (hs.trans s3)
  have hl := hys.len
  simp only [List.length_map, List.length_range] at hl
  obtain ⟨tb, er, htb⟩ := fn_of (G := TD s) (good := Ent s) (ds := ys) (hys.right fun x y _ h => h)
  have hyn : ys ≠ [] := fun z => by rw [z] at hl; exact absurd hl (by decide)
  have hyl : ys.length = 4 := by rw [hl]; rfl
  have hyt : ∀ y ∈ ys, ∃ g, y = TD s g ∧ Ent s g := hys.right fun x y _ h => h
  refine fun p hp0 => ?_
  have hpd := (hs6.1.none hp0).1
  have no : ∀ M', DrS d c M M' → M' p = none := fun M' s => by
    have := hs6.2 p hpd
    rw [s.2 p hpd, ← this]; exact hp0
  (rw [ss_cons]; walk_at "wp")
  refine ⟨by decide, fun p2 hp2 => ?_⟩
  (rw [ss_cons]; walk_at "wp")
  refine ⟨by omega, by omega, ?_⟩
  refine for_range mF (fun k e M' => DrS d c M M' ∧ k ≤ mv ∧ ∃ mvs : List Mv, mvs.length = k ∧ (∀ v ∈ mvs, MvOk s wk pl v) ∧ (∀ p, p < pl → ∀ v, mvs[p]? = some v → v.src = p) ∧ ∃ s8 s9, e = [.val (.ref d), .val (.int s), .val (.int wk), .val (.int pl), .val (.int mv), .val (.int st), .own p (.lst ys), .own p2 (.lst (mvs.map (MvD s))), s8, s9, .no, .no, .no])
    ⟨hs6, Nat.zero_le _, [], rfl, by simp, by simp, _, _, rfl⟩ (fun _ _ _ _ => trivial) (fun e M' hI => ?_) (fun k e M' hk hI => ?_)
  · obtain ⟨hs', _, mvs, hml, hmo, hmf, s8, s9, rfl⟩ := hI
    (try walk_at "wp")
    have names : ∀ (x : Str) (m : Nat) (R : QL), x.length ≤ 100 → m < 1000 → (R ((List.range m).map fun k => .str (nmS x k)) M') → ∀ ee : D → Mem → (Option D → Mem → Prop) → Prop, (∀ k : Nat, k < m → ∀ R : Option D → Mem → Prop, R (some (.str (nmS x k))) M' → ee (.int k) M' R) → wCmpr (fun _ => True) ee ((List.range m).map fun (k : Nat) => .int (k : Int)) M' R := fun x m R hx hm r ee hee =>
      cmpr_range (fun k => .int k) (fun k => .str (nmS x k)) trivial hee r
    (rw [ss_cons]; walk_at "wp")
    refine ⟨by omega, by omega, small_line (by omega), names "s" s _ (by decide) (by omega) ?_ _ fun k hk R hR => ?_⟩
    rotate_left
    · (try walk_at "wp")
      exact ⟨small_log (by omega), nm_line (by omega) (by decide), hR⟩
    (rw [ss_cons]; walk_at "wp")
    refine ⟨by omega, by omega, small_line (by omega), names "w" wk _ (by decide) (by omega) ?_ _ fun k hk R hR => ?_⟩
    rotate_left
    · (try walk_at "wp")
      exact ⟨small_log (by omega), nm_line (by omega) (by decide), hR⟩
    (rw [ss_cons]; walk_at "wp")
    refine ⟨by omega, by omega, small_line (by omega), names "p" pl _ (by decide) (by omega) ?_ _ fun k hk R hR => ?_⟩
    rotate_left
    · (try walk_at "wp")
      exact ⟨small_log (by omega), nm_line (by omega) (by decide), hR⟩
    (rw [ss_cons]; walk_at "wp")
    refine draw _ _ _ _ _ (by omega) (by omega) hs'.1 fun b' M2 b0 b1 s2 => ?_
    obtain ⟨st2, rfl⟩ := Int.eq_ofNat_of_zero_le b0
    (try walk_at "wp")
    refine ⟨by decide, leave ?_⟩
    have l : ∀ (x : Str) (m : Nat), ((List.range m).map (nmS x)).length = m := fun x m => by simp
    have := q ⟨(List.range s).map (nmS "s"), (List.range wk).map (nmS "w"), (List.range pl).map (nmS "p"), st2, mvs⟩ M2 ⟨by simp only [l]; omega, by simp only [l]; exact hmo, by simp only [l]; exact hmf⟩ (by simp only [l]; omega) (by simp only [l]; omega) (by simp only [l]; omega) (by simp only [l]; omega) (hs'.trans s2)
    simp only [WD, l, List.map_map, Function.comp_def] at this
    exact this
  · obtain ⟨hs', _, mvs, hml, hmo, hmf, s8, s9, rfl⟩ := hI
    (try walk_at "wp")
    (rw [ss_cons]; walk_at "wp")
    refine draw _ _ _ _ _ (by omega) (by omega) hs'.1 fun x' M2 x0 x1 s2 => ?_
    obtain ⟨x, rfl⟩ := Int.eq_ofNat_of_zero_le x0
    (try walk_at "wp")
    have rest : ∀ z : Nat, z < pl → (k < pl → z = k) → wSs (wFn P (n + 5)) [(.app 7 (.tup (.cons (.bin .add (.cst (.str "m")) (.blt .str (.cons (.var 8) .nil))) (.cons (.call fd (.cons (.var 0) (.cons (.var 2) .nil))) (.cons (.var 9) (.cons (.call fd (.cons (.var 0) (.cons (.var 3) .nil))) (.cons (.call fp (.cons (.var 0) (.lend 6 .nil))) .nil)))))))]
        [.val (.ref d), .val (.int s), .val (.int wk), .val (.int pl), .val (.int mv), .val (.int st), .own p (.lst ys), .own p2 (.lst (mvs.map (MvD s))), .val (.int k), .val (.int z), .no, .no, .no] M2
        { Kt0 Q E with nx := fun e M' => DrS d c M M' ∧ k + 1 ≤ mv ∧ ∃ mvs : List Mv, mvs.length = k + 1 ∧ (∀ v ∈ mvs, MvOk s wk pl v) ∧ (∀ p, p < pl → ∀ v, mvs[p]? = some v → v.src = p) ∧ ∃ s8 s9, e = [.val (.ref d), .val (.int s), .val (.int wk), .val (.int pl), .val (.int mv), .val (.int st), .own p (.lst ys), .own p2 (.lst (mvs.map (MvD s))), s8, s9, .no, .no, .no] } := fun z hz hzk => by
      (rw [ss_cons]; walk_at "wp")
      refine ⟨small_log (by omega), nm_line (by omega) (by decide), ?_⟩
      refine draw _ _ _ _ _ (by omega) (by omega) s2.1 fun u' M4 u0 u1 s4 => ?_
      obtain ⟨u, rfl⟩ := Int.eq_ofNat_of_zero_le u0
      (try walk_at "wp")
      refine draw _ _ _ _ _ (by omega) (by omega) s4.1 fun y' M5 y0 y1 s5 => ?_
      obtain ⟨y, rfl⟩ := Int.eq_ofNat_of_zero_le y0
      (try walk_at "wp")
      have hs5 := hs'.trans (s2.trans (s4.trans s5))
      refine pick_ok hp hd (hs5.1.upd (no _ hs5)) upd_at hpd hyn (by omega) fun t M6 hx s6 => ?_
      obtain ⟨g, rfl, hg⟩ := hyt t hx
      refine ⟨by rw [s6.2 p hpd]; exact upd_at, by decide, Nat.lt_of_lt_of_le (show mvs.length < 1000 by omega) (by decide), hs5.trans (s6.drp hs5.1 (no _ hs5)), by omega, mvs ++ [⟨nmS "m" k, u, z, y, g⟩], by simp [hml], fun v hv => ?_, fun p' hp' v hv => ?_, ?_⟩
      · rcases List.mem_append.mp hv with hv | hv
        · exact hmo v hv
        · rw [List.mem_singleton.mp hv]
          exact ⟨by show u < wk; omega, hz, by show y < pl; omega, hg⟩
      · by_cases e : p' < mvs.length
        · rw [List.getElem?_append_left e] at hv
          exact hmf p' hp' v hv
        · rw [List.getElem?_append_right (by omega)] at hv
          have e2 : p' - mvs.length = 0 := by
            by_cases e3 : p' - mvs.length = 0
            · exact e3
            · rw [List.getElem?_eq_none (by simp; omega)] at hv; cases hv
          rw [e2] at hv
          have hv : (⟨nmS "m" k, u, z, y, g⟩ : Mv) = v := by simpa using hv
          subst hv
          show z = p'
          have := hzk (by omega)
          omega
      · refine ⟨.val (.int k), .val (.int z), ?_⟩
        rw [List.map_append]; rfl
    (rw [ss_cons]; walk_at "wp")
    split
    · (rw [ss_cons]; walk_at "wp")
      exact rest k (by omega) fun _ => rfl
    · exact rest x (by omega) fun h => absurd h (by omega)
/-- a web of a law's ground -/
structure WbGr (w : Wb) : Prop where
  ok : WbOk w
  sizes : w.sizes.length ≤ 9
  workers : 1 ≤ w.workers.length ∧ w.workers.length ≤ 4
  places : 1 ≤ w.places.length ∧ w.places.length ≤ 64
  moves : w.moves.length ≤ 160
theorem ground_ok {fg fgw fsw fl fw fn fp fpl ft fe fd : Nat} (G : GrDefs P fg fgw fsw fl fw fn fp fpl ft fe fd) {d c : Nat} (h : Dst M d c) (q : ∀ w M', WbGr w → DrS d c M M' → Q (WD w) M') : wFn P (n + 7) fg [.ref d] M Q E := by
  have W := G.web
  have draw : ∀ (a : Nat) (M : Mem) (many : Int) (Q : QE) (E : QX), 0 < many → many < 1073741824 → Dst M d c → (∀ k M', 0 ≤ k → k < many → DrS d c M M' → Q (.int k) M') → wFn P (a + 1) fd [.ref d, .int many] M Q E := fun a M many Q E h1 h2 h3 h4 => draw_ok W.draw h1 (Int.lt_trans h2 (by decide)) h3 h4
  refine enter G.ground rfl ?_
  simp only [d__law_ground]
  (rw [ss_cons]; walk_at "wp")
  refine draw _ _ _ _ _ (by decide) (by decide) h fun k M1 k0 k1 s1 => ?_
  (try walk_at "wp")
  (rw [ss_cons]; walk_at "wp")
  split
  · (rw [ss_cons]; walk_at "wp")
    refine great_web_ok G.great W.table W.entry W.pick W.draw s1.1 fun w M2 w1 w2 w3 w4 w5 s2 => ?_
    exact leave (q w M2 ⟨w1, w2.2, w3, w4, w5.2⟩ (s1.trans s2))
  (rw [ss_cons]; walk_at "wp")
  split
  · (rw [ss_cons]; walk_at "wp")
    refine small_web_ok W G.small s1.1 fun w M2 w1 _ w2 w3 w4 w5 s2 => ?_
    exact leave (q w M2 ⟨w1, by omega, by omega, by omega, by omega⟩ (s1.trans s2))
  (rw [ss_cons]; walk_at "wp")
  refine draw _ _ _ _ _ (by decide) (by decide) s1.1 fun a M2 a0 a1 s2 => ?_
  (try walk_at "wp")
  (rw [ss_cons]; walk_at "wp")
  refine draw _ _ _ _ _ (by decide) (by decide) s2.1 fun b M3 b0 b1 s3 => ?_
  (try walk_at "wp")
  (rw [ss_cons]; walk_at "wp")
  refine draw _ _ _ _ _ (by decide) (by decide) s3.1 fun e M4 e0 e1 s4 => ?_
  (try walk_at "wp")
  (rw [ss_cons]; walk_at "wp")
  refine draw _ _ _ _ _ (by decide) (by decide) s4.1 fun g M5 g0 g1 s5 => ?_
  (try walk_at "wp")
  refine draw _ _ _ _ _ (by decide) (by decide) s5.1 fun st M6 st0 st1 s6 => ?_
  (try walk_at "wp")
  obtain ⟨s, hs⟩ : ∃ s : Nat, a = (s : Int) := ⟨a.toNat, by omega⟩
  obtain ⟨wk, hwk⟩ : ∃ s : Nat, 1 + b = (s : Int) := ⟨(1 + b).toNat, by omega⟩
  obtain ⟨pl, hpl⟩ : ∃ s : Nat, 1 + e = (s : Int) := ⟨(1 + e).toNat, by omega⟩
  obtain ⟨mv, hmv⟩ : ∃ s : Nat, 1 + e + g = (s : Int) := ⟨(1 + e + g).toNat, by omega⟩
  rw [hs, hwk, hmv, hpl]
  refine web_ok W.web W.names W.pool W.table W.entry W.pick W.draw (by omega) ⟨by omega, by omega⟩ ⟨by omega, by omega⟩ (by omega) s6.1 fun w M7 w1 w2 w3 s7 => ?_
  have e1 := w2.sizes
  have e2 := w2.workers
  have e3 := w2.places
  have e4 := w2.moves
  exact leave (q w M7 ⟨w1, by omega, by omega, by omega, by omega⟩ (s1.trans (s2.trans (s3.trans (s4.trans (s5.trans (s6.trans s7)))))))
theorem length_ok {fd : Nat} (hf : P[f]? = some (d__law_length fd)) (hd : P[fd]? = some d_draw) {w : Wb} {d c : Nat} (h : Dst M d c) (q : ∀ (k : Nat) M', k ≤ 100 → DrS d c M M' → Q (.int k) M') : wFn P (n + 2) f [.ref d, WD w] M Q E := by
  have draw : ∀ (a : Nat) (M : Mem) (many : Int) (Q : QE) (E : QX), 0 < many → many < 1073741824 → Dst M d c → (∀ k M', 0 ≤ k → k < many → DrS d c M M' → Q (.int k) M') → wFn P (a + 1) fd [.ref d, .int many] M Q E := fun a M many Q E h1 h2 h3 h4 => draw_ok hd h1 (Int.lt_trans h2 (by decide)) h3 h4
  refine enter hf rfl ?_
  simp only [d__law_length]
  rw [ss_cons]
  simp! only [idx_WD0]
  split
  · (rw [ss_cons]; walk_at "wp")
    refine draw _ _ _ _ _ (by decide) (by decide) h fun k M1 k0 k1 s1 => ?_
    obtain ⟨x, rfl⟩ := Int.eq_ofNat_of_zero_le k0
    exact leave (q x M1 (by omega) s1)
  (rw [ss_cons]; walk_at "wp")
  refine draw _ _ _ _ _ (by decide) (by decide) h fun k M1 k0 k1 s1 => ?_
  (try walk_at "wp")
  split
  · (rw [ss_cons]; walk_at "wp")
    exact leave (q 100 M1 (by decide) s1)
  (rw [ss_cons]; walk_at "wp")
  refine draw _ _ _ _ _ (by decide) (by decide) s1.1 fun k M2 k0 k1 s2 => ?_
  obtain ⟨x, rfl⟩ := Int.eq_ofNat_of_zero_le k0
  exact leave (q x M2 (by omega) (s1.trans s2))
end
end DL
/-! Runs: words, rows that keep tables. -/
namespace DL
local macro_rules | `(tactic| walk_at "wp") => `(tactic| simp only [wS, wE, wEs, wO, wAs, wL, wN, wI, wT, wTs, setAll, Tg.slots, wipeE, cmp_eq_int, cmp_ne_int, cmp_eq_str, cmp_ne_str, cmp_eq_tup, cmp_ne_tup, cmp_eq_bl, cmp_lt, cmp_le, cmp_gt, cmp_ge, Kt0_rt, Kt0_nx, List.getElem?_cons_zero, List.getElem?_cons_succ, List.set_cons_zero, List.set_cons_succ, Option.some.injEq, Slot.val.injEq, Slot.own.injEq, MO.lst.injEq, D.int.injEq, D.ref.injEq, D.bl.injEq, D.tup.injEq, D.str.injEq, exists_eq_left', exists_eq_left, exists_and_left, exists_and_right, and_assoc, true_and, and_true, atI_0, atI_1, atI_2, atI_3, atI_4, backs, drps, List.map_cons, List.map_nil, List.length_cons, List.length_nil, List.cons_append, List.nil_append, List.replicate, Nat.reduceAdd, Nat.reduceSub, decide_eq_true_eq, upd_at, aug_add_int, aug_sub_int, aug_mul_int, aug_add_str, ixN5_1, ixN5_2, ixN5_3, Int.toNat_natCast, List.length_map, List.length_range, tg_nm, tg_tp, tru_non, tru_bl, tru_int, tru_str, tru_tup, tru_ref, bin_add_int, bin_add_str, bin_add_tup, bin_sub, bin_mul, bin_fdiv, bin_mod, bin_pow, bin_shl, bin_shr, bin_band, bin_bor, idx_tup, idx_ref, idx_str, blt_len_tup, blt_len_str, blt_len_ref, blt_int_int, blt_int_bl, blt_bool_bl, blt_bool_int, blt_abs, blt_max2, blt_max3, blt_min2, blt_tuple_tup, blt_tuple_ref, blt_isa_non, blt_isa_bl, blt_isa_int, blt_isa_str, blt_isa_tup, isa_int_int, isa_int_bool, isa_bl_bool, isa_tup, isa_str, lk_tuple, lk_len, lk_all, lk_any, lk_sum, it_tup, it_rl, it_ref, zip_tup, enum_tup, enum_ref, eq_self_iff_true, if_true, Bool.false_eq_true, if_false, reduceIte, ss_nil, rev_tup, rev_ref, ty_split, ty_join, ty_append, ty_pop, ty_popAt, ty_reverse, ty_extend, ty_insert, mth_append, mth_pop, mth_popAt, mth_reverse, mth_extend, mth_insert, mth_split, mth_join, cmp_eq_ref, cmp_ne_ref, slc_tup, slc_str, slc_ref, lk_max, lk_min, cmp_lt_str, cmp_is_bl, cmp_not_bl, cmp_is_non, cmp_not_non, cmp_is_tup, cmp_not_tup, cmp_is_int, cmp_not_int, blt_str, blt_maxt, blt_mint, tg_np])
local macro_rules | `(tactic| simp! only [$xs:simpLemma,*]) => `(tactic| simp only [wS, wE, wEs, wO, wAs, wL, wN, wI, wT, wTs, setAll, Tg.slots, wipeE, cmp_eq_int, cmp_ne_int, cmp_eq_str, cmp_ne_str, cmp_eq_tup, cmp_ne_tup, cmp_eq_bl, cmp_lt, cmp_le, cmp_gt, cmp_ge, Kt0_rt, Kt0_nx, List.getElem?_cons_zero, List.getElem?_cons_succ, List.set_cons_zero, List.set_cons_succ, Option.some.injEq, Slot.val.injEq, Slot.own.injEq, MO.lst.injEq, D.int.injEq, D.ref.injEq, D.bl.injEq, D.tup.injEq, D.str.injEq, exists_eq_left', exists_eq_left, exists_and_left, exists_and_right, and_assoc, true_and, and_true, atI_0, atI_1, atI_2, atI_3, atI_4, backs, drps, List.map_cons, List.map_nil, List.length_cons, List.length_nil, List.cons_append, List.nil_append, List.replicate, Nat.reduceAdd, Nat.reduceSub, decide_eq_true_eq, upd_at, aug_add_int, aug_sub_int, aug_mul_int, aug_add_str, ixN5_1, ixN5_2, ixN5_3, Int.toNat_natCast, List.length_map, List.length_range, tg_nm, tg_tp, tru_non, tru_bl, tru_int, tru_str, tru_tup, tru_ref, bin_add_int, bin_add_str, bin_add_tup, bin_sub, bin_mul, bin_fdiv, bin_mod, bin_pow, bin_shl, bin_shr, bin_band, bin_bor, idx_tup, idx_ref, idx_str, blt_len_tup, blt_len_str, blt_len_ref, blt_int_int, blt_int_bl, blt_bool_bl, blt_bool_int, blt_abs, blt_max2, blt_max3, blt_min2, blt_tuple_tup, blt_tuple_ref, blt_isa_non, blt_isa_bl, blt_isa_int, blt_isa_str, blt_isa_tup, isa_int_int, isa_int_bool, isa_bl_bool, isa_tup, isa_str, lk_tuple, lk_len, lk_all, lk_any, lk_sum, it_tup, it_rl, it_ref, zip_tup, enum_tup, enum_ref, eq_self_iff_true, if_true, Bool.false_eq_true, if_false, reduceIte, ss_nil, rev_tup, rev_ref, ty_split, ty_join, ty_append, ty_pop, ty_popAt, ty_reverse, ty_extend, ty_insert, mth_append, mth_pop, mth_popAt, mth_reverse, mth_extend, mth_insert, mth_split, mth_join, cmp_eq_ref, cmp_ne_ref, slc_tup, slc_str, slc_ref, lk_max, lk_min, cmp_lt_str, cmp_is_bl, cmp_not_bl, cmp_is_non, cmp_not_non, cmp_is_tup, cmp_not_tup, cmp_is_int, cmp_not_int, blt_str, blt_maxt, blt_mint, tg_np, $xs,*])
open PySem
section
def d_is_whole : Fn := { name := "is_whole", arity := 1, slots := ["value"], body :=
  [(.ret (.and (.blt (.isa .int) (.cons (.var 0) .nil)) (.not (.blt (.isa .bool) (.cons (.var 0) .nil)))))] }
def d_is_number (f_is_whole : Nat) : Fn := { name := "is_number", arity := 2, slots := ["value", "many"], body :=
  [(.ret (.and (.call f_is_whole (.cons (.var 0) .nil)) (.chn .le .lt (.cst (.int 0)) (.var 0) (.var 1))))] }
def d_first_misfit (f_is_number : Nat) : Fn := { name := "first_misfit", arity := 3, slots := ["web", "place", "word", "here", "at", "move"], body :=
  [(.asg (.nm 3) (.var 1)),
    (.for_ (.tp [4, 5]) (.enum (.var 2)) [(.ite (.or (.not (.v (.call f_is_number (.cons (.var 5) (.cons (.blt .len (.cons (.idx (.var 0) (.cst (.int 4))) .nil)) .nil))))) (.v (.cmp .ne (.idx (.idx (.idx (.var 0) (.cst (.int 4))) (.var 5)) (.cst (.int 2))) (.var 3)))) [(.ret (.var 4))] []),
    (.asg (.nm 3) (.idx (.idx (.idx (.var 0) (.cst (.int 4))) (.var 5)) (.cst (.int 3))))]),
    (.ret (.neg (.cst (.int 1))))] }
def d_first_broken : Fn := { name := "first_broken", arity := 3, slots := ["table", "ahead", "behind", "x", "row", "y", "entry"], body :=
  [(.for_ (.tp [3, 4]) (.enum (.var 0)) [(.for_ (.tp [5, 6]) (.enum (.var 4)) [(.ite (.or (.and (.v (.cmp .eq (.var 6) (.cst (.int 2)))) (.v (.cmp .ge (.idx (.var 2) (.var 5)) (.idx (.var 1) (.var 3))))) (.and (.v (.cmp .eq (.var 6) (.cst (.int 1)))) (.v (.cmp .gt (.idx (.var 2) (.var 5)) (.idx (.var 1) (.var 3)))))) [(.ret (.tup (.cons (.var 3) (.cons (.var 5) .nil))))] [])])]),
    (.ret (.cst .non))] }
def d_keeps (f_first_broken : Nat) : Fn := { name := "keeps", arity := 3, slots := ["table", "ahead", "behind"], body :=
  [(.ret (.cmp .isN (.call f_first_broken (.cons (.var 0) (.cons (.var 1) (.cons (.var 2) .nil)))) (.cst .non)))] }
def d_run_fault (f_first_misfit : Nat) (f_keeps : Nat) : Fn := { name := "run_fault", arity := 4, slots := ["web", "place", "word", "rows", "misfit", "last", "k"], body :=
  [(.asg (.nm 4) (.call f_first_misfit (.cons (.var 0) (.cons (.var 1) (.cons (.var 2) .nil))))),
    (.asg (.nm 5) (.ifx (.v (.cmp .lt (.var 4) (.cst (.int 0)))) (.blt .len (.cons (.var 2) .nil)) (.var 4))),
    (.for_ (.nm 6) (.range (.var 5)) [(.ite (.not (.v (.call f_keeps (.cons (.idx (.idx (.idx (.var 0) (.cst (.int 4))) (.idx (.var 2) (.var 6))) (.cst (.int 4))) (.cons (.idx (.var 3) (.var 6)) (.cons (.idx (.var 3) (.bin .add (.var 6) (.cst (.int 1)))) .nil)))))) [(.ret (.var 6))] [])]),
    (.ret (.var 4))] }
def d__law_run_back (f__law_pick : Nat) (f__law_draw : Nat) : Fn := { name := "_law_run_back", arity := 4, slots := ["d", "web", "word", "last", "rows", "move", "behind", "spare", "row", "entries", "least", "y"], body :=
  [(.asgN 4 (.disp (.cons (.var 3) .nil))),
    (.for_ (.nm 5) (.rev (.var 2)) [(.asg (.nm 6) (.lidx (.own 4) (.neg (.cst (.int 1))))),
    (.asg (.nm 7) (.call f__law_pick (.cons (.var 0) (.tmp (.disp (.cons (.cst (.int 0)) (.cons (.cst (.int 0)) (.cons (.cst (.int 1)) .nil)))) .nil)))),
    (.asgN 8 (.disp .nil)),
    (.for_ (.nm 9) (.dyn (.idx (.idx (.idx (.var 1) (.cst (.int 4))) (.var 5)) (.cst (.int 4)))) [(.asg (.nm 10) (.cst (.int 0))),
    (.for_ (.nm 11) (.range (.blt .len (.cons (.var 9) .nil))) [(.ite (.v (.cmp .gt (.idx (.var 9) (.var 11)) (.cst (.int 0)))) [(.asg (.nm 10) (.blt .max (.cons (.var 10) (.cons (.bin .sub (.bin .add (.idx (.var 6) (.var 11)) (.idx (.var 9) (.var 11))) (.cst (.int 1))) .nil))))] [])]),
    (.app 8 (.bin .add (.var 10) (.bin .mul (.var 7) (.call f__law_draw (.cons (.var 0) (.cons (.cst (.int 4)) .nil))))))]),
    (.app 4 (.lk .tuple (.own 8)))]),
    (.ret (.tupRev (.own 4)))] }
def d__law_with : Fn := { name := "_law_with", arity := 3, slots := ["row", "at", "thing"], body :=
  [(.ret (.bin .add (.bin .add (.slc (.var 0) .no (.at (.var 1))) (.tup (.cons (.var 2) .nil))) (.slc (.var 0) (.at (.bin .add (.var 1) (.cst (.int 1)))) .no)))] }
def d__law_fault (f__law_keeps : Nat) : Fn := { name := "_law_fault", arity := 2, slots := ["web", "run", "here", "word", "rows", "k", "name", "worker", "source", "target", "table"], body :=
  [(.asg (.tp [2, 3, 4]) (.var 1)),
    (.for_ (.nm 5) (.range (.blt .len (.cons (.var 3) .nil))) [(.asg (.tp [6, 7, 8, 9, 10]) (.idx (.idx (.var 0) (.cst (.int 4))) (.idx (.var 3) (.var 5)))),
    (.ite (.or (.v (.cmp .ne (.var 8) (.var 2))) (.not (.v (.call f__law_keeps (.cons (.var 10) (.cons (.idx (.var 4) (.var 5)) (.cons (.idx (.var 4) (.bin .add (.var 5) (.cst (.int 1)))) .nil))))))) [(.ret (.var 5))] []),
    (.asg (.nm 2) (.var 9))]),
    (.ret (.neg (.cst (.int 1))))] }
def d__law_told (f_run_fault : Nat) (f__law_is_int : Nat) : Fn := { name := "_law_told", arity := 3, slots := ["web", "run", "due", "told"], body :=
  [(.asg (.nm 3) (.call f_run_fault (.cons (.var 0) (.cons (.idx (.var 1) (.cst (.int 0))) (.cons (.idx (.var 1) (.cst (.int 1))) (.cons (.idx (.var 1) (.cst (.int 2))) .nil)))))),
    (.ret (.and (.call f__law_is_int (.cons (.var 3) .nil)) (.cmp .eq (.var 3) (.var 2))))] }
def d__law_steps_told (f_keeps : Nat) (f__law_keeps : Nat) : Fn := { name := "_law_steps_told", arity := 2, slots := ["web", "run", "place", "word", "rows", "k", "table", "told"], body :=
  [(.asg (.tp [2, 3, 4]) (.var 1)),
    (.for_ (.nm 5) (.range (.blt .len (.cons (.var 3) .nil))) [(.asg (.nm 6) (.idx (.idx (.idx (.var 0) (.cst (.int 4))) (.idx (.var 3) (.var 5))) (.cst (.int 4)))),
    (.asg (.nm 7) (.call f_keeps (.cons (.var 6) (.cons (.idx (.var 4) (.var 5)) (.cons (.idx (.var 4) (.bin .add (.var 5) (.cst (.int 1)))) .nil))))),
    (.ite (.v (.call f__law_keeps (.cons (.var 6) (.cons (.idx (.var 4) (.var 5)) (.cons (.idx (.var 4) (.bin .add (.var 5) (.cst (.int 1)))) .nil))))) [(.ite (.v (.cmp .notN (.var 7) (.cst (.bl true)))) [(.ret (.cst (.bl false)))] [])] [(.ite (.v (.cmp .notN (.var 7) (.cst (.bl false)))) [(.ret (.cst (.bl false)))] [])])]),
    (.ret (.cst (.bl true)))] }
theorem cmpr_mapG {α : Type} {ok : Mem → Prop} {el : D → Mem → (Option D → Mem → Prop) → Prop} {M : Mem} (u v : α → D) : ∀ {xs : List α} {Q : QL}, ok M → (∀ x ∈ xs, ∀ R : Option D → Mem → Prop, R (some (v x)) M → el (u x) M R) → Q (xs.map v) M → wCmpr ok el (xs.map u) M Q
  | [], Q, ho, h, q => ⟨ho, q⟩
  | x :: xs, Q, ho, h, q => ⟨ho, h x List.mem_cons_self _ (cmpr_mapG u v ho (fun y hy => h y (List.mem_cons_of_mem _ hy)) q)⟩
theorem getD_left {α : Type} {xs ys : List α} {i : Nat} {d : α} (h : i < xs.length) : (xs ++ ys).getD i d = xs.getD i d := by
  rw [List.getD_eq_getElem?_getD, List.getD_eq_getElem?_getD, List.getElem?_append_left h]
theorem getD_snoc {α : Type} {xs : List α} {i : Nat} {x d : α} (h : i = xs.length) : (xs ++ [x]).getD i d = x := by
  subst h
  rw [List.getD_eq_getElem?_getD, List.getElem?_append_right (Nat.le_refl _)]; simp
theorem map_snoc {α : Type} {f : α → D} {xs : List α} {x : α} : xs.map f ++ [f x] = (xs ++ [x]).map f := by simp
theorem cut_to {xs : List D} {k : Nat} : cutD xs none (some (k : Int)) = xs.take k := by
  unfold cutD
  rw [HT.sIx_none, HT.sIx_nat, List.drop_zero, Nat.sub_zero]
  by_cases h : k ≤ xs.length
  · rw [Nat.min_eq_left h]
  · rw [Nat.min_eq_right (by omega), List.take_length, List.take_of_length_le (by omega)]
theorem cut_from {xs : List D} {k : Nat} : cutD xs (some (k : Int)) none = xs.drop k := by
  unfold cutD
  rw [HT.sIx_none, HT.sIx_nat]
  by_cases h : k ≤ xs.length
  · rw [Nat.min_eq_left h, List.take_of_length_le (by simp)]
  · rw [Nat.min_eq_right (by omega), List.drop_length, List.drop_of_length_le (by omega)]; simp
theorem set_cut {α : Type} {xs : List α} {k : Nat} {v : α} (h : k < xs.length) : xs.take k ++ [v] ++ xs.drop (k + 1) = xs.set k v := by
  rw [List.set_eq_take_append_cons_drop, if_pos h]; simp
def WoD (ks : List Nat) : D := .tup (ks.map fun (k : Nat) => .int (k : Int))
def RwD (s : Nat) (rows : List (Nat → Int)) : D := .tup (rows.map (RD s))
/-- two rows keep a table -/
def BadP (g : Nat → Nat → Int) (a b : Nat → Int) (x y : Nat) : Prop := (g x y = 1 ∧ a x < b y) ∨ (g x y = 2 ∧ a x ≤ b y)
instance {g a b x y} : Decidable (BadP g a b x y) := by unfold BadP; infer_instance
def KpT (s : Nat) (g : Nat → Nat → Int) (a b : Nat → Int) : Prop := ∀ x, x < s → ∀ y, y < s → ¬ BadP g a b x y
instance {s g a b} : Decidable (KpT s g a b) := by unfold KpT; infer_instance
theorem enum_TD {s : Nat} {g : Nat → Nat → Int} {M : Mem} {R : List D → (Env → Mem → Prop) → Prop} : wEnum (TD s g) M R = R ((List.range s).map fun (x : Nat) => .tup [.int (x : Int), RD s (g x)]) fun _ _ => True := by
  rw [TD, enum_tup]
  congr 1
  refine List.ext_getElem (by simp) fun i h1 h2 => ?_
  simp
theorem enum_RD {s : Nat} {r : Nat → Int} {M : Mem} {R : List D → (Env → Mem → Prop) → Prop} : wEnum (RD s r) M R = R ((List.range s).map fun (x : Nat) => .tup [.int (x : Int), .int (r x)]) fun _ _ => True := by
  rw [RD, enum_tup]
  congr 1
  refine List.ext_getElem (by simp) fun i h1 h2 => ?_
  simp
variable {P : List Fn} {n f : Nat} {M : Mem} {Q : QE} {E : QX}
theorem for_rangeT {F : FS} {K : Kt} {env : Env} {ok : Env → Mem → Prop} {t : Tg} {b : List IS} {n : Nat} {u : Nat → D} (hF : FMono F) (I : Nat → Env → Mem → Prop) (h0 : I 0 env M) (hok : ∀ i e m, I i e m → ok e m) (fin : ∀ e m, I n e m → K.nx e m)
    (step : ∀ (k : Nat) e m, k < n → I k e m → wTg t (u k) e fun e' => wSs F b e' m { K with nx := fun e m => I (k + 1) e m, ct := fun e m => I (k + 1) e m, bk := K.nx }) :
    wFor ok (fun x e m K' => wTg t x e fun e' => wSs F b e' m K') ((List.range n).map u) env M K := by
  refine for_idx hF I h0 hok (fun e m h => fin e m (by simpa using h)) fun k x e m hx h => ?_
  have hk : k < n := by
    have := (List.getElem?_eq_some_iff.mp hx).1
    simpa using this
  have : x = u k := by
    rw [List.getElem?_map, List.getElem?_range hk] at hx
    exact (Option.some.inj hx).symm
  subst this
  exact step k e m hk h
theorem it_Rw {s : Nat} {rows : List (Nat → Int)} {M : Mem} {R : List D → (Env → Mem → Prop) → Prop} : wIt (RwD s rows) M R = R (rows.map (RD s)) fun _ _ => True := by rw [RwD, it_tup]
theorem it_Wo {ks : List Nat} {M : Mem} {R : List D → (Env → Mem → Prop) → Prop} : wIt (WoD ks) M R = R (ks.map fun (k : Nat) => .int (k : Int)) fun _ _ => True := by rw [WoD, it_tup]
theorem law_keeps_ok (hf : P[f]? = some d__law_keeps) {s : Nat} (hs : s < 1000) {g : Nat → Nat → Int} {a b : Nat → Int} (q : Q (.bl (decide (KpT s g a b))) M) : wFn P (n + 1) f [TD s g, RD s a, RD s b] M Q E := by
  refine enter hf rfl ?_
  simp only [d__law_keeps]
  rw [ss_cons]
  simp! only [len_TD]
  refine ⟨by omega, by omega, ?_⟩
  have bad : ∀ x y, x < s → y < s → BadP g a b x y → Q (.bl false) M := fun x y hx hy hb => by
    rw [decide_eq_false (fun z => z x hx y hy hb)] at q; exact q
  refine for_range mF (fun k e M' => M' = M ∧ (∀ x, x < k → ∀ y, y < s → ¬ BadP g a b x y) ∧ ∃ s3 s4, e = [.val (TD s g), .val (RD s a), .val (RD s b), s3, s4]) ⟨rfl, (fun x hx => absurd hx (by omega)), _, _, rfl⟩ (fun _ _ _ _ => trivial) (fun e M' hI => ?_) (fun x e M' hx hI => ?_)
  · obtain ⟨rfl, hk, s3, s4, rfl⟩ := hI
    (try walk_at "wp")
    (rw [ss_cons]; walk_at "wp")
    rw [decide_eq_true (show KpT s g a b from hk)] at q
    exact leave q
  · obtain ⟨rfl, hk, s3, s4, rfl⟩ := hI
    (try walk_at "wp")
    rw [ss_cons]
    simp! only [len_TD]
    refine ⟨by omega, by omega, ?_⟩
    refine for_range mF (fun y e M2 => M2 = M' ∧ (∀ y', y' < y → ¬ BadP g a b x y') ∧ ∃ s4, e = [.val (TD s g), .val (RD s a), .val (RD s b), .val (.int x), s4]) ⟨rfl, (fun y hy => absurd hy (by omega)), _, rfl⟩ (fun _ _ _ _ => trivial) (fun e M2 hI => ?_) (fun y e M2 hy hI => ?_)
    · obtain ⟨rfl, hk2, s4, rfl⟩ := hI
      (try walk_at "wp")
      refine ⟨fun x' hx' y hy => ?_, _, _, rfl⟩
      by_cases e : x' = x
      · subst e; exact hk2 y hy
      · exact hk x' (by omega) y hy
    · obtain ⟨rfl, hk2, s4, rfl⟩ := hI
      (try walk_at "wp")
      have nx : ¬ BadP g a b x y → ∀ y', y' < y + 1 → ¬ BadP g a b x y' := fun h y' hy' => by
        by_cases e : y' = y
        · subst e; exact h
        · exact hk2 y' (by omega)
      rw [ss_cons]
      simp! only [idx_TD hx, idx_RD hy, idx_RD hx]
      split
      · rename_i h1
        split
        · rename_i h2
          (rw [ss_cons]; walk_at "wp")
          exact leave (bad x y hx hy (.inl ⟨h1, h2⟩))
        · rename_i h2
          rw [ss_cons]
          simp! only [idx_TD hx, idx_RD hy, idx_RD hx]
          split
          · rename_i h3
            omega
          · refine ⟨nx (fun z => ?_), _, rfl⟩
            rcases z with z | z
            · exact h2 z.2
            · omega
      · rename_i h1
        rw [ss_cons]
        simp! only [idx_TD hx, idx_RD hy, idx_RD hx]
        split
        · rename_i h3
          split
          · rename_i h2
            (rw [ss_cons]; walk_at "wp")
            exact leave (bad x y hx hy (.inr ⟨h3, h2⟩))
          · rename_i h2
            refine ⟨nx (fun z => ?_), _, rfl⟩
            rcases z with z | z
            · omega
            · exact h2 z.2
        · rename_i h3
          refine ⟨nx (fun z => ?_), _, rfl⟩
          rcases z with z | z
          · exact h1 z.1
          · exact h3 z.1
/-- the first pair that is not kept -/
def FstBad (s : Nat) (g : Nat → Nat → Int) (a b : Nat → Int) (x y : Nat) : Prop := x < s ∧ y < s ∧ BadP g a b x y ∧ (∀ y', y' < y → ¬ BadP g a b x y') ∧ ∀ x', x' < x → ∀ y', y' < s → ¬ BadP g a b x' y'
theorem first_broken_ok (hf : P[f]? = some d_first_broken) {s : Nat} {g : Nat → Nat → Int} {a b : Nat → Int} (q1 : KpT s g a b → Q .non M) (q2 : ∀ x y : Nat, FstBad s g a b x y → Q (.tup [.int x, .int y]) M) : wFn P (n + 1) f [TD s g, RD s a, RD s b] M Q E := by
  refine enter hf rfl ?_
  simp only [d_first_broken]
  rw [ss_cons]
  simp! only [enum_TD]
  refine for_rangeT mF (fun k e M' => M' = M ∧ (∀ x, x < k → ∀ y, y < s → ¬ BadP g a b x y) ∧ ∃ s3 s4 s5 s6, e = [.val (TD s g), .val (RD s a), .val (RD s b), s3, s4, s5, s6]) ⟨rfl, (fun x hx => absurd hx (by omega)), _, _, _, _, rfl⟩ (fun _ _ _ _ => trivial) (fun e M' hI => ?_) (fun x e M' hx hI => ?_)
  · obtain ⟨rfl, hk, s3, s4, s5, s6, rfl⟩ := hI
    (try walk_at "wp")
    (rw [ss_cons]; walk_at "wp")
    exact leave (q1 hk)
  · obtain ⟨rfl, hk, s3, s4, s5, s6, rfl⟩ := hI
    (try walk_at "wp")
    rw [ss_cons]
    simp! only [enum_RD]
    refine for_rangeT mF (fun y e M2 => M2 = M' ∧ (∀ y', y' < y → ¬ BadP g a b x y') ∧ ∃ s5 s6, e = [.val (TD s g), .val (RD s a), .val (RD s b), .val (.int x), .val (RD s (g x)), s5, s6]) ⟨rfl, (fun y hy => absurd hy (by omega)), _, _, rfl⟩ (fun _ _ _ _ => trivial) (fun e M2 hI => ?_) (fun y e M2 hy hI => ?_)
    · obtain ⟨rfl, hk2, s5, s6, rfl⟩ := hI
      (try walk_at "wp")
      refine ⟨fun x' hx' y hy => ?_, _, _, _, _, rfl⟩
      by_cases e : x' = x
      · subst e; exact hk2 y hy
      · exact hk x' (by omega) y hy
    · obtain ⟨rfl, hk2, s5, s6, rfl⟩ := hI
      (try walk_at "wp")
      have nx : ¬ BadP g a b x y → ∀ y', y' < y + 1 → ¬ BadP g a b x y' := fun h y' hy' => by
        by_cases e : y' = y
        · subst e; exact h
        · exact hk2 y' (by omega)
      rw [ss_cons]
      simp! only [idx_RD hy, idx_RD hx]
      have stop : BadP g a b x y → Q (.tup [.int x, .int y]) M2 := fun h => q2 x y ⟨hx, hy, h, hk2, hk⟩
      split
      · rename_i h1
        split
        · rename_i h2
          (rw [ss_cons]; walk_at "wp")
          exact ⟨by decide, leave (stop (.inr ⟨h1, h2⟩))⟩
        · rename_i h2
          split
          · rename_i h3
            omega
          · refine ⟨nx (fun z => ?_), _, _, rfl⟩
            rcases z with z | z
            · omega
            · exact h2 z.2
      · rename_i h1
        split
        · rename_i h3
          split
          · rename_i h2
            (rw [ss_cons]; walk_at "wp")
            exact ⟨by decide, leave (stop (.inl ⟨h3, h2⟩))⟩
          · rename_i h2
            refine ⟨nx (fun z => ?_), _, _, rfl⟩
            rcases z with z | z
            · exact h2 z.2
            · omega
        · rename_i h3
          refine ⟨nx (fun z => ?_), _, _, rfl⟩
          rcases z with z | z
          · exact h3 z.1
          · exact h1 z.1
theorem FstBad.not {s g a b x y} (h : FstBad s g a b x y) : ¬ KpT s g a b := fun z => z x h.1 y h.2.1 h.2.2.1
theorem keeps_ok {fb : Nat} (hf : P[f]? = some (d_keeps fb)) (hb : P[fb]? = some d_first_broken) {s : Nat} {g : Nat → Nat → Int} {a b : Nat → Int} (q : Q (.bl (decide (KpT s g a b))) M) : wFn P (n + 2) f [TD s g, RD s a, RD s b] M Q E := by
  refine enter hf rfl ?_
  simp only [d_keeps]
  (rw [ss_cons]; walk_at "wp")
  refine first_broken_ok hb (fun h => ?_) (fun x y h => ?_)
  · (try walk_at "wp")
    rw [decide_eq_true h] at q
    exact leave q
  · (try walk_at "wp")
    rw [decide_eq_false h.not] at q
    exact leave q
/-! words -/
def srcN (w : Wb) (j : Nat) : Nat := (w.moves[j]?.map (·.src)).getD 0
def tgtN (w : Wb) (j : Nat) : Nat := (w.moves[j]?.map (·.tgt)).getD 0
def tbN (w : Wb) (j : Nat) : Nat → Nat → Int := (w.moves[j]?.map (·.tb)).getD fun _ _ => 0
theorem srcN_eq {w : Wb} {j : Nat} (h : j < w.moves.length) : srcN w j = w.moves[j].src := by unfold srcN; rw [List.getElem?_eq_getElem h]; rfl
theorem tgtN_eq {w : Wb} {j : Nat} (h : j < w.moves.length) : tgtN w j = w.moves[j].tgt := by unfold tgtN; rw [List.getElem?_eq_getElem h]; rfl
theorem tbN_eq {w : Wb} {j : Nat} (h : j < w.moves.length) : tbN w j = w.moves[j].tb := by unfold tbN; rw [List.getElem?_eq_getElem h]; rfl
/-- where a word is behind some moves -/
def hereAt (w : Wb) (p : Nat) (ks : List Nat) : Nat → Nat
  | 0 => p
  | k + 1 => tgtN w (ks.getD k 0)
def IsFirst (n : Nat) (bad : Nat → Prop) (r : Int) : Prop := (r = -1 ∧ ∀ k, k < n → ¬ bad k) ∨ ∃ k : Nat, k < n ∧ r = (k : Int) ∧ bad k ∧ ∀ j, j < k → ¬ bad j
theorem IsFirst.uniq {n : Nat} {bad : Nat → Prop} {r r' : Int} (h : IsFirst n bad r) (h' : IsFirst n bad r') : r = r' := by
  rcases h with ⟨e, h⟩ | ⟨k, k1, e, k2, k3⟩
  · rcases h' with ⟨e', h'⟩ | ⟨k', k1', e', k2', k3'⟩
    · omega
    · exact absurd k2' (h k' k1')
  · rcases h' with ⟨e', h'⟩ | ⟨k', k1', e', k2', k3'⟩
    · exact absurd k2 (h' k k1)
    · by_cases e1 : k < k'
      · exact absurd k2 (k3' k e1)
      · by_cases e2 : k' < k
        · exact absurd k2' (k3 k' e2)
        · have : k = k' := by omega
          subst this; omega
theorem getD_at {α : Type} {xs : List α} {k : Nat} {d : α} (h : k < xs.length) : xs.getD k d = xs[k] := by rw [List.getD_eq_getElem?_getD, List.getElem?_eq_getElem h]; rfl
def Misfit (w : Wb) (p : Nat) (ks : List Nat) (k : Nat) : Prop := srcN w (ks.getD k 0) ≠ hereAt w p ks k
def Kept (w : Wb) (ks : List Nat) (rows : List (Nat → Int)) (k : Nat) : Prop := KpT w.sizes.length (tbN w (ks.getD k 0)) (rows.getD k fun _ => 0) (rows.getD (k + 1) fun _ => 0)
theorem enum_Wo {ks : List Nat} {M : Mem} {R : List D → (Env → Mem → Prop) → Prop} : wEnum (WoD ks) M R = R ((List.range ks.length).map fun (i : Nat) => .tup [.int (i : Int), .int ((ks.getD i 0 : Nat) : Int)]) fun _ _ => True := by
  rw [WoD, enum_tup]
  congr 1
  refine List.ext_getElem (by simp) fun i h1 h2 => ?_
  have h : i < ks.length := by simpa using h1
  simp [h]
theorem len_Wo {ks : List Nat} {R : D → Prop} : wBlt .len [WoD ks] M R = R (.int (ks.length : Int)) := by rw [WoD, wBlt]; simp
theorem len_Rw {s : Nat} {rows : List (Nat → Int)} {R : D → Prop} : wBlt .len [RwD s rows] M R = R (.int (rows.length : Int)) := by rw [RwD, wBlt]; simp
theorem idx_Wo {ks : List Nat} {k : Nat} {R : D → Prop} (h : k < ks.length) : wIdx (WoD ks) (.int (k : Int)) M R = R (.int ((ks.getD k 0 : Nat) : Int)) := by
  rw [WoD, idx_tup, get_map h, getD_at h]; simp
theorem idx_Rw {s : Nat} {rows : List (Nat → Int)} {k : Nat} {R : D → Prop} (h : k < rows.length) : wIdx (RwD s rows) (.int (k : Int)) M R = R (RD s (rows.getD k fun _ => 0)) := by
  rw [RwD, idx_tup, get_map h, getD_at h]; simp
theorem idx_Rw1 {s : Nat} {rows : List (Nat → Int)} {k : Nat} {R : D → Prop} (h : k + 1 < rows.length) : wIdx (RwD s rows) (.int ((k : Int) + 1)) M R = R (RD s (rows.getD (k + 1) fun _ => 0)) := by
  rw [RwD, idx_tup, get_map1 h, getD_at h]; simp
theorem idx_mv {w : Wb} {j : Nat} {R : D → Prop} (h : j < w.moves.length) : wIdx (.tup (w.moves.map (MvD w.sizes.length))) (.int (j : Int)) M R = R (MvD w.sizes.length w.moves[j]) := by
  rw [idx_tup, mv_get h]; simp
theorem is_whole_int (hf : P[f]? = some d_is_whole) {i : Int} (q : Q (.bl true) M) : wFn P (n + 1) f [.int i] M Q E := by
  refine enter hf rfl ?_
  simp only [d_is_whole]
  (rw [ss_cons]; walk_at "wp")
  exact leave q
theorem is_number_int {fw : Nat} (hf : P[f]? = some (d_is_number fw)) (hw : P[fw]? = some d_is_whole) {i m : Int} (q : Q (.bl (decide (0 ≤ i ∧ i < m))) M) : wFn P (n + 2) f [.int i, .int m] M Q E := by
  refine enter hf rfl ?_
  simp only [d_is_number]
  (rw [ss_cons]; walk_at "wp")
  refine is_whole_int hw ?_
  (try walk_at "wp")
  split
  · rename_i h
    rw [show decide (0 ≤ i ∧ i < m) = decide (i < m) from by simp [h]] at q
    exact leave q
  · rename_i h
    rw [decide_eq_false (by omega)] at q
    exact leave q
/-- all numbers of a word are those of moves -/
def WordOk (w : Wb) (ks : List Nat) : Prop := ∀ k ∈ ks, k < w.moves.length
theorem WordOk.at {w : Wb} {ks : List Nat} (h : WordOk w ks) {k : Nat} (hk : k < ks.length) : ks.getD k 0 < w.moves.length := by rw [getD_at hk]; exact h _ (List.getElem_mem hk)
theorem first_misfit_ok {fi fw : Nat} (hf : P[f]? = some (d_first_misfit fi)) (hi : P[fi]? = some (d_is_number fw)) (hw : P[fw]? = some d_is_whole) {w : Wb} {p : Nat} {ks : List Nat} (hk : WordOk w ks) (q : ∀ r, IsFirst ks.length (Misfit w p ks) r → Q (.int r) M) : wFn P (n + 3) f [WD w, .int p, WoD ks] M Q E := by
  refine enter hf rfl ?_
  simp only [d_first_misfit]
  (rw [ss_cons]; walk_at "wp")
  rw [ss_cons]
  simp! only [enum_Wo]
  refine for_rangeT mF (fun k e M' => M' = M ∧ (∀ j, j < k → ¬ Misfit w p ks j) ∧ ∃ s4 s5, e = [.val (WD w), .val (.int p), .val (WoD ks), .val (.int (hereAt w p ks k : Nat)), s4, s5]) ⟨rfl, (fun x hx => absurd hx (by omega)), _, _, rfl⟩ (fun _ _ _ _ => trivial) (fun e M' hI => ?_) (fun k e M' hk' hI => ?_)
  · obtain ⟨rfl, h, s4, s5, rfl⟩ := hI
    (try walk_at "wp")
    (rw [ss_cons]; walk_at "wp")
    exact leave (q _ (.inl ⟨rfl, h⟩))
  · obtain ⟨rfl, h, s4, s5, rfl⟩ := hI
    have hm := hk.at hk'
    (try walk_at "wp")
    rw [ss_cons]
    simp! only [idx_WD4]
    refine is_number_int hi hw ?_
    have hdec : decide ((0 : Int) ≤ ((ks.getD k 0 : Nat) : Int) ∧ ((ks.getD k 0 : Nat) : Int) < (w.moves.length : Int)) = true := decide_eq_true ⟨by omega, by omega⟩
    rw [hdec]
    simp! only [idx_WD4, mv_get hm, idx_MvD2, Bool.not_true, Bool.not_false, Bool.true_eq_false, Bool.not_eq_true', Bool.not_eq_false', decide_eq_false_iff_not]
    split
    · rename_i h2
      (rw [ss_cons]; walk_at "wp")
      refine leave (q _ (.inr ⟨k, hk', rfl, ?_, h⟩))
      unfold Misfit; rw [srcN_eq hm]; omega
    · rename_i h2
      rw [ss_cons]
      simp! only [idx_WD4, mv_get hm, idx_MvD3]
      rw [show hereAt w p ks (k + 1) = w.moves[ks.getD k 0].tgt from by rw [hereAt, tgtN_eq hm]]
      refine ⟨fun j hj => ?_, _, _, rfl⟩
      by_cases e : j = k
      · subst e
        unfold Misfit; rw [srcN_eq hm]; omega
      · exact h j (by omega)
theorem run_fault_ok {fm fi fw fk fb : Nat} (hf : P[f]? = some (d_run_fault fm fk)) (hm : P[fm]? = some (d_first_misfit fi)) (hi : P[fi]? = some (d_is_number fw)) (hw : P[fw]? = some d_is_whole) (hkp : P[fk]? = some (d_keeps fb)) (hb : P[fb]? = some d_first_broken)
    {w : Wb} {p : Nat} {ks : List Nat} (hk : WordOk w ks) {rows : List (Nat → Int)} (hr : rows.length = ks.length + 1) (hl : ks.length < 1000) (q : ∀ r, IsFirst ks.length (fun k => Misfit w p ks k ∨ ¬ Kept w ks rows k) r → Q (.int r) M) : wFn P (n + 4) f [WD w, .int p, WoD ks, RwD w.sizes.length rows] M Q E := by
  refine enter hf rfl ?_
  simp only [d_run_fault]
  (rw [ss_cons]; walk_at "wp")
  refine first_misfit_ok hm hi hw hk fun r hr1 => ?_
  (try walk_at "wp")
  rw [ss_cons]
  simp! only [len_Wo]
  obtain ⟨last, hlast, hle, hlt, hend⟩ : ∃ last : Nat, (if r < 0 then (ks.length : Int) else r) = (last : Int) ∧ last ≤ ks.length ∧ (∀ k, k < last → ¬ Misfit w p ks k) ∧ ((r = -1 ∧ last = ks.length) ∨ (r = last ∧ last < ks.length ∧ Misfit w p ks last)) := by
    rcases hr1 with ⟨e, h⟩ | ⟨k, k1, e, k2, k3⟩
    · exact ⟨ks.length, by rw [if_pos (by omega)], Nat.le_refl _, h, .inl ⟨e, rfl⟩⟩
    · exact ⟨k, by rw [if_neg (by omega)]; exact e, by omega, k3, .inr ⟨e, k1, k2⟩⟩
  have rest : wSs (wFn P (n + 3)) ((d_run_fault fm fk).body.drop 2) [.val (WD w), .val (.int p), .val (WoD ks), .val (RwD w.sizes.length rows), .val (.int r), .val (.int (last : Int)), .no] M (Kt0 Q E) := by
    simp only [d_run_fault, List.drop]
    (rw [ss_cons]; walk_at "wp")
    refine ⟨by omega, by omega, ?_⟩
    refine for_range mF (fun k e M' => M' = M ∧ (∀ j, j < k → Kept w ks rows j) ∧ ∃ s6, e = [.val (WD w), .val (.int p), .val (WoD ks), .val (RwD w.sizes.length rows), .val (.int r), .val (.int (last : Int)), s6]) ⟨rfl, (fun x hx => absurd hx (by omega)), _, rfl⟩ (fun _ _ _ _ => trivial) (fun e M' hI => ?_) (fun k e M' hk' hI => ?_)
    · obtain ⟨rfl, h, s6, rfl⟩ := hI
      (try walk_at "wp")
      (rw [ss_cons]; walk_at "wp")
      refine leave (q _ ?_)
      rcases hend with ⟨e, e2⟩ | ⟨e, e2, e3⟩
      · exact .inl ⟨e, fun k hk => fun z => z.elim (hlt k (by omega)) fun z => z (h k (by omega))⟩
      · exact .inr ⟨last, e2, e, .inl e3, fun j hj => fun z => z.elim (hlt j hj) fun z => z (h j hj)⟩
    · obtain ⟨rfl, h, s6, rfl⟩ := hI
      have hk2 : k < ks.length := by omega
      have hmv := hk.at hk2
      (try walk_at "wp")
      rw [ss_cons]
      simp! only [idx_WD4, idx_Wo hk2, mv_get hmv, idx_MvD4, idx_Rw (show k < rows.length by omega), idx_Rw1 (show k + 1 < rows.length by omega)]
      refine keeps_ok hkp hb ?_
      simp! only [Bool.not_true, Bool.not_false, Bool.true_eq_false, Bool.not_eq_true', Bool.not_eq_false', decide_eq_false_iff_not]
      have ek : Kept w ks rows k = KpT w.sizes.length w.moves[ks.getD k 0].tb (rows.getD k fun _ => 0) (rows.getD (k + 1) fun _ => 0) := by unfold Kept; rw [tbN_eq hmv]
      split
      · rename_i h2
        rw [← ek] at h2
        (rw [ss_cons]; walk_at "wp")
        exact leave (q _ (.inr ⟨k, hk2, rfl, .inr h2, fun j hj => fun z => z.elim (hlt j (by omega)) fun z => z (h j hj)⟩))
      · rename_i h2
        rw [← ek] at h2
        refine ⟨fun j hj => ?_, _, rfl⟩
        by_cases e : j = k
        · subst e; exact Classical.not_not.mp h2
        · exact h j (by omega)
  by_cases h0 : r < 0
  · rw [if_pos h0] at hlast ⊢
    rw [← hlast] at rest
    exact rest
  · rw [if_neg h0] at hlast ⊢
    rw [← hlast] at rest
    exact rest
theorem law_fault_ok {fk : Nat} (hf : P[f]? = some (d__law_fault fk)) (hkp : P[fk]? = some d__law_keeps) {w : Wb} (hsz : w.sizes.length < 1000) {p : Nat} {ks : List Nat} (hk : WordOk w ks) {rows : List (Nat → Int)} (hr : rows.length = ks.length + 1) (hl : ks.length < 1000)
    (q : ∀ r, IsFirst ks.length (fun k => Misfit w p ks k ∨ ¬ Kept w ks rows k) r → Q (.int r) M) : wFn P (n + 2) f [WD w, .tup [.int p, WoD ks, RwD w.sizes.length rows]] M Q E := by
  refine enter hf rfl ?_
  simp only [d__law_fault]
  (rw [ss_cons]; walk_at "wp")
  rw [ss_cons]
  simp! only [len_Wo]
  refine ⟨by omega, by omega, ?_⟩
  refine for_range mF (fun k e M' => M' = M ∧ (∀ j, j < k → ¬ (Misfit w p ks j ∨ ¬ Kept w ks rows j)) ∧ ∃ s5 s6 s7 s8 s9 s10, e = [.val (WD w), .val (.tup [.int p, WoD ks, RwD w.sizes.length rows]), .val (.int (hereAt w p ks k : Nat)), .val (WoD ks), .val (RwD w.sizes.length rows), s5, s6, s7, s8, s9, s10]) ⟨rfl, (fun x hx => absurd hx (by omega)), _, _, _, _, _, _, rfl⟩ (fun _ _ _ _ => trivial) (fun e M' hI => ?_) (fun k e M' hk' hI => ?_)
  · obtain ⟨rfl, h, s5, s6, s7, s8, s9, s10, rfl⟩ := hI
    (try walk_at "wp")
    (rw [ss_cons]; walk_at "wp")
    exact leave (q _ (.inl ⟨rfl, h⟩))
  · obtain ⟨rfl, h, s5, s6, s7, s8, s9, s10, rfl⟩ := hI
    have hmv := hk.at hk'
    have ek : Kept w ks rows k = KpT w.sizes.length w.moves[ks.getD k 0].tb (rows.getD k fun _ => 0) (rows.getD (k + 1) fun _ => 0) := by unfold Kept; rw [tbN_eq hmv]
    have em : Misfit w p ks k = (w.moves[ks.getD k 0].src ≠ hereAt w p ks k) := by unfold Misfit; rw [srcN_eq hmv]
    (try walk_at "wp")
    rw [ss_cons]
    simp! only [idx_WD4, idx_Wo hk', mv_get hmv]
    simp only [MvD, wS, wE, wEs, wO, wAs, wL, wN, wI, wT, wTs, setAll, Tg.slots, wipeE, cmp_eq_int, cmp_ne_int, cmp_eq_str, cmp_ne_str, cmp_eq_tup, cmp_ne_tup, cmp_eq_bl, cmp_lt, cmp_le, cmp_gt, cmp_ge, Kt0_rt, Kt0_nx, List.getElem?_cons_zero, List.getElem?_cons_succ, List.set_cons_zero, List.set_cons_succ, Option.some.injEq, Slot.val.injEq, Slot.own.injEq, MO.lst.injEq, D.int.injEq, D.ref.injEq, D.bl.injEq, D.tup.injEq, D.str.injEq, exists_eq_left', exists_eq_left, exists_and_left, exists_and_right, and_assoc, true_and, and_true, atI_0, atI_1, atI_2, atI_3, atI_4, backs, drps, List.map_cons, List.map_nil, List.length_cons, List.length_nil, List.cons_append, List.nil_append, List.replicate, Nat.reduceAdd, Nat.reduceSub, decide_eq_true_eq, upd_at, aug_add_int, aug_sub_int, aug_mul_int, aug_add_str, ixN5_1, ixN5_2, ixN5_3, Int.toNat_natCast, List.length_map, List.length_range, tg_nm, tg_tp, tru_non, tru_bl, tru_int, tru_str, tru_tup, tru_ref, bin_add_int, bin_add_str, bin_add_tup, bin_sub, bin_mul, bin_fdiv, bin_mod, bin_pow, bin_shl, bin_shr, bin_band, bin_bor, idx_tup, idx_ref, idx_str, blt_len_tup, blt_len_str, blt_len_ref, blt_int_int, blt_int_bl, blt_bool_bl, blt_bool_int, blt_abs, blt_max2, blt_max3, blt_min2, blt_tuple_tup, blt_tuple_ref, blt_isa_non, blt_isa_bl, blt_isa_int, blt_isa_str, blt_isa_tup, isa_int_int, isa_int_bool, isa_bl_bool, isa_tup, isa_str, lk_tuple, lk_len, lk_all, lk_any, lk_sum, it_tup, it_rl, it_ref, zip_tup, enum_tup, enum_ref, eq_self_iff_true, if_true, Bool.false_eq_true, if_false, reduceIte, ss_nil, rev_tup, rev_ref, ty_split, ty_join, ty_append, ty_pop, ty_popAt, ty_reverse, ty_extend, ty_insert, mth_append, mth_pop, mth_popAt, mth_reverse, mth_extend, mth_insert, mth_split, mth_join, cmp_eq_ref, cmp_ne_ref, slc_tup, slc_str, slc_ref, lk_max, lk_min, cmp_lt_str, cmp_is_bl, cmp_not_bl, cmp_is_non, cmp_not_non, cmp_is_tup, cmp_not_tup, cmp_is_int, cmp_not_int, blt_str, blt_maxt, blt_mint, tg_np]
    rw [ss_cons]
    simp! only [idx_Rw (show k < rows.length by omega), idx_Rw1 (show k + 1 < rows.length by omega), Bool.not_true, Bool.not_false, Bool.true_eq_false, Bool.not_eq_true', Bool.not_eq_false', decide_eq_false_iff_not]
    split
    · rename_i h2
      (rw [ss_cons]; walk_at "wp")
      exact leave (q _ (.inr ⟨k, hk', rfl, .inl (by rw [em]; omega), h⟩))
    · rename_i h2
      refine law_keeps_ok hkp hsz ?_
      simp! only [Bool.not_true, Bool.not_false, Bool.true_eq_false, Bool.not_eq_true', Bool.not_eq_false', decide_eq_false_iff_not]
      split
      · rename_i h3
        rw [← ek] at h3
        (rw [ss_cons]; walk_at "wp")
        exact leave (q _ (.inr ⟨k, hk', rfl, .inr h3, h⟩))
      · rename_i h3
        rw [← ek] at h3
        (rw [ss_cons]; walk_at "wp")
        rw [show hereAt w p ks (k + 1) = w.moves[ks.getD k 0].tgt from by rw [hereAt, tgtN_eq hmv]]
        refine ⟨fun j hj => ?_, _, _, _, _, _, _, rfl⟩
        by_cases e : j = k
        · subst e
          intro z
          rcases z with z | z
          · rw [em] at z; omega
          · exact z (Classical.not_not.mp h3)
        · exact h j (by omega)
theorem with_ok (hf : P[f]? = some d__law_with) {xs : List D} {k : Nat} {v : D} (hk : k < xs.length) (hl : xs.length < 1000) (q : Q (.tup (xs.set k v)) M) : wFn P (n + 1) f [.tup xs, .int (k : Int), v] M Q E := by
  refine enter hf rfl ?_
  simp only [d__law_with]
  (rw [ss_cons]; walk_at "wp")
  have e1 : ((k : Int) + 1) = ((k + 1 : Nat) : Int) := by omega
  rw [e1, cut_to, cut_from]
  refine ⟨by decide, ?_, ?_, leave ?_⟩
  · refine small_line ?_
    simp; omega
  · refine small_line ?_
    simp; omega
  · rw [set_cut hk]; exact q
theorem for_rangeU {F : FS} {K : Kt} {env : Env} {ok : Env → Mem → Prop} {j : Nat} {b : List IS} {n : Nat} {u : Nat → D} (hF : FMono F) (I : Nat → Env → Mem → Prop) (h0 : I 0 env M) (hok : ∀ i e m, I i e m → ok e m) (fin : ∀ e m, I n e m → K.nx e m)
    (step : ∀ (k : Nat) e m, k < n → I k e m → wSs F b (e.set j (.val (u k))) m { K with nx := fun e m => I (k + 1) e m, ct := fun e m => I (k + 1) e m, bk := K.nx }) :
    wFor ok (fun x e m K' => wSs F b (e.set j (.val x)) m K') ((List.range n).map u) env M K := for_rangeT (t := .nm j) hF I h0 hok fin step
theorem rev_Wo {ks : List Nat} {M : Mem} {R : List D → (Env → Mem → Prop) → Prop} : wRevIt (WoD ks) M R = R ((List.range ks.length).map fun (i : Nat) => .int ((ks.getD (ks.length - 1 - i) 0 : Nat) : Int)) fun _ _ => True := by
  rw [WoD, rev_tup]
  congr 1
  refine List.ext_getElem (by simp) fun i h1 h2 => ?_
  have h : i < ks.length := by simpa using h2
  have h' : ks.length - 1 - i < ks.length := by omega
  simp [h']
theorem list_RD {vals : List Int} {s : Nat} (h : vals.length = s) : D.tup (vals.map .int) = RD s (fun i => vals.getD i 0) := by
  unfold RD
  congr 1
  refine List.ext_getElem (by simp [h]) fun i h1 h2 => ?_
  have h' : i < vals.length := by simpa using h1
  simp [h']
/-- a row that is great enough ahead of another one -/
def Ahd (s : Nat) (g : Nat → Nat → Int) (b : Nat → Int) (x : Nat) (v : Int) : Prop := ∀ y, y < s → 0 < g x y → b y + g x y - 1 ≤ v
theorem Ahd.kp {s : Nat} {g : Nat → Nat → Int} {a b : Nat → Int} (h : ∀ x, x < s → Ahd s g b x (a x)) : KpT s g a b := fun x hx y hy z => by
  rcases z with ⟨z1, z2⟩ | ⟨z1, z2⟩
  · have := h x hx y hy (by omega); omega
  · have := h x hx y hy (by omega); omega
end
end DL
/-! Least rows, boxes of rows. -/
namespace DL
local macro_rules | `(tactic| walk_at "wp") => `(tactic| simp only [wS, wE, wEs, wO, wAs, wL, wN, wI, wT, wTs, setAll, Tg.slots, wipeE, cmp_eq_int, cmp_ne_int, cmp_eq_str, cmp_ne_str, cmp_eq_tup, cmp_ne_tup, cmp_eq_bl, cmp_lt, cmp_le, cmp_gt, cmp_ge, Kt0_rt, Kt0_nx, List.getElem?_cons_zero, List.getElem?_cons_succ, List.set_cons_zero, List.set_cons_succ, Option.some.injEq, Slot.val.injEq, Slot.own.injEq, MO.lst.injEq, D.int.injEq, D.ref.injEq, D.bl.injEq, D.tup.injEq, D.str.injEq, exists_eq_left', exists_eq_left, exists_and_left, exists_and_right, and_assoc, true_and, and_true, atI_0, atI_1, atI_2, atI_3, atI_4, backs, drps, List.map_cons, List.map_nil, List.length_cons, List.length_nil, List.cons_append, List.nil_append, List.replicate, Nat.reduceAdd, Nat.reduceSub, decide_eq_true_eq, upd_at, aug_add_int, aug_sub_int, aug_mul_int, aug_add_str, ixN5_1, ixN5_2, ixN5_3, Int.toNat_natCast, List.length_map, List.length_range, tg_nm, tg_tp, tru_non, tru_bl, tru_int, tru_str, tru_tup, tru_ref, bin_add_int, bin_add_str, bin_add_tup, bin_sub, bin_mul, bin_fdiv, bin_mod, bin_pow, bin_shl, bin_shr, bin_band, bin_bor, idx_tup, idx_ref, idx_str, blt_len_tup, blt_len_str, blt_len_ref, blt_int_int, blt_int_bl, blt_bool_bl, blt_bool_int, blt_abs, blt_max2, blt_max3, blt_min2, blt_tuple_tup, blt_tuple_ref, blt_isa_non, blt_isa_bl, blt_isa_int, blt_isa_str, blt_isa_tup, isa_int_int, isa_int_bool, isa_bl_bool, isa_tup, isa_str, lk_tuple, lk_len, lk_all, lk_any, lk_sum, it_tup, it_rl, it_ref, zip_tup, enum_tup, enum_ref, eq_self_iff_true, if_true, Bool.false_eq_true, if_false, reduceIte, ss_nil, rev_tup, rev_ref, ty_split, ty_join, ty_append, ty_pop, ty_popAt, ty_reverse, ty_extend, ty_insert, mth_append, mth_pop, mth_popAt, mth_reverse, mth_extend, mth_insert, mth_split, mth_join, cmp_eq_ref, cmp_ne_ref, slc_tup, slc_str, slc_ref, lk_max, lk_min, cmp_lt_str, cmp_is_bl, cmp_not_bl, cmp_is_non, cmp_not_non, cmp_is_tup, cmp_not_tup, cmp_is_int, cmp_not_int, blt_str, blt_maxt, blt_mint, tg_np])
local macro_rules | `(tactic| simp! only [$xs:simpLemma,*]) => `(tactic| simp only [wS, wE, wEs, wO, wAs, wL, wN, wI, wT, wTs, setAll, Tg.slots, wipeE, cmp_eq_int, cmp_ne_int, cmp_eq_str, cmp_ne_str, cmp_eq_tup, cmp_ne_tup, cmp_eq_bl, cmp_lt, cmp_le, cmp_gt, cmp_ge, Kt0_rt, Kt0_nx, List.getElem?_cons_zero, List.getElem?_cons_succ, List.set_cons_zero, List.set_cons_succ, Option.some.injEq, Slot.val.injEq, Slot.own.injEq, MO.lst.injEq, D.int.injEq, D.ref.injEq, D.bl.injEq, D.tup.injEq, D.str.injEq, exists_eq_left', exists_eq_left, exists_and_left, exists_and_right, and_assoc, true_and, and_true, atI_0, atI_1, atI_2, atI_3, atI_4, backs, drps, List.map_cons, List.map_nil, List.length_cons, List.length_nil, List.cons_append, List.nil_append, List.replicate, Nat.reduceAdd, Nat.reduceSub, decide_eq_true_eq, upd_at, aug_add_int, aug_sub_int, aug_mul_int, aug_add_str, ixN5_1, ixN5_2, ixN5_3, Int.toNat_natCast, List.length_map, List.length_range, tg_nm, tg_tp, tru_non, tru_bl, tru_int, tru_str, tru_tup, tru_ref, bin_add_int, bin_add_str, bin_add_tup, bin_sub, bin_mul, bin_fdiv, bin_mod, bin_pow, bin_shl, bin_shr, bin_band, bin_bor, idx_tup, idx_ref, idx_str, blt_len_tup, blt_len_str, blt_len_ref, blt_int_int, blt_int_bl, blt_bool_bl, blt_bool_int, blt_abs, blt_max2, blt_max3, blt_min2, blt_tuple_tup, blt_tuple_ref, blt_isa_non, blt_isa_bl, blt_isa_int, blt_isa_str, blt_isa_tup, isa_int_int, isa_int_bool, isa_bl_bool, isa_tup, isa_str, lk_tuple, lk_len, lk_all, lk_any, lk_sum, it_tup, it_rl, it_ref, zip_tup, enum_tup, enum_ref, eq_self_iff_true, if_true, Bool.false_eq_true, if_false, reduceIte, ss_nil, rev_tup, rev_ref, ty_split, ty_join, ty_append, ty_pop, ty_popAt, ty_reverse, ty_extend, ty_insert, mth_append, mth_pop, mth_popAt, mth_reverse, mth_extend, mth_insert, mth_split, mth_join, cmp_eq_ref, cmp_ne_ref, slc_tup, slc_str, slc_ref, lk_max, lk_min, cmp_lt_str, cmp_is_bl, cmp_not_bl, cmp_is_non, cmp_not_non, cmp_is_tup, cmp_not_tup, cmp_is_int, cmp_not_int, blt_str, blt_maxt, blt_mint, tg_np, $xs,*])
open PySem
section
def d_row_ahead : Fn := { name := "row_ahead", arity := 2, slots := ["table", "behind", "found", "row", "least", "y", "entry"], body :=
  [(.asgN 2 (.disp .nil)),
    (.for_ (.nm 3) (.dyn (.var 0)) [(.asg (.nm 4) (.cst (.int 0))),
    (.for_ (.tp [5, 6]) (.enum (.var 3)) [(.ite (.v (.cmp .gt (.var 6) (.cst (.int 0)))) [(.asg (.nm 4) (.blt .max (.cons (.var 4) (.cons (.bin .sub (.bin .add (.idx (.var 1) (.var 5)) (.var 6)) (.cst (.int 1))) .nil))))] [])]),
    (.app 2 (.var 4))]),
    (.ret (.lk .tuple (.own 2)))] }
def d_least_along (f_row_ahead : Nat) : Fn := { name := "least_along", arity := 2, slots := ["tables", "last", "found", "table"], body :=
  [(.asgN 2 (.disp (.cons (.blt .tuple (.cons (.var 1) .nil)) .nil))),
    (.for_ (.nm 3) (.rev (.var 0)) [(.app 2 (.call f_row_ahead (.cons (.var 3) (.cons (.lidx (.own 2) (.neg (.cst (.int 1)))) .nil))))]),
    (.ret (.tupRev (.own 2)))] }
def d_least_rows (f_least_along : Nat) : Fn := { name := "least_rows", arity := 3, slots := ["web", "word", "last", "move"], body :=
  [(.ret (.call f_least_along (.tmp (.comp (.idx (.idx (.idx (.var 0) (.cst (.int 4))) (.var 3)) (.cst (.int 4))) (.nm 3) (.dyn (.var 1)) none) (.cons (.var 2) .nil))))] }
def d__law_over : Fn := { name := "_law_over", arity := 2, slots := ["row", "other", "x"], body :=
  [(.ret (.lk .all (.new (.comp (.cmp .ge (.idx (.var 0) (.var 2)) (.idx (.var 1) (.var 2))) (.nm 2) (.range (.blt .len (.cons (.var 1) .nil))) none))))] }
def d__law_box : Fn := { name := "_law_box", arity := 2, slots := ["many", "top", "rows", "x", "longer", "row", "value"], body :=
  [(.asgM 2 (.disp (.cons (.tup .nil) .nil))),
    (.for_ (.nm 3) (.range (.var 0)) [(.asgM 4 (.disp .nil)),
    (.for_ (.nm 5) (.dyn (.var 2)) [(.for_ (.nm 6) (.range (.bin .add (.var 1) (.cst (.int 1)))) [(.mapp (.var 4) (.bin .add (.var 5) (.tup (.cons (.var 6) .nil))))])]),
    (.asg (.nm 2) (.var 4))]),
    (.ret (.var 2))] }
variable {P : List Fn} {n f : Nat} {M : Mem} {Q : QE} {E : QX}
theorem atI_neg1 {xs : List D} {x : D} (h : xs.getLast? = some x) : L2.atI xs (-1) = some x := by
  obtain ⟨ys, rfl⟩ := List.getLast?_eq_some_iff.mp h
  exact L2.atI_last _ _
theorem cmp_ne_refl {xs : List D} {R : Bool → Prop} (h : D.flat 60 (.tup xs) = true) : wCmp .ne (.tup xs) (.tup xs) M R = R false := by
  rw [cmp_ne_tup, show D.eqvs xs xs = true from D.eqv_refl (d := .tup xs) h]
  simp [h]
theorem cmp_eq_refl {xs : List D} {R : Bool → Prop} (h : D.flat 60 (.tup xs) = true) : wCmp .eq (.tup xs) (.tup xs) M R = R true := by
  rw [cmp_eq_tup, show D.eqvs xs xs = true from D.eqv_refl (d := .tup xs) h]
  simp [h]
theorem RwD_flat {s : Nat} {rows : List (Nat → Int)} : D.flat 60 (RwD s rows) = true := by
  rw [RwD, D.flat]
  refine flats_of fun d hd => ?_
  obtain ⟨r, _, rfl⟩ := List.mem_map.mp hd
  exact RD_flat (k := 58)
theorem ne_RwD {s : Nat} {rows : List (Nat → Int)} {R : Bool → Prop} : wCmp .ne (RwD s rows) (RwD s rows) M R = R false := cmp_ne_refl RwD_flat
theorem eq_RwD {s : Nat} {rows : List (Nat → Int)} {R : Bool → Prop} : wCmp .eq (RwD s rows) (RwD s rows) M R = R true := cmp_eq_refl RwD_flat
theorem ne_RD {s : Nat} {r : Nat → Int} {R : Bool → Prop} : wCmp .ne (RD s r) (RD s r) M R = R false := cmp_ne_refl (RD_flat (k := 59))
theorem is_RwD {s : Nat} {rows : List (Nat → Int)} {R : Bool → Prop} : wCmp .isN (RwD s rows) .non M R = R false := rfl
theorem idx_RwL {s : Nat} {rows : List (Nat → Int)} {r : Nat → Int} {R : D → Prop} (h : rows.getLast? = some r) : wIdx (RwD s rows) (.int (-1)) M R = R (RD s r) := by
  rw [RwD, idx_tup, atI_neg1 (x := RD s r) (by rw [List.getLast?_map, h]; rfl)]; simp
theorem own_last {s : Nat} {rows : List (Nat → Int)} {r : Nat → Int} (h : rows.getLast? = some r) : L2.atI (rows.map (RD s)) (-1) = some (RD s r) := atI_neg1 (by rw [List.getLast?_map, h]; rfl)
/-! the least row ahead -/
def lstN (gx b : Nat → Int) : Nat → Int
  | 0 => 0
  | y + 1 => if 0 < gx y then max (lstN gx b y) (b y + gx y - 1) else lstN gx b y
def rowA (s : Nat) (g : Nat → Nat → Int) (b : Nat → Int) : Nat → Int := fun x => lstN (g x) b s
theorem lstN_nonneg {gx b : Nat → Int} : ∀ {n : Nat}, 0 ≤ lstN gx b n
  | 0 => Int.le_refl _
  | n + 1 => by
    rw [lstN]; split
    · exact Int.le_trans lstN_nonneg (Int.le_max_left _ _)
    · exact lstN_nonneg
theorem lstN_ge {gx b : Nat → Int} : ∀ {n y : Nat}, y < n → 0 < gx y → b y + gx y - 1 ≤ lstN gx b n
  | n + 1, y, h, h0 => by
    rw [lstN]
    by_cases e : y = n
    · subst e; rw [if_pos h0]; exact Int.le_max_right _ _
    · have ih := lstN_ge (n := n) (y := y) (gx := gx) (b := b) (by omega) h0
      split
      · exact Int.le_trans ih (Int.le_max_left _ _)
      · exact ih
theorem lstN_le {gx b : Nat → Int} {v : Int} (h0 : 0 ≤ v) : ∀ {n : Nat}, (∀ y, y < n → 0 < gx y → b y + gx y - 1 ≤ v) → lstN gx b n ≤ v
  | 0, _ => h0
  | n + 1, h => by
    have ih := lstN_le h0 (n := n) (gx := gx) (b := b) fun y hy => h y (by omega)
    rw [lstN]; split
    · rename_i hg
      exact Int.max_le.mpr ⟨ih, h n (by omega) hg⟩
    · exact ih
theorem kp_ahd {s : Nat} {g : Nat → Nat → Int} {a b : Nat → Int} (e : Ent s g) (h : KpT s g a b) : ∀ x, x < s → Ahd s g b x (a x) := fun x hx y hy h0 => by
  have h1 := h x hx y hy
  have h2 := e x y hx hy
  by_cases e1 : g x y = 1
  · have : ¬ a x < b y := fun z => h1 (.inl ⟨e1, z⟩)
    omega
  · have e2 : g x y = 2 := by omega
    have : ¬ a x ≤ b y := fun z => h1 (.inr ⟨e2, z⟩)
    omega
theorem rowA_kp {s : Nat} {g : Nat → Nat → Int} {b : Nat → Int} : KpT s g (rowA s g b) b := Ahd.kp fun x hx y hy h0 => lstN_ge hy h0
theorem rowA_least {s : Nat} {g : Nat → Nat → Int} {a b b' : Nat → Int} (e : Ent s g) (h : KpT s g a b') (hb : ∀ y, y < s → b y ≤ b' y) (x : Nat) (hx : x < s) (h0 : 0 ≤ a x) : rowA s g b x ≤ a x :=
  lstN_le h0 fun y hy hg => by
    have := kp_ahd e h x hx y hy hg
    have := hb y hy
    omega
/-! the least rows along a word -/
def lrB (w : Wb) (ks : List Nat) (b : Nat → Int) : Nat → Nat → Int
  | 0 => b
  | i + 1 => rowA w.sizes.length (tbN w (ks.getD (ks.length - 1 - i) 0)) (lrB w ks b i)
def lrows (w : Wb) (ks : List Nat) (b : Nat → Int) : List (Nat → Int) := ((List.range (ks.length + 1)).map (lrB w ks b)).reverse
theorem lrows_len {w : Wb} {ks : List Nat} {b : Nat → Int} : (lrows w ks b).length = ks.length + 1 := by simp [lrows]
theorem lrows_get {w : Wb} {ks : List Nat} {b : Nat → Int} {k : Nat} {d : Nat → Int} (h : k ≤ ks.length) : (lrows w ks b).getD k d = lrB w ks b (ks.length - k) := by
  unfold lrows
  rw [getD_at (by simp; omega), List.getElem_reverse]
  simp
theorem lrows_last {w : Wb} {ks : List Nat} {b : Nat → Int} : (lrows w ks b).getLast? = some b := by
  unfold lrows
  rw [List.getLast?_reverse, List.range_succ_eq_map]
  simp [lrB]
theorem lrows_kept {w : Wb} {ks : List Nat} {b : Nat → Int} {k : Nat} (h : k < ks.length) : Kept w ks (lrows w ks b) k := by
  unfold Kept
  rw [lrows_get (by omega), lrows_get (by omega)]
  have e : ks.length - k = (ks.length - (k + 1)) + 1 := by omega
  rw [e, lrB, show ks.length - 1 - (ks.length - (k + 1)) = k from by omega]
  exact rowA_kp
theorem lrB_nonneg {w : Wb} {ks : List Nat} {b : Nat → Int} (hb : ∀ x, x < w.sizes.length → 0 ≤ b x) : ∀ i x, x < w.sizes.length → 0 ≤ lrB w ks b i x
  | 0, x, hx => hb x hx
  | i + 1, x, hx => lstN_nonneg
theorem last_range {α : Type} {f : Nat → α} {k : Nat} : ((List.range (k + 1)).map f).getLast? = some (f k) := by rw [List.range_succ, List.map_append]; simp
theorem row_ahead_ok (hf : P[f]? = some d_row_ahead) {s : Nat} (hs : s < 1000) {g : Nat → Nat → Int} {b : Nat → Int} (q : Q (RD s (rowA s g b)) M) : wFn P (n + 1) f [TD s g, RD s b] M Q E := by
  refine enter hf rfl ?_
  simp only [d_row_ahead]
  (rw [ss_cons]; walk_at "wp")
  refine ⟨by decide, fun p hp => ?_⟩
  rw [ss_cons]
  simp! only [it_TD]
  refine for_rangeU mF (fun x e M' => M' = M ∧ ∃ s3 s4 s5 s6, e = [.val (TD s g), .val (RD s b), .own p (.lst ((List.range x).map fun i => .int (rowA s g b i))), s3, s4, s5, s6]) ⟨rfl, _, _, _, _, rfl⟩ (fun _ _ _ _ => trivial) (fun e M' hI => ?_) (fun x e M' hx hI => ?_)
  · obtain ⟨rfl, s3, s4, s5, s6, rfl⟩ := hI
    (try walk_at "wp")
    (rw [ss_cons]; walk_at "wp")
    exact leave q
  · obtain ⟨rfl, s3, s4, s5, s6, rfl⟩ := hI
    (try walk_at "wp")
    (rw [ss_cons]; walk_at "wp")
    rw [ss_cons]
    simp! only [enum_RD]
    refine for_rangeT mF (fun y e M2 => M2 = M' ∧ ∃ s5 s6, e = [.val (TD s g), .val (RD s b), .own p (.lst ((List.range x).map fun i => .int (rowA s g b i))), .val (RD s (g x)), .val (.int (lstN (g x) b y)), s5, s6]) ⟨rfl, _, _, rfl⟩ (fun _ _ _ _ => trivial) (fun e M2 hI => ?_) (fun y e M2 hy hI => ?_)
    · obtain ⟨rfl, s5, s6, rfl⟩ := hI
      (try walk_at "wp")
      (rw [ss_cons]; walk_at "wp")
      rw [show D.int (lstN (g x) b s) = (fun i => D.int (rowA s g b i)) x from rfl, range_snoc]
      exact ⟨Nat.lt_of_lt_of_le (show x < 1000 by omega) (by decide), _, _, _, _, rfl⟩
    · obtain ⟨rfl, s5, s6, rfl⟩ := hI
      (try walk_at "wp")
      rw [ss_cons]
      walk_at "wp"
      split
      · rename_i h0
        rw [ss_cons]
        simp! only [idx_RD hy]
        rw [show lstN (g x) b (y + 1) = max (lstN (g x) b y) (b y + g x y - 1) from by rw [lstN, if_pos h0]]
        exact ⟨_, _, rfl⟩
      · rename_i h0
        rw [show lstN (g x) b (y + 1) = lstN (g x) b y from by rw [lstN, if_neg h0]]
        exact ⟨_, _, rfl⟩
theorem lists_rev {α : Type} {f : α → D} {xs : List α} : (xs.map f).reverse = xs.reverse.map f := by rw [List.map_reverse]
/-- along tables -/
def lrT (s : Nat) (tb : List (Nat → Nat → Int)) (b : Nat → Int) : Nat → Nat → Int
  | 0 => b
  | i + 1 => rowA s (tb.getD (tb.length - 1 - i) fun _ _ => 0) (lrT s tb b i)
theorem least_along_ok {fr : Nat} (hf : P[f]? = some (d_least_along fr)) (hr : P[fr]? = some d_row_ahead) {s : Nat} (hs : s < 1000) {tb : List (Nat → Nat → Int)} (hl : tb.length < 1000) {b : Nat → Int} {p : Nat} (hp : M p = some (.lst (tb.map (TD s)))) (q : Q (RwD s (((List.range (tb.length + 1)).map (lrT s tb b)).reverse)) M) :
    wFn P (n + 2) f [.ref p, RD s b] M Q E := by
  refine enter hf rfl ?_
  simp only [d_least_along]
  rw [ss_cons]
  simp only [RD, wS, wE, wEs, wO, wAs, wL, wN, wI, wT, wTs, setAll, Tg.slots, wipeE, cmp_eq_int, cmp_ne_int, cmp_eq_str, cmp_ne_str, cmp_eq_tup, cmp_ne_tup, cmp_eq_bl, cmp_lt, cmp_le, cmp_gt, cmp_ge, Kt0_rt, Kt0_nx, List.getElem?_cons_zero, List.getElem?_cons_succ, List.set_cons_zero, List.set_cons_succ, Option.some.injEq, Slot.val.injEq, Slot.own.injEq, MO.lst.injEq, D.int.injEq, D.ref.injEq, D.bl.injEq, D.tup.injEq, D.str.injEq, exists_eq_left', exists_eq_left, exists_and_left, exists_and_right, and_assoc, true_and, and_true, atI_0, atI_1, atI_2, atI_3, atI_4, backs, drps, List.map_cons, List.map_nil, List.length_cons, List.length_nil, List.cons_append, List.nil_append, List.replicate, Nat.reduceAdd, Nat.reduceSub, decide_eq_true_eq, upd_at, aug_add_int, aug_sub_int, aug_mul_int, aug_add_str, ixN5_1, ixN5_2, ixN5_3, Int.toNat_natCast, List.length_map, List.length_range, tg_nm, tg_tp, tru_non, tru_bl, tru_int, tru_str, tru_tup, tru_ref, bin_add_int, bin_add_str, bin_add_tup, bin_sub, bin_mul, bin_fdiv, bin_mod, bin_pow, bin_shl, bin_shr, bin_band, bin_bor, idx_tup, idx_ref, idx_str, blt_len_tup, blt_len_str, blt_len_ref, blt_int_int, blt_int_bl, blt_bool_bl, blt_bool_int, blt_abs, blt_max2, blt_max3, blt_min2, blt_tuple_tup, blt_tuple_ref, blt_isa_non, blt_isa_bl, blt_isa_int, blt_isa_str, blt_isa_tup, isa_int_int, isa_int_bool, isa_bl_bool, isa_tup, isa_str, lk_tuple, lk_len, lk_all, lk_any, lk_sum, it_tup, it_rl, it_ref, zip_tup, enum_tup, enum_ref, eq_self_iff_true, if_true, Bool.false_eq_true, if_false, reduceIte, ss_nil, rev_tup, rev_ref, ty_split, ty_join, ty_append, ty_pop, ty_popAt, ty_reverse, ty_extend, ty_insert, mth_append, mth_pop, mth_popAt, mth_reverse, mth_extend, mth_insert, mth_split, mth_join, cmp_eq_ref, cmp_ne_ref, slc_tup, slc_str, slc_ref, lk_max, lk_min, cmp_lt_str, cmp_is_bl, cmp_not_bl, cmp_is_non, cmp_not_non, cmp_is_tup, cmp_not_tup, cmp_is_int, cmp_not_int, blt_str, blt_maxt, blt_mint, tg_np]
  refine ⟨by decide, fun p2 hp2 => ?_⟩
  rw [ss_cons]
  simp! only [hp]
  change wFor _ _ _ [_, .val (RD s b), .own p2 (.lst [RD s b]), _] _ _
  rw [show (tb.map (TD s)).reverse = (List.range tb.length).map fun i => TD s (tb.getD (tb.length - 1 - i) fun _ _ => 0) from by
    refine List.ext_getElem (by simp) fun i h1 h2 => ?_
    have h : i < tb.length := by simpa using h2
    have h' : tb.length - 1 - i < tb.length := by omega
    simp [h']]
  refine for_rangeU mF (fun k e M' => M' = M ∧ ∃ s3, e = [.val (.ref p), .val (RD s b), .own p2 (.lst (((List.range (k + 1)).map (lrT s tb b)).map (RD s))), s3]) ⟨rfl, _, rfl⟩ (fun e M' _ _ => ?_) (fun e M' hI => ?_) (fun k e M' hk hI => ?_)
  · rename_i h; exact h.1 ▸ hp
  · obtain ⟨rfl, s3, rfl⟩ := hI
    (try walk_at "wp")
    (rw [ss_cons]; walk_at "wp")
    rw [lists_rev]
    exact leave q
  · obtain ⟨rfl, s3, rfl⟩ := hI
    have hlast : L2.atI (((List.range (k + 1)).map (lrT s tb b)).map (RD s)) (-1) = some (RD s (lrT s tb b k)) := own_last last_range
    (try walk_at "wp")
    rw [ss_cons]
    simp! only [hlast]
    refine row_ahead_ok hr hs ?_
    (try walk_at "wp")
    rw [map_snoc, show (List.range (k + 1)).map (lrT s tb b) ++ [rowA s (tb.getD (tb.length - 1 - k) fun _ _ => 0) (lrT s tb b k)] = (List.range (k + 1 + 1)).map (lrT s tb b) from by
      rw [List.range_succ (n := k + 1), List.map_append]; rfl]
    exact ⟨Nat.lt_of_lt_of_le (show k + 1 < 2000 by omega) (by decide), _, rfl⟩
theorem lrT_word {w : Wb} {ks : List Nat} {b : Nat → Int} : ∀ i, i ≤ ks.length → lrT w.sizes.length (ks.map (tbN w)) b i = lrB w ks b i
  | 0, _ => rfl
  | i + 1, h => by
    rw [lrT, lrB, lrT_word i (by omega)]
    congr 1
    rw [List.length_map, getD_at (by simp; omega), getD_at (by omega), List.getElem_map]
theorem least_rows_ok {fl fr : Nat} (hf : P[f]? = some (d_least_rows fl)) (hl : P[fl]? = some (d_least_along fr)) (hr : P[fr]? = some d_row_ahead) {w : Wb} (hs : w.sizes.length < 1000) {ks : List Nat} (hk : WordOk w ks) (hkl : ks.length < 1000) {b : Nat → Int} (q : Q (RwD w.sizes.length (lrows w ks b)) M) :
    wFn P (n + 3) f [WD w, WoD ks, RD w.sizes.length b] M Q E := by
  refine enter hf rfl ?_
  simp only [d_least_rows]
  rw [ss_cons]
  simp! only [it_Wo]
  refine ⟨small_line (by omega), cmpr_mapG (fun (k : Nat) => .int (k : Int)) (fun k => TD w.sizes.length (tbN w k)) trivial (fun k hkm R hR => ?_) fun p hp => ?_⟩
  · have := hk k hkm
    simp! only [idx_WD4, mv_get this, idx_MvD4]
    rw [← tbN_eq this]; exact hR
  · rw [show ks.map (fun k => TD w.sizes.length (tbN w k)) = (ks.map (tbN w)).map (TD w.sizes.length) from by rw [List.map_map]; rfl]
    refine least_along_ok hl hr hs (by simpa using hkl) upd_at ?_
    (try walk_at "wp")
    rw [drp_upd hp]
    have e : (List.range (ks.length + 1)).map (lrT w.sizes.length (ks.map (tbN w)) b) = (List.range (ks.length + 1)).map (lrB w ks b) := by
      exact List.map_congr_left fun i hi => lrT_word i (by have := List.mem_range.mp hi; omega)
    rw [e]
    exact leave q
theorem is_rows_ok {fi fn : Nat} (hf : P[f]? = some (d__law_is_rows fi)) (hi : P[fi]? = some (d__law_is_ints fn)) (hn : P[fn]? = some d__law_is_int) {s : Nat} (hs : s < 1000) {rows : List (Nat → Int)} (hl : rows.length < 1000) (q : Q (.bl true) M) : wFn P (n + 3) f [RwD s rows, .int s] M Q E := by
  refine enter hf rfl ?_
  simp only [d__law_is_rows]
  rw [ss_cons]
  simp only [RwD, wS, wE, wEs, wO, wAs, wL, wN, wI, wT, wTs, setAll, Tg.slots, wipeE, cmp_eq_int, cmp_ne_int, cmp_eq_str, cmp_ne_str, cmp_eq_tup, cmp_ne_tup, cmp_eq_bl, cmp_lt, cmp_le, cmp_gt, cmp_ge, Kt0_rt, Kt0_nx, List.getElem?_cons_zero, List.getElem?_cons_succ, List.set_cons_zero, List.set_cons_succ, Option.some.injEq, Slot.val.injEq, Slot.own.injEq, MO.lst.injEq, D.int.injEq, D.ref.injEq, D.bl.injEq, D.tup.injEq, D.str.injEq, exists_eq_left', exists_eq_left, exists_and_left, exists_and_right, and_assoc, true_and, and_true, atI_0, atI_1, atI_2, atI_3, atI_4, backs, drps, List.map_cons, List.map_nil, List.length_cons, List.length_nil, List.cons_append, List.nil_append, List.replicate, Nat.reduceAdd, Nat.reduceSub, decide_eq_true_eq, upd_at, aug_add_int, aug_sub_int, aug_mul_int, aug_add_str, ixN5_1, ixN5_2, ixN5_3, Int.toNat_natCast, List.length_map, List.length_range, tg_nm, tg_tp, tru_non, tru_bl, tru_int, tru_str, tru_tup, tru_ref, bin_add_int, bin_add_str, bin_add_tup, bin_sub, bin_mul, bin_fdiv, bin_mod, bin_pow, bin_shl, bin_shr, bin_band, bin_bor, idx_tup, idx_ref, idx_str, blt_len_tup, blt_len_str, blt_len_ref, blt_int_int, blt_int_bl, blt_bool_bl, blt_bool_int, blt_abs, blt_max2, blt_max3, blt_min2, blt_tuple_tup, blt_tuple_ref, blt_isa_non, blt_isa_bl, blt_isa_int, blt_isa_str, blt_isa_tup, isa_int_int, isa_int_bool, isa_bl_bool, isa_tup, isa_str, lk_tuple, lk_len, lk_all, lk_any, lk_sum, it_tup, it_rl, it_ref, zip_tup, enum_tup, enum_ref, eq_self_iff_true, if_true, Bool.false_eq_true, if_false, reduceIte, ss_nil, rev_tup, rev_ref, ty_split, ty_join, ty_append, ty_pop, ty_popAt, ty_reverse, ty_extend, ty_insert, mth_append, mth_pop, mth_popAt, mth_reverse, mth_extend, mth_insert, mth_split, mth_join, cmp_eq_ref, cmp_ne_ref, slc_tup, slc_str, slc_ref, lk_max, lk_min, cmp_lt_str, cmp_is_bl, cmp_not_bl, cmp_is_non, cmp_not_non, cmp_is_tup, cmp_not_tup, cmp_is_int, cmp_not_int, blt_str, blt_maxt, blt_mint, tg_np, Bool.not_true, Bool.not_false, Bool.true_eq_false, Bool.not_eq_true', Bool.not_eq_false', decide_eq_false_iff_not]
  refine ⟨small_line (by omega), cmpr_mapG (RD s) (fun _ => .bl true) trivial (fun r hr R hR => is_ints_ok hi hn hs hR) ?_⟩
  rw [allBl_true (fun x hx => by obtain ⟨i, _, rfl⟩ := List.mem_map.mp hx; rfl)]
  simp! only [Bool.not_true, Bool.not_false, Bool.true_eq_false, Bool.not_eq_true', Bool.not_eq_false', decide_eq_false_iff_not]
  rw [ss_cons]
  walk_at "wp"
  refine ⟨small_line (by omega), cmpr_mapG (RD s) (fun _ => .bl true) trivial (fun r hr R hR => ?_) ?_⟩
  · simp! only [len_RD, decide_true]
    exact hR
  · rw [allBl_true (fun x hx => by obtain ⟨i, _, rfl⟩ := List.mem_map.mp hx; rfl)]
    walk_at "wp"
    exact leave q
theorem allBl_map {α : Type} {c : α → Bool} : ∀ {xs : List α}, allBl (xs.map fun x => .bl (c x)) = some (xs.all c)
  | [] => rfl
  | x :: xs => by rw [List.map_cons, allBl, allBl_map (xs := xs)]; rfl
/-- nowhere less -/
def Ovr (s : Nat) (a b : Nat → Int) : Prop := ∀ x, x < s → b x ≤ a x
instance {s a b} : Decidable (Ovr s a b) := by unfold Ovr; infer_instance
theorem over_ok (hf : P[f]? = some d__law_over) {s : Nat} (hs : s < 1000) {a b : Nat → Int} (q : Q (.bl (decide (Ovr s a b))) M) : wFn P (n + 1) f [RD s a, RD s b] M Q E := by
  refine enter hf rfl ?_
  simp only [d__law_over]
  rw [ss_cons]
  simp! only [len_RD]
  refine ⟨by omega, by omega, small_line hs, cmpr_range (fun x => .int x) (fun x => .bl (decide (b x ≤ a x))) trivial (fun x hx R hR => ?_) ?_⟩
  · simp! only [idx_RD hx]
    exact hR
  · rw [allBl_map (c := fun x => decide (b x ≤ a x))]
    walk_at "wp"
    rw [show (List.range s).all (fun x => decide (b x ≤ a x)) = decide (Ovr s a b) from by
      rw [Bool.eq_iff_iff, List.all_eq_true, decide_eq_true_iff]; simp only [List.mem_range, decide_eq_true_eq, Ovr]]
    exact leave q
theorem Sub.upd' {M M' : Mem} {p : Nat} {o : MO} (h : Sub M M') (hp : M' p = Option.none) : Sub M (upd M' p o) := fun a u e => by
  have e1 := h a u e
  rw [upd_no (ne_of_mem e1 hp)]; exact e1
theorem Sub.upd2 {M M' : Mem} {p : Nat} {o : MO} (h : Sub M M') (hp : M p = Option.none) : Sub M (upd M' p o) := fun a u e => by
  rw [upd_no (ne_of_mem e hp)]; exact h a u e
theorem cmpr_filtG {α : Type} {ok : Mem → Prop} {el : D → Mem → (Option D → Mem → Prop) → Prop} {M : Mem} (c : α → Bool) (u v : α → D) : ∀ {xs : List α} {Q : QL}, ok M → (∀ x ∈ xs, ∀ R : Option D → Mem → Prop, R (if c x then some (v x) else none) M → el (u x) M R) → Q ((xs.filter c).map v) M → wCmpr ok el (xs.map u) M Q
  | [], Q, ho, h, q => ⟨ho, q⟩
  | x :: xs, Q, ho, h, q => by
    refine ⟨ho, h x List.mem_cons_self _ ?_⟩
    rw [List.filter_cons] at q
    by_cases e : c x = true
    · rw [if_pos e] at q ⊢
      exact cmpr_filtG c u v ho (fun y hy => h y (List.mem_cons_of_mem _ hy)) q
    · rw [if_neg e] at q ⊢
      exact cmpr_filtG c u v ho (fun y hy => h y (List.mem_cons_of_mem _ hy)) q
/-! boxes of rows -/
def boxL (top : Nat) : Nat → List (List Int)
  | 0 => [[]]
  | x + 1 => (boxL top x).flatMap fun r => (List.range (top + 1)).map fun (v : Nat) => r ++ [(v : Int)]
theorem boxL_len {top : Nat} : ∀ {x : Nat}, ∀ r ∈ boxL top x, r.length = x
  | 0, r, h => by simp [boxL] at h; rw [h]; rfl
  | x + 1, r, h => by
    simp only [boxL, List.mem_flatMap, List.mem_map, List.mem_range] at h
    obtain ⟨r', h1, v, _, rfl⟩ := h
    simp [boxL_len r' h1]
theorem boxL_in {top : Nat} : ∀ {x : Nat} {r : List Int}, r ∈ boxL top x ↔ r.length = x ∧ ∀ v ∈ r, 0 ≤ v ∧ v ≤ (top : Int)
  | 0, r => by
    simp only [boxL, List.mem_singleton]
    constructor
    · rintro rfl; simp
    · rintro ⟨h, _⟩; exact List.length_eq_zero_iff.mp h
  | x + 1, r => by
    simp only [boxL, List.mem_flatMap, List.mem_map, List.mem_range]
    constructor
    · rintro ⟨r', h1, v, hv, rfl⟩
      obtain ⟨h2, h3⟩ := boxL_in.mp h1
      refine ⟨by simp [h2], fun u hu => ?_⟩
      rcases List.mem_append.mp hu with z | z
      · exact h3 u z
      · rw [List.mem_singleton.mp z]; omega
    · rintro ⟨h1, h2⟩
      obtain ⟨r', v, rfl⟩ : ∃ r' v, r = r' ++ [v] := by
        rcases List.eq_nil_or_concat r with z | ⟨r', v, z⟩
        · rw [z] at h1; simp at h1
        · exact ⟨r', v, by simpa using z⟩
      have hv := h2 v (by simp)
      refine ⟨r', boxL_in.mpr ⟨by simpa using h1, fun u hu => h2 u (by simp [hu])⟩, v.toNat, by omega, ?_⟩
      rw [show ((v.toNat : Nat) : Int) = v from by omega]
def TlD (r : List Int) : D := .tup (r.map .int)
theorem boxL_size {top : Nat} : ∀ {x : Nat}, (boxL top x).length = (top + 1) ^ x
  | 0 => rfl
  | x + 1 => by
    rw [boxL, List.length_flatMap]
    simp only [List.length_map, List.length_range]
    rw [List.map_const', List.sum_replicate_nat, boxL_size, Nat.pow_succ]
theorem flatMap_take {α β : Type} {f : α → List β} {xs : List α} {k : Nat} (h : k < xs.length) : (xs.take (k + 1)).flatMap f = (xs.take k).flatMap f ++ f xs[k] := by
  rw [List.take_add_one, List.getElem?_eq_getElem h]; simp only [Option.toList_some, List.flatMap_append, List.flatMap_cons, List.flatMap_nil, List.append_nil]
theorem box_ok (hf : P[f]? = some d__law_box) {s top : Nat} (hs : s ≤ 2) (ht : s = 0 ∨ top ≤ 100) (q : ∀ p M', Sub M M' → M p = none → M' p = some (.lst ((boxL top s).map TlD)) → Q (.ref p) M') : wFn P (n + 1) f [.int s, .int top] M Q E := by
  refine enter hf rfl ?_
  simp only [d__law_box]
  (rw [ss_cons]; walk_at "wp")
  refine ⟨by decide, by decide, fun p hp => ?_⟩
  (rw [ss_cons]; walk_at "wp")
  refine ⟨by omega, by omega, ?_⟩
  refine for_range mF (fun x e M' => Sub M M' ∧ ∃ p2, M p2 = none ∧ M' p2 = some (.lst ((boxL top x).map TlD)) ∧ ∃ s3 s4 s5 s6, e = [.val (.int s), .val (.int top), .val (.ref p2), s3, s4, s5, s6]) ⟨(Sub.rf M).upd' hp, p, hp, upd_at, _, _, _, _, rfl⟩ (fun _ _ _ _ => trivial) (fun e M' hI => ?_) (fun x e M' hx hI => ?_)
  · obtain ⟨sb, p2, hp2, hm, s3, s4, s5, s6, rfl⟩ := hI
    (try walk_at "wp")
    (rw [ss_cons]; walk_at "wp")
    exact leave (q p2 M' sb hp2 hm)
  · obtain ⟨sb, p2, hp2, hm, s3, s4, s5, s6, rfl⟩ := hI
    have ht : top ≤ 100 := by omega
    (try walk_at "wp")
    (rw [ss_cons]; walk_at "wp")
    refine ⟨by decide, fun p3 hp3 => ?_⟩
    have h23 : p2 ≠ p3 := ne_of_mem hm hp3
    have hM3 : M p3 = none := sb.noneL hp3
    rw [ss_cons]
    simp! only [upd_no h23, hm]
    refine for_at mF (fun i e M2 => Sub M M2 ∧ M2 p2 = some (.lst ((boxL top x).map TlD)) ∧ M2 p3 = some (.lst ((((boxL top x).take i).flatMap fun r => (List.range (top + 1)).map fun (v : Nat) => r ++ [(v : Int)]).map TlD)) ∧ ∃ s5 s6, e = [.val (.int s), .val (.int top), .val (.ref p2), .val (.int x), .val (.ref p3), s5, s6])
      ⟨sb.upd' hp3, by rw [upd_no h23]; exact hm, upd_at, _, _, rfl⟩ (fun i e M2 h => h.2.1) (fun e M2 hI => ?_) (fun i d e M2 hd hI => ?_)
    · obtain ⟨sb2, g1, g2, s5, s6, rfl⟩ := hI
      rw [List.length_map, List.take_length] at g2
      (try walk_at "wp")
      (rw [ss_cons]; walk_at "wp")
      exact ⟨sb2, p3, hM3, g2, _, _, _, _, rfl⟩
    · obtain ⟨sb2, g1, g2, s5, s6, rfl⟩ := hI
      have hi : i < (boxL top x).length := by simpa using (List.getElem?_eq_some_iff.mp hd).1
      have hde : d = TlD (boxL top x)[i] := by
        rw [List.getElem?_map, List.getElem?_eq_getElem hi] at hd
        exact (Option.some.inj hd).symm
      subst hde
      have hlen := boxL_len _ (List.getElem_mem hi)
      have hsz := boxL_size (top := top) (x := x)
      have hbound : (boxL top x).length ≤ 101 := by
        rw [hsz]
        have : x ≤ 1 := by omega
        rcases (by omega : x = 0 ∨ x = 1) with rfl | rfl
        · simp
        · simp; omega
      (try walk_at "wp")
      (rw [ss_cons]; walk_at "wp")
      refine ⟨by omega, by omega, ?_⟩
      refine for_range mF (fun v e M4 => Sub M M4 ∧ M4 p2 = some (.lst ((boxL top x).map TlD)) ∧ M4 p3 = some (.lst ((((boxL top x).take i).flatMap fun r => (List.range (top + 1)).map fun (v : Nat) => r ++ [(v : Int)]).map TlD ++ ((List.range v).map fun (v : Nat) => (boxL top x)[i] ++ [(v : Int)]).map TlD)) ∧ ∃ s6, e = [.val (.int s), .val (.int top), .val (.ref p2), .val (.int x), .val (.ref p3), .val (TlD (boxL top x)[i]), s6])
        ⟨sb2, g1, by simpa using g2, _, rfl⟩ (fun _ _ _ _ => trivial) (fun e M4 hI => ?_) (fun v e M4 hv hI => ?_)
      · obtain ⟨sb4, k1, k2, s6, rfl⟩ := hI
        (try walk_at "wp")
        refine ⟨sb4, k1, ?_, _, _, rfl⟩
        rw [k2, flatMap_take hi, List.map_append]
        congr 4
      · obtain ⟨sb4, k1, k2, s6, rfl⟩ := hI
        have hv2 : v ≤ top := by omega
        (try walk_at "wp")
        rw [ss_cons]
        simp! only [k2]
        simp only [TlD, wS, wE, wEs, wO, wAs, wL, wN, wI, wT, wTs, setAll, Tg.slots, wipeE, cmp_eq_int, cmp_ne_int, cmp_eq_str, cmp_ne_str, cmp_eq_tup, cmp_ne_tup, cmp_eq_bl, cmp_lt, cmp_le, cmp_gt, cmp_ge, Kt0_rt, Kt0_nx, List.getElem?_cons_zero, List.getElem?_cons_succ, List.set_cons_zero, List.set_cons_succ, Option.some.injEq, Slot.val.injEq, Slot.own.injEq, MO.lst.injEq, D.int.injEq, D.ref.injEq, D.bl.injEq, D.tup.injEq, D.str.injEq, exists_eq_left', exists_eq_left, exists_and_left, exists_and_right, and_assoc, true_and, and_true, atI_0, atI_1, atI_2, atI_3, atI_4, backs, drps, List.map_cons, List.map_nil, List.length_cons, List.length_nil, List.cons_append, List.nil_append, List.replicate, Nat.reduceAdd, Nat.reduceSub, decide_eq_true_eq, upd_at, aug_add_int, aug_sub_int, aug_mul_int, aug_add_str, ixN5_1, ixN5_2, ixN5_3, Int.toNat_natCast, List.length_map, List.length_range, tg_nm, tg_tp, tru_non, tru_bl, tru_int, tru_str, tru_tup, tru_ref, bin_add_int, bin_add_str, bin_add_tup, bin_sub, bin_mul, bin_fdiv, bin_mod, bin_pow, bin_shl, bin_shr, bin_band, bin_bor, idx_tup, idx_ref, idx_str, blt_len_tup, blt_len_str, blt_len_ref, blt_int_int, blt_int_bl, blt_bool_bl, blt_bool_int, blt_abs, blt_max2, blt_max3, blt_min2, blt_tuple_tup, blt_tuple_ref, blt_isa_non, blt_isa_bl, blt_isa_int, blt_isa_str, blt_isa_tup, isa_int_int, isa_int_bool, isa_bl_bool, isa_tup, isa_str, lk_tuple, lk_len, lk_all, lk_any, lk_sum, it_tup, it_rl, it_ref, zip_tup, enum_tup, enum_ref, eq_self_iff_true, if_true, Bool.false_eq_true, if_false, reduceIte, ss_nil, rev_tup, rev_ref, ty_split, ty_join, ty_append, ty_pop, ty_popAt, ty_reverse, ty_extend, ty_insert, mth_append, mth_pop, mth_popAt, mth_reverse, mth_extend, mth_insert, mth_split, mth_join, cmp_eq_ref, cmp_ne_ref, slc_tup, slc_str, slc_ref, lk_max, lk_min, cmp_lt_str, cmp_is_bl, cmp_not_bl, cmp_is_non, cmp_not_non, cmp_is_tup, cmp_not_tup, cmp_is_int, cmp_not_int, blt_str, blt_maxt, blt_mint, tg_np]
        refine ⟨⟨_, rfl⟩, by decide, small_line (by simp [hlen]; omega), ?_, sb4.upd2 hM3, by rw [upd_no h23]; exact k1, ?_, _, rfl⟩
        · have e1 : (((boxL top x).take i).flatMap fun r => (List.range (top + 1)).map fun (v : Nat) => r ++ [(v : Int)]).length ≤ 101 * 101 := by
            rw [List.length_flatMap]
            simp only [List.length_map, List.length_range]
            rw [List.map_const', List.sum_replicate_nat]
            exact Nat.mul_le_mul (by rw [List.length_take]; omega) (by omega)
          simp only [List.length_append, List.length_map, List.length_range]
          exact Nat.lt_of_lt_of_le (show _ < 20000 by omega) (by decide)
        · rw [List.append_assoc, List.range_succ (n := v)]
          simp [TlD]
theorem Tl_RD {s : Nat} {r : List Int} (h : r.length = s) : TlD r = RD s fun i => r.getD i 0 := list_RD h
/-- the box as rows -/
def bxR (top s : Nat) : List (Nat → Int) := (boxL top s).map fun r i => r.getD i 0
theorem bxR_eq {top s : Nat} : (boxL top s).map TlD = (bxR top s).map (RD s) := by
  unfold bxR
  rw [List.map_map]
  exact List.map_congr_left fun r hr => Tl_RD (boxL_len r hr)
theorem bxR_mem {top s : Nat} {r : Nat → Int} (h : r ∈ bxR top s) : ∀ x, x < s → 0 ≤ r x ∧ r x ≤ (top : Int) := fun x hx => by
  obtain ⟨l, hl, rfl⟩ := List.mem_map.mp h
  obtain ⟨h1, h2⟩ := boxL_in.mp hl
  dsimp only
  rw [getD_at (by omega)]
  exact h2 _ (List.getElem_mem _)
theorem bxR_all {top s : Nat} {r : Nat → Int} (h : ∀ x, x < s → 0 ≤ r x ∧ r x ≤ (top : Int)) : ∃ r' ∈ bxR top s, ∀ x, x < s → r' x = r x := by
  refine ⟨_, List.mem_map.mpr ⟨(List.range s).map r, boxL_in.mpr ⟨by simp, fun v hv => ?_⟩, rfl⟩, fun x hx => ?_⟩
  · obtain ⟨i, hi, rfl⟩ := List.mem_map.mp hv
    exact h i (List.mem_range.mp hi)
  · rw [getD_at (by simpa using hx)]; simp
theorem KpT.congr {s : Nat} {g : Nat → Nat → Int} {a a' b b' : Nat → Int} (h : KpT s g a b) (ha : ∀ x, x < s → a x = a' x) (hb : ∀ x, x < s → b x = b' x) : KpT s g a' b' := fun x hx y hy z => by
  refine h x hx y hy ?_
  unfold BadP at z ⊢
  rw [ha x hx, hb y hy]; exact z
theorem flats_RD {s : Nat} {rows : List (Nat → Int)} : D.flats 58 (rows.map (RD s)) = true := flats_of fun d hd => by
  obtain ⟨r, _, rfl⟩ := List.mem_map.mp hd
  exact RD_flat (k := 57)
theorem eqvs_rows {s : Nat} {rows : List (Nat → Int)} : D.eqvs (rows.map (RD s)) (rows.map (RD s)) = true := D.eqvs_refl flats_RD
/-! more on rows -/
theorem RD_set {s : Nat} {r : Nat → Int} {k : Nat} {v : Int} : D.tup (((List.range s).map fun y => D.int (r y)).set k (.int v)) = RD s (fun i => if i = k then v else r i) := by
  unfold RD
  rw [set_range]
  congr 1
  refine map_range_congr fun i _ => ?_
  by_cases e : i = k
  · simp [e]
  · simp [e]
theorem slc_RD_to {s k : Nat} {r : Nat → Int} {Q : D → Mem → Prop} : wSlc (RD s r) none (some (k : Int)) M Q = Q (.tup (((List.range s).map fun y => .int (r y)).take k)) M := by rw [RD, slc_tup, cut_to]
theorem slc_RD_from {s k : Nat} {r : Nat → Int} {Q : D → Mem → Prop} : wSlc (RD s r) (some ((k : Int) + 1)) none M Q = Q (.tup (((List.range s).map fun y => .int (r y)).drop (k + 1))) M := by
  rw [RD, slc_tup, show ((k : Int) + 1) = ((k + 1 : Nat) : Int) from by omega, cut_from]
theorem slc_Rw_from {s k : Nat} {rows : List (Nat → Int)} {Q : D → Mem → Prop} : wSlc (RwD s rows) (some (k : Int)) none M Q = Q (RwD s (rows.drop k)) M := by
  rw [RwD, slc_tup, cut_from, ← List.map_drop]; rfl
theorem slc_Wo_to {k : Nat} {ks : List Nat} {Q : D → Mem → Prop} : wSlc (WoD ks) none (some (k : Int)) M Q = Q (WoD (ks.take k)) M := by
  rw [WoD, slc_tup, cut_to, ← List.map_take]; rfl
theorem cut_RD {s k : Nat} {r : Nat → Int} {v : Int} (h : k < s) : D.tup (((List.range s).map fun y => D.int (r y)).take k ++ [.int v] ++ ((List.range s).map fun y => D.int (r y)).drop (k + 1)) = RD s (fun i => if i = k then v else r i) := by
  rw [set_cut (by simpa using h), RD_set]
theorem steps_fit {w : Wb} : ∀ {ks : List Nat} {p : Nat}, Steps w p ks → WordOk w ks ∧ ∀ k, k < ks.length → ¬ Misfit w p ks k
  | [], p, _ => ⟨fun k hk => (nomatch hk), fun k hk => absurd hk (by simp)⟩
  | j :: ks, p, h => by
    obtain ⟨hj, e, h2⟩ := h
    obtain ⟨w1, w2⟩ := steps_fit h2
    refine ⟨fun k hk => ?_, fun k hk => ?_⟩
    · rcases List.mem_cons.mp hk with z | z
      · rw [z]; exact hj
      · exact w1 k z
    · unfold Misfit
      cases k with
      | zero => simp only [hereAt, List.getD_cons_zero]; rw [srcN_eq hj]; omega
      | succ k =>
        have := w2 k (by simpa using hk)
        unfold Misfit at this
        simp only [List.getD_cons_succ]
        cases k with
        | zero => simp only [hereAt, List.getD_cons_zero] at this ⊢; rw [tgtN_eq hj]; exact this
        | succ k => simp only [hereAt, List.getD_cons_succ] at this ⊢; exact this
/-- whole numbers of whole numbers -/
theorem All2.ints {R : Int → Int → Prop} : ∀ {vals : List Int} {ys : List D}, All2 (fun x y => ∀ v, x = .int v → ∃ u, y = .int u ∧ R v u) (vals.map D.int) ys → ∃ us : List Int, ys = us.map D.int ∧ us.length = vals.length ∧ ∀ i, i < vals.length → R (vals.getD i 0) (us.getD i 0)
  | [], _, .nil => ⟨[], rfl, rfl, fun i hi => absurd hi (by simp)⟩
  | v :: vals, _, .cons h t => by
    obtain ⟨u, rfl, hr⟩ := h v rfl
    obtain ⟨us, rfl, hl, hu⟩ := All2.ints t
    refine ⟨u :: us, rfl, by simp [hl], fun i hi => ?_⟩
    cases i with
    | zero => exact hr
    | succ i => exact hu i (by simpa using hi)
theorem ent_at {w : Wb} (G : WbGr w) {ks : List Nat} (hk : WordOk w ks) {k : Nat} (h : k < ks.length) : Ent w.sizes.length (tbN w (ks.getD k 0)) := by
  rw [tbN_eq (hk.at h)]; exact (G.ok.moves _ (List.getElem_mem (hk.at h))).tb
theorem lrows_at {w : Wb} {ks : List Nat} {b : Nat → Int} {k : Nat} {d : Nat → Int} (h : k < ks.length) : (lrows w ks b).getD k d = rowA w.sizes.length (tbN w (ks.getD k 0)) ((lrows w ks b).getD (k + 1) d) := by
  rw [lrows_get (by omega), lrows_get (by omega), show ks.length - k = (ks.length - (k + 1)) + 1 from by omega, lrB, show ks.length - 1 - (ks.length - (k + 1)) = k from by omega]
theorem lrows_nonneg {w : Wb} {ks : List Nat} {b : Nat → Int} (hb : ∀ x, x < w.sizes.length → 0 ≤ b x) {k : Nat} {d : Nat → Int} (h : k ≤ ks.length) (x : Nat) (hx : x < w.sizes.length) : 0 ≤ (lrows w ks b).getD k d x := by
  rw [lrows_get h]; exact lrB_nonneg hb _ x hx
/-- no value of a least row can be less -/
theorem rowA_less {s : Nat} {g : Nat → Nat → Int} {b : Nat → Int} (e : Ent s g) {x : Nat} (hx : x < s) (h0 : 0 < rowA s g b x) : ¬ KpT s g (fun i => if i = x then rowA s g b x - 1 else rowA s g b i) b := fun z => by
  have h1 := kp_ahd e z x hx
  simp only [if_pos] at h1
  have h2 : rowA s g b x ≤ rowA s g b x - 1 := lstN_le (by omega) fun y hy hg => h1 y hy hg
  omega
theorem KpT.mono {s : Nat} {g : Nat → Nat → Int} {a a' b : Nat → Int} (h : KpT s g a b) (ha : ∀ x, x < s → a x ≤ a' x) : KpT s g a' b := fun x hx y hy z => by
  refine h x hx y hy ?_
  have := ha x hx
  unfold BadP at z ⊢
  omega
/-- the least rows are under every run -/
theorem over_least {w : Wb} {ks : List Nat} (he : ∀ k, k < ks.length → Ent w.sizes.length (tbN w (ks.getD k 0))) {rows : List (Nat → Int)} (hk : ∀ k, k < ks.length → Kept w ks rows k)
    (h0 : ∀ k, k ≤ ks.length → ∀ x, x < w.sizes.length → 0 ≤ rows.getD k (fun _ => 0) x) {b : Nat → Int} (hb : ∀ x, x < w.sizes.length → b x ≤ rows.getD ks.length (fun _ => 0) x) : ∀ i, i ≤ ks.length → ∀ x, x < w.sizes.length → lrB w ks b i x ≤ rows.getD (ks.length - i) (fun _ => 0) x
  | 0, _, x, hx => hb x hx
  | i + 1, h, x, hx => by
    have ih := over_least he hk h0 hb i (by omega)
    rw [lrB]
    have e : ks.length - (i + 1) = ks.length - 1 - i := by omega
    rw [e]
    have hkk := hk (ks.length - 1 - i) (by omega)
    unfold Kept at hkk
    rw [show ks.length - 1 - i + 1 = ks.length - i from by omega] at hkk
    exact rowA_least (he _ (by omega)) hkk ih x hx (h0 _ (by omega) x hx)
theorem it_Wo' {ks : List Nat} {R : List D → (Env → Mem → Prop) → Prop} : wIt (WoD ks) M R = R ((List.range ks.length).map fun (i : Nat) => .int ((ks.getD i 0 : Nat) : Int)) fun _ _ => True := by
  rw [WoD, it_tup]
  congr 1
  refine List.ext_getElem (by simp) fun i h1 h2 => ?_
  have h : i < ks.length := by simpa using h2
  rw [List.getElem_map, List.getElem_map, List.getElem_range, getD_at h]
theorem ite_some {c : Prop} [Decidable c] {α β : Type} {R : Option α → β → Prop} {x y : Option α} {m : β} (h : R (if decide c = true then x else y) m) : if c then R x m else R y m := by
  by_cases z : c
  · rw [if_pos (decide_eq_true z)] at h; rw [if_pos z]; exact h
  · rw [if_neg (by simpa using z)] at h; rw [if_neg z]; exact h
theorem is_RD {s : Nat} {r : Nat → Int} {R : Bool → Prop} : wCmp .isN (RD s r) .non M R = R false := rfl
theorem anyBl_map {α : Type} {c : α → Bool} : ∀ {xs : List α}, anyBl (xs.map fun x => .bl (c x)) = some (xs.any c)
  | [] => rfl
  | x :: xs => by rw [List.map_cons, anyBl, anyBl_map (xs := xs)]; rfl
end
end DL
/-! Powers of a table. -/
namespace DL
open PySem
section
def EqT (m : Nat) (g h : Nat → Nat → Int) : Prop := ∀ x y, x < m → y < m → g x y = h x y
theorem EqT.rfl' {m : Nat} {g : Nat → Nat → Int} : EqT m g g := fun _ _ _ _ => rfl
theorem EqT.sym {m : Nat} {g h : Nat → Nat → Int} (e : EqT m g h) : EqT m h g := fun x y hx hy => (e x y hx hy).symm
theorem EqT.tr {m : Nat} {g h k : Nat → Nat → Int} (e : EqT m g h) (e' : EqT m h k) : EqT m g k := fun x y hx hy => (e x y hx hy).trans (e' x y hx hy)
instance {m g h} : Decidable (EqT m g h) := decidable_of_iff (∀ x, x < m → ∀ y, y < m → g x y = h x y) ⟨fun z x y hx hy => z x hx y hy, fun z x hx y hy => z x y hx hy⟩
theorem RD_inj {m : Nat} {r r' : Nat → Int} (e : RD m r = RD m r') (x : Nat) (hx : x < m) : r x = r' x := by
  have e2 : (List.range m).map (fun y => D.int (r y)) = (List.range m).map fun y => D.int (r' y) := D.tup.inj e
  have e3 := congrArg (fun l => l[x]?) e2
  simpa [hx] using e3
theorem TD_inj {m : Nat} {g h : Nat → Nat → Int} (e : TD m g = TD m h) : EqT m g h := fun x y hx hy => by
  have e2 : (List.range m).map (fun x => RD m (g x)) = (List.range m).map fun x => RD m (h x) := D.tup.inj e
  have e3 := congrArg (fun l => l[x]?) e2
  have e4 : RD m (g x) = RD m (h x) := by simpa [hx] using e3
  exact RD_inj e4 y hy
theorem TD_eq {m : Nat} {g h : Nat → Nat → Int} : TD m g = TD m h ↔ EqT m g h := ⟨TD_inj, fun e => TD_congr e⟩
/-- the powers, from the first one -/
def pw (m : Nat) (g : Nat → Nat → Int) : Nat → Nat → Nat → Int
  | 0 => g
  | k + 1 => comp m (pw m g k) g
theorem pw_add {m : Nat} {g : Nat → Nat → Int} {i : Nat} : ∀ {j : Nat}, pw m g (i + j + 1) = comp m (pw m g i) (pw m g j)
  | 0 => rfl
  | j + 1 => by
    show comp m (pw m g (i + j + 1)) g = comp m (pw m g i) (comp m (pw m g j) g)
    rw [pw_add]
    funext x w
    exact comp_assoc
theorem comp_ent {m : Nat} {g h : Nat → Nat → Int} (hg : Ent m g) (hh : Ent m h) : Ent m (comp m g h) := fun x z hx hz => by
  refine ⟨comp_nonneg, ?_⟩
  by_cases e : 3 ≤ comp m g h x z
  · obtain ⟨y, hy, h1, h2, h3⟩ := (le_comp (by decide)).mp e
    have := (hg x y hx hy).2
    have := (hh y z hy hz).2
    omega
  · omega
theorem pw_ent {m : Nat} {g : Nat → Nat → Int} (hg : Ent m g) : ∀ k, Ent m (pw m g k)
  | 0 => hg
  | k + 1 => comp_ent (pw_ent hg k) hg
theorem KpT.comp {m : Nat} {g h : Nat → Nat → Int} {a b c : Nat → Int} (eg : Ent m g) (eh : Ent m h) (h1 : KpT m g a b) (h2 : KpT m h b c) : KpT m (DL.comp m g h) a c := Ahd.kp fun x hx z hz h0 => by
  have hle := (comp_ent eg eh x z hx hz).2
  by_cases e : 2 ≤ DL.comp m g h x z
  · obtain ⟨y, hy, g0, h0', hc⟩ := (le_comp (by decide)).mp e
    have k1 := kp_ahd eg h1 x hx y hy g0
    have k2 := kp_ahd eh h2 y hy z hz h0'
    have := (eg x y hx hy).2
    have := (eh y z hy hz).2
    rcases hc with hc | hc <;> omega
  · obtain ⟨y, hy, g0, h0'⟩ := pos_comp.mp h0
    have k1 := kp_ahd eg h1 x hx y hy g0
    have k2 := kp_ahd eh h2 y hy z hz h0'
    omega
theorem KpT.pw {m : Nat} {g : Nat → Nat → Int} {a : Nat → Int} (eg : Ent m g) (h : KpT m g a a) : ∀ k, KpT m (DL.pw m g k) a a
  | 0 => h
  | k + 1 => KpT.comp (pw_ent eg k) eg (KpT.pw eg h k) h
/-- no power lowers a size against itself -/
def Stk (m : Nat) (g : Nat → Nat → Int) : Prop := ∀ k x, x < m → pw m g k x x ≠ 2
theorem stk_of_keeps {m : Nat} {g : Nat → Nat → Int} {a : Nat → Int} (eg : Ent m g) (h : KpT m g a a) : Stk m g := fun k x hx e => by
  have := kp_ahd (pw_ent eg k) (KpT.pw eg h k) x hx x hx (by omega)
  omega
/-! walks -/
structure Wlk (m : Nat) (g : Nat → Nat → Int) (k x z : Nat) (t : Int) (W : Nat → Nat) : Prop where
  st : W 0 = x
  en : W k = z
  lt : ∀ i, i ≤ k → W i < m
  arc : ∀ i, i < k → 0 < g (W i) (W (i + 1))
  mark : t ≤ 1 ∨ ∃ i, i < k ∧ t ≤ g (W i) (W (i + 1))
theorem Wlk.snoc {m : Nat} {g : Nat → Nat → Int} {k x y z : Nat} {t t' : Int} {W : Nat → Nat} (h : Wlk m g k x y t W) (hz : z < m) (h0 : 0 < g y z) (ht : t' ≤ t ∨ t' ≤ g y z) : Wlk m g (k + 1) x z t' fun i => if i ≤ k then W i else z := by
  have arcs : ∀ i, i < k → (if i ≤ k then W i else z) = W i ∧ (if i + 1 ≤ k then W (i + 1) else z) = W (i + 1) := fun i hi => ⟨if_pos (by omega), if_pos (by omega)⟩
  have last : (if k ≤ k then W k else z) = y ∧ (if k + 1 ≤ k then W (k + 1) else z) = z := ⟨by rw [if_pos (Nat.le_refl _)]; exact h.en, if_neg (by omega)⟩
  refine ⟨?_, if_neg (by omega), fun i hi => ?_, fun i hi => ?_, ?_⟩
  · show (if 0 ≤ k then W 0 else z) = x
    rw [if_pos (Nat.zero_le _)]; exact h.st
  · show (if i ≤ k then W i else z) < m
    split
    · rename_i z; exact h.lt i z
    · exact hz
  · by_cases e : i < k
    · show 0 < g (if i ≤ k then W i else z) (if i + 1 ≤ k then W (i + 1) else z)
      rw [(arcs i e).1, (arcs i e).2]; exact h.arc i e
    · have : i = k := by omega
      subst this
      show 0 < g (if i ≤ i then W i else z) (if i + 1 ≤ i then W (i + 1) else z)
      rw [last.1, last.2]; exact h0
  · have hl : t' ≤ g y z → ∃ i, i < k + 1 ∧ t' ≤ g (if i ≤ k then W i else z) (if i + 1 ≤ k then W (i + 1) else z) := fun hh => ⟨k, by omega, by rw [last.1, last.2]; exact hh⟩
    rcases ht with ht | ht
    · rcases h.mark with e | ⟨i, hi, e⟩
      · exact .inl (by omega)
      · exact .inr ⟨i, by omega, by rw [(arcs i hi).1, (arcs i hi).2]; omega⟩
    · exact .inr (hl ht)
theorem pw_walk {m : Nat} {g : Nat → Nat → Int} {t : Int} (ht : 0 < t) : ∀ {k x z : Nat}, x < m → z < m → (t ≤ pw m g k x z ↔ ∃ W, Wlk m g (k + 1) x z t W)
  | 0, x, z, hx, hz => by
    constructor
    · intro h
      have h : t ≤ g x z := h
      refine ⟨fun i => if i = 0 then x else z, if_pos rfl, if_neg (by omega), fun i hi => ?_, fun i hi => ?_, .inr ⟨0, by omega, ?_⟩⟩
      · show (if i = 0 then x else z) < m
        split <;> assumption
      · have : i = 0 := by omega
        subst this
        show 0 < g x z
        omega
      · exact h
    · rintro ⟨W, h⟩
      have h1 := h.arc 0 (by omega)
      rw [h.st, show W (0 + 1) = z from h.en] at h1
      show t ≤ g x z
      rcases h.mark with e | ⟨i, hi, e⟩
      · omega
      · have : i = 0 := by omega
        subst this
        rw [h.st, show W (0 + 1) = z from h.en] at e
        exact e
  | k + 1, x, z, hx, hz => by
    show t ≤ comp m (pw m g k) g x z ↔ _
    rw [le_comp ht]
    constructor
    · rintro ⟨y, hy, h1, h2, h3⟩
      rcases h3 with h3 | h3
      · obtain ⟨W, hW⟩ := (pw_walk ht hx hy).mp h3
        exact ⟨_, hW.snoc hz h2 (.inl (Int.le_refl _))⟩
      · obtain ⟨W, hW⟩ := (pw_walk (t := 1) (by decide) hx hy).mp h1
        exact ⟨_, hW.snoc hz h2 (.inr h3)⟩
    · rintro ⟨W, h⟩
      have hy := h.lt (k + 1) (by omega)
      have hlast := h.arc (k + 1) (by omega)
      rw [show W (k + 1 + 1) = z from h.en] at hlast
      have h1 : Wlk m g (k + 1) x (W (k + 1)) 1 W := ⟨h.st, rfl, fun i hi => h.lt i (by omega), fun i hi => h.arc i (by omega), .inl (Int.le_refl _)⟩
      have h2 : 1 ≤ pw m g k x (W (k + 1)) := (pw_walk (by decide) hx hy).mpr ⟨W, h1⟩
      refine ⟨W (k + 1), hy, h2, hlast, ?_⟩
      rcases h.mark with e | ⟨i, hi, e⟩
      · exact .inl (by omega)
      · by_cases hik : i < k + 1
        · exact .inl ((pw_walk ht hx hy).mpr ⟨W, h.st, rfl, fun i hi => h.lt i (by omega), fun i hi => h.arc i (by omega), .inr ⟨i, hik, e⟩⟩)
        · have : i = k + 1 := by omega
          subst this
          rw [show W (k + 1 + 1) = z from h.en] at e
          exact .inr e
theorem pigeon : ∀ {n : Nat} {W : Nat → Nat}, (∀ i, i ≤ n → W i < n) → ∃ i j, i < j ∧ j ≤ n ∧ W i = W j
  | 0, W, h => absurd (h 0 (Nat.le_refl _)) (by omega)
  | n + 1, W, h => by
    by_cases hex : ∃ i, i < n + 1 ∧ W i = W (n + 1)
    · obtain ⟨i, hi, e⟩ := hex
      exact ⟨i, n + 1, hi, Nat.le_refl _, e⟩
    · have hne : ∀ i, i < n + 1 → W i ≠ W (n + 1) := fun i hi e => hex ⟨i, hi, e⟩
      have hlast := h (n + 1) (Nat.le_refl _)
      obtain ⟨i, j, hij, hj, e⟩ := pigeon (n := n) (W := fun i => if W i = n then W (n + 1) else W i) fun i hi => by
        have h1 := h i (by omega)
        have h2 := hne i (by omega)
        show (if W i = n then W (n + 1) else W i) < n
        split
        · rename_i z
          omega
        · omega
      refine ⟨i, j, hij, by omega, ?_⟩
      have n1 := hne i (by omega)
      have n2 := hne j (by omega)
      have e' : (if W i = n then W (n + 1) else W i) = (if W j = n then W (n + 1) else W j) := e
      split at e' <;> split at e' <;> omega
theorem mod_step {q c : Nat} (hc : 0 < c) : (q % c + 1 < c ∧ (q + 1) % c = q % c + 1) ∨ (q % c + 1 = c ∧ (q + 1) % c = 0) := by
  have h1 := Nat.mod_lt q hc
  have h2 : (q + 1) % c = (q % c + 1) % c := by rw [Nat.add_mod, Nat.mod_add_mod, Nat.add_mod_mod]; simp [Nat.add_mod]
  by_cases e : q % c + 1 < c
  · exact .inl ⟨e, by rw [h2, Nat.mod_eq_of_lt e]⟩
  · have : q % c + 1 = c := by omega
    exact .inr ⟨this, by rw [h2, this, Nat.mod_self]⟩
/-- a walk with a cycle goes round it again -/
theorem Wlk.pump {m : Nat} {g : Nat → Nat → Int} {k x z : Nat} {t : Int} {W : Nat → Nat} (h : Wlk m g k x z t W) {i j N : Nat} (hij : i < j) (hj : j ≤ k) (e : W i = W j) (hN : N % (j - i) = 0) :
    Wlk m g (k + N) x z t fun p => if p ≤ j then W p else if p ≤ j + N then W (i + (p - j) % (j - i)) else W (p - N) := by
  have hc : 0 < j - i := by omega
  obtain ⟨V, hV⟩ : ∃ V : Nat → Nat, V = fun p => if p ≤ j then W p else if p ≤ j + N then W (i + (p - j) % (j - i)) else W (p - N) := ⟨_, rfl⟩
  have v1 : ∀ p, p ≤ j → V p = W p := fun p hp => by rw [hV]; exact if_pos hp
  have v2 : ∀ q, q ≤ N → V (j + q) = W (i + q % (j - i)) := fun q hq => by
    by_cases z : q = 0
    · subst z
      rw [Nat.add_zero, v1 j (Nat.le_refl _), Nat.zero_mod, Nat.add_zero, e]
    · rw [hV]
      show (if j + q ≤ j then W (j + q) else if j + q ≤ j + N then W (i + (j + q - j) % (j - i)) else W (j + q - N)) = _
      rw [if_neg (by omega), if_pos (by omega), show j + q - j = q from by omega]
  have v3 : ∀ p, j ≤ p → V (p + N) = W p := fun p hp => by
    by_cases z : p = j
    · subst z
      rw [v2 N (Nat.le_refl _), hN, Nat.add_zero, e]
    · rw [hV]
      show (if p + N ≤ j then W (p + N) else if p + N ≤ j + N then W (i + (p + N - j) % (j - i)) else W (p + N - N)) = _
      rw [if_neg (by omega), if_neg (by omega), show p + N - N = p from by omega]
  have arcs : ∀ p, p < k + N → ∃ p', p' < k ∧ V p = W p' ∧ V (p + 1) = W (p' + 1) := fun p hp => by
    by_cases c1 : p < j
    · exact ⟨p, by omega, v1 p (by omega), v1 (p + 1) (by omega)⟩
    · by_cases c2 : p < j + N
      · obtain ⟨q, rfl⟩ : ∃ q, p = j + q := ⟨p - j, by omega⟩
        have hm := Nat.mod_lt q hc
        refine ⟨i + q % (j - i), by omega, v2 q (by omega), ?_⟩
        rw [show j + q + 1 = j + (q + 1) from by omega, v2 (q + 1) (by omega)]
        rcases mod_step (q := q) hc with ⟨z1, z2⟩ | ⟨z1, z2⟩
        · rw [z2]; rfl
        · rw [z2, Nat.add_zero, e]
          congr 1
          omega
      · obtain ⟨q, rfl⟩ : ∃ q, p = q + N := ⟨p - N, by omega⟩
        exact ⟨q, by omega, v3 q (by omega), by rw [show q + N + 1 = q + 1 + N from by omega]; exact v3 (q + 1) (by omega)⟩
  rw [← hV]
  refine ⟨by rw [v1 0 (by omega)]; exact h.st, by rw [v3 k hj]; exact h.en, fun p hp => ?_, fun p hp => ?_, ?_⟩
  · by_cases z : p = k + N
    · subst z
      rw [v3 k hj]; exact h.lt k (Nat.le_refl _)
    · obtain ⟨p', h1, h2, _⟩ := arcs p (by omega)
      rw [h2]; exact h.lt p' (by omega)
  · obtain ⟨p', h1, h2, h3⟩ := arcs p hp
    rw [h2, h3]; exact h.arc p' h1
  · rcases h.mark with y | ⟨p, hp, y⟩
    · exact .inl y
    · by_cases c1 : p < j
      · exact .inr ⟨p, by omega, by rw [v1 p (by omega), v1 (p + 1) (by omega)]; exact y⟩
      · exact .inr ⟨p + N, by omega, by rw [v3 p (by omega), show p + N + 1 = p + 1 + N from by omega, v3 (p + 1) (by omega)]; exact y⟩
/-- for nine sizes and less: every power from the m-th one on is under one that comes 2520 later -/
theorem pw_later {m : Nat} {g : Nat → Nat → Int} (hg : Ent m g) (hm : m ≤ 9) {k : Nat} (hk : m ≤ k + 1) : leT m (pw m g k) (pw m g (k + 2520)) := fun x z hx hz => by
  by_cases h0 : pw m g k x z ≤ 0
  · exact Int.le_trans h0 ((pw_ent hg _ x z hx hz).1)
  · obtain ⟨W, hW⟩ := (pw_walk (g := g) (t := pw m g k x z) (by omega) hx hz).mp (Int.le_refl _)
    obtain ⟨i, j, hij, hj, e⟩ := pigeon (n := m) (W := W) fun i hi => hW.lt i (by omega)
    have hN : 2520 % (j - i) = 0 := by
      have h1 : 0 < j - i ∧ j - i ≤ 9 := by omega
      generalize j - i = c at h1
      have : c = 1 ∨ c = 2 ∨ c = 3 ∨ c = 4 ∨ c = 5 ∨ c = 6 ∨ c = 7 ∨ c = 8 ∨ c = 9 := by omega
      rcases this with rfl | rfl | rfl | rfl | rfl | rfl | rfl | rfl | rfl <;> rfl
    have := hW.pump hij (by omega) e hN
    rw [show k + 1 + 2520 = k + 2520 + 1 from by omega] at this
    exact (pw_walk (by omega) hx hz).mpr ⟨_, this⟩
/-! sums -/
def sumN (f : Nat → Int) : Nat → Int
  | 0 => 0
  | n + 1 => sumN f n + f n
theorem sumN_le {f g : Nat → Int} : ∀ {n : Nat}, (∀ i, i < n → f i ≤ g i) → sumN f n ≤ sumN g n
  | 0, _ => Int.le_refl _
  | n + 1, h => by
    have h1 := sumN_le (n := n) (f := f) (g := g) fun i hi => h i (by omega)
    have h2 := h n (by omega)
    rw [sumN, sumN]; omega
theorem sumN_eq {f g : Nat → Int} : ∀ {n : Nat}, (∀ i, i < n → f i ≤ g i) → sumN g n ≤ sumN f n → ∀ i, i < n → f i = g i
  | 0, _, _, i, hi => absurd hi (by omega)
  | n + 1, h, e, i, hi => by
    have h1 := sumN_le (n := n) (f := f) (g := g) fun i hi => h i (by omega)
    have h2 := h n (by omega)
    rw [sumN, sumN] at e
    by_cases z : i = n
    · subst z; omega
    · exact sumN_eq (n := n) (fun i hi => h i (by omega)) (by omega) i (by omega)
theorem sumN_const {f : Nat → Int} {c : Int} : ∀ {n : Nat}, (∀ i, i < n → f i ≤ c) → sumN f n ≤ n * c
  | 0, _ => by simp [sumN]
  | n + 1, h => by
    have h1 := sumN_const (n := n) (f := f) (c := c) fun i hi => h i (by omega)
    have h2 := h n (by omega)
    rw [sumN, show ((n + 1 : Nat) : Int) * c = n * c + c from by rw [Int.natCast_add, Int.add_mul]; simp]
    omega
def sumT (m : Nat) (g : Nat → Nat → Int) : Int := sumN (fun x => sumN (g x) m) m
theorem sumT_nonneg {m : Nat} {g : Nat → Nat → Int} (hg : Ent m g) : 0 ≤ sumT m g := by
  have z : ∀ {n : Nat}, sumN (fun _ => 0) n = 0 := by
    intro n
    induction n with
    | zero => rfl
    | succ n ih => rw [sumN, ih]; rfl
  have h2 : sumN (fun _ => 0) m ≤ sumT m g := sumN_le fun x hx => by
    have : sumN (fun _ => 0) m ≤ sumN (g x) m := sumN_le fun y hy => (hg x y hx hy).1
    rw [z] at this
    exact this
  rw [z] at h2
  exact h2
theorem sumT_le {m : Nat} {g h : Nat → Nat → Int} (e : leT m g h) : sumT m g ≤ sumT m h := sumN_le fun x hx => sumN_le fun y hy => e x y hx hy
theorem sumT_eq {m : Nat} {g h : Nat → Nat → Int} (e : leT m g h) (hs : sumT m h ≤ sumT m g) : EqT m g h := fun x y hx hy => by
  have h1 := sumN_eq (f := fun x => sumN (g x) m) (g := fun x => sumN (h x) m) (fun x hx => sumN_le fun y hy => e x y hx hy) hs x hx
  exact sumN_eq (fun y hy => e x y hx hy) (by have h1 : sumN (g x) m = sumN (h x) m := h1; omega) y hy
theorem sumT_most {m : Nat} {g : Nat → Nat → Int} (hg : Ent m g) (hm : m ≤ 9) : sumT m g ≤ 162 := by
  have h1 : sumT m g ≤ m * 18 := sumN_const fun x hx => by
    have h2 : sumN (g x) m ≤ m * 2 := sumN_const fun y hy => (hg x y hx hy).2
    omega
  omega
/-- two powers are alike, not far on -/
theorem pw_again {m : Nat} {g : Nat → Nat → Int} (hg : Ent m g) (hm : m ≤ 9) : ∃ i j, i < j ∧ j ≤ 420000 ∧ EqT m (pw m g i) (pw m g j) := by
  by_cases hex : ∃ n, n ≤ 162 ∧ EqT m (pw m g (m + n * 2520)) (pw m g (m + n * 2520 + 2520))
  · obtain ⟨n, hn, e⟩ := hex
    exact ⟨_, _, by omega, by omega, e⟩
  · exfalso
    have grow : ∀ n : Nat, n ≤ 163 → (n : Int) ≤ sumT m (pw m g (m + n * 2520)) := by
      intro n
      induction n with
      | zero => intro _; exact sumT_nonneg (pw_ent hg _)
      | succ n ih =>
        intro hn
        have h1 := ih (by omega)
        have h2 := pw_later hg hm (k := m + n * 2520) (by omega)
        rw [show m + (n + 1) * 2520 = m + n * 2520 + 2520 from by omega]
        by_cases z : sumT m (pw m g (m + n * 2520 + 2520)) ≤ sumT m (pw m g (m + n * 2520))
        · exact absurd ⟨n, by omega, sumT_eq h2 z⟩ hex
        · have := sumT_le h2
          omega
    have h1 := grow 163 (Nat.le_refl _)
    have h2 := sumT_most (pw_ent hg (m + 163 * 2520)) hm
    omega
/-! the cycle of the powers -/
/-- the first power that comes again is the L-th, and it is the f-th -/
structure Cyc (m : Nat) (g : Nat → Nat → Int) (f L : Nat) : Prop where
  lt : f < L
  same : EqT m (pw m g L) (pw m g f)
  unl : ∀ i j, i < j → j < L → ¬ EqT m (pw m g i) (pw m g j)
theorem eq_shift {m : Nat} {g : Nat → Nat → Int} {i j : Nat} (e : EqT m (pw m g i) (pw m g j)) : ∀ k, EqT m (pw m g (i + k)) (pw m g (j + k))
  | 0 => e
  | k + 1 => fun x z hx hz => comp_congr (eq_shift e k) EqT.rfl' hx hz
namespace Cyc
variable {m : Nat} {g : Nat → Nat → Int} {f L : Nat}
/-- the place in the list -/
def at' (f L i : Nat) : Nat := if i < f then i else f + (i - f) % (L - f)
theorem at_lt (c : Cyc m g f L) {i : Nat} : at' f L i < L := by
  have h := c.lt
  unfold at'
  split
  · omega
  · have := Nat.mod_lt (i - f) (show 0 < L - f by omega); omega
theorem at_eq (c : Cyc m g f L) : ∀ i, EqT m (pw m g i) (pw m g (at' f L i)) := by
  intro i
  induction i using Nat.strongRecOn with
  | _ i ih =>
    have h := c.lt
    by_cases e : i < L
    · have : at' f L i = i := by
        unfold at'
        split
        · rfl
        · rw [Nat.mod_eq_of_lt (by omega)]; omega
      rw [this]; exact EqT.rfl'
    · have h1 := eq_shift c.same (i - L)
      rw [show L + (i - L) = i from by omega] at h1
      have h2 := ih (f + (i - L)) (by omega)
      have h3 : at' f L (f + (i - L)) = at' f L i := by
        unfold at'
        rw [if_neg (by omega), if_neg (by omega)]
        congr 1
        rw [show i - f = (i - L) + (L - f) from by omega, Nat.add_mod_right]
        congr 1
        omega
      rw [h3] at h2
      exact h1.tr h2
theorem uniq (c : Cyc m g f L) {i j : Nat} (hi : i < L) (hj : j < L) (e : EqT m (pw m g i) (pw m g j)) : i = j := by
  rcases Nat.lt_trichotomy i j with z | z | z
  · exact absurd e (c.unl i j z hj)
  · exact z
  · exact absurd e.sym (c.unl j i z hi)
theorem eq_iff (c : Cyc m g f L) {i j : Nat} : EqT m (pw m g i) (pw m g j) ↔ at' f L i = at' f L j := by
  constructor
  · intro e
    exact c.uniq c.at_lt c.at_lt (((c.at_eq i).sym.tr e).tr (c.at_eq j))
  · intro e
    have h1 := c.at_eq i
    rw [e] at h1
    exact h1.tr (c.at_eq j).sym
/-- which powers are squares -/
theorem square_iff (c : Cyc m g f L) {k : Nat} : EqT m (comp m (pw m g k) (pw m g k)) (pw m g k) ↔ f ≤ k ∧ (k + 1) % (L - f) = 0 := by
  have h := c.lt
  have hp : 0 < L - f := by omega
  rw [← pw_add, c.eq_iff]
  unfold at'
  by_cases e : k < f
  · rw [if_pos e]
    constructor
    · intro z
      exfalso
      split at z
      · omega
      · have := Nat.mod_lt (k + k + 1 - f) hp; omega
    · intro z; omega
  · rw [if_neg e, if_neg (by omega)]
    constructor
    · intro z
      refine ⟨by omega, ?_⟩
      have z' : (k + k + 1 - f) % (L - f) = (k - f) % (L - f) := by omega
      have := Nat.sub_mod_eq_zero_of_mod_eq z'
      rw [show k + k + 1 - f - (k - f) = k + 1 from by omega] at this
      exact this
    · rintro ⟨_, z⟩
      congr 1
      rw [show k + k + 1 - f = (k - f) + (k + 1) from by omega, Nat.add_mod, z, Nat.add_zero, Nat.mod_mod]
/-- the times of the own square -/
def times (f L : Nat) : Nat := (L - f) * (L / (L - f))
theorem times_pos (c : Cyc m g f L) : f < times f L ∧ times f L ≤ L ∧ times f L % (L - f) = 0 := by
  have h := c.lt
  have hp : 0 < L - f := by omega
  unfold times
  have h1 := Nat.div_add_mod L (L - f)
  have h2 := Nat.mod_lt L hp
  exact ⟨by omega, by omega, Nat.mul_mod_right _ _⟩
theorem times_sq (c : Cyc m g f L) : EqT m (comp m (pw m g (times f L - 1)) (pw m g (times f L - 1))) (pw m g (times f L - 1)) := by
  obtain ⟨h1, h2, h3⟩ := c.times_pos
  exact c.square_iff.mpr ⟨by omega, by rw [show times f L - 1 + 1 = times f L from by omega]; exact h3⟩
theorem times_least (c : Cyc m g f L) {k : Nat} (hk : k + 1 < times f L) : ¬ EqT m (comp m (pw m g k) (pw m g k)) (pw m g k) := fun z => by
  obtain ⟨h1, h2⟩ := c.square_iff.mp z
  have h := c.lt
  have hp : 0 < L - f := by omega
  obtain ⟨h3, h4, h5⟩ := c.times_pos
  unfold times at hk h3 h4
  have h6 := Nat.div_add_mod L (L - f)
  have h7 := Nat.mod_lt L hp
  obtain ⟨q, hq⟩ := Nat.dvd_of_mod_eq_zero h2
  -- k + 1 = (L - f) * q, f < k + 1 < (L - f) * (L / (L - f))
  have h8 : q < L / (L - f) := Nat.lt_of_mul_lt_mul_left (a := L - f) (by omega)
  have h9 : (L - f) * (q + 1) ≤ (L - f) * (L / (L - f)) := Nat.mul_le_mul_left _ h8
  rw [Nat.mul_add, Nat.mul_one] at h9
  omega
end Cyc
/-- a cycle there is -/
theorem diag_pow {m : Nat} {g : Nat → Nat → Int} (hg : Ent m g) {k x : Nat} (hx : x < m) (e : pw m g k x x = 2) : ∀ q, pw m g ((k + 1) * q + k) x x = 2
  | 0 => by rw [Nat.mul_zero, Nat.zero_add]; exact e
  | q + 1 => by
    have ih := diag_pow hg hx e q
    rw [show (k + 1) * (q + 1) + k = ((k + 1) * q + k) + k + 1 from by rw [Nat.mul_add]; omega, pw_add]
    have h1 := (comp_ent (pw_ent hg ((k + 1) * q + k)) (pw_ent hg k) x x hx hx).2
    have h2 : 2 ≤ comp m (pw m g ((k + 1) * q + k)) (pw m g k) x x := (le_comp (by decide)).mpr ⟨x, hx, by omega, by omega, .inl (by omega)⟩
    omega
/-- the own square tells whether a table is stuck -/
theorem Cyc.stk_iff {m : Nat} {g : Nat → Nat → Int} {f L : Nat} (hg : Ent m g) (c : Cyc m g f L) : (∀ x, x < m → pw m g (Cyc.times f L - 1) x x ≠ 2) ↔ Stk m g := by
  constructor
  · intro h k x hx e
    obtain ⟨h1, h2, h3⟩ := c.times_pos
    have h4 := diag_pow hg hx e (Cyc.times f L - 1)
    have e1 : (k + 1) * (Cyc.times f L - 1) + k = Cyc.times f L - 1 + k * Cyc.times f L := by
      obtain ⟨t, ht⟩ : ∃ t, Cyc.times f L = t + 1 := ⟨Cyc.times f L - 1, by omega⟩
      rw [ht, Nat.add_sub_cancel, Nat.add_mul, Nat.mul_add]
      omega
    rw [e1] at h4
    have h5 : EqT m (pw m g (Cyc.times f L - 1 + k * Cyc.times f L)) (pw m g (Cyc.times f L - 1)) := by
      rw [c.eq_iff]
      unfold Cyc.at'
      rw [if_neg (by omega), if_neg (by omega)]
      congr 1
      rw [show Cyc.times f L - 1 + k * Cyc.times f L - f = (Cyc.times f L - 1 - f) + k * Cyc.times f L from by omega, Nat.add_mod, Nat.mul_mod, h3, Nat.mul_zero, Nat.zero_mod, Nat.add_zero, Nat.mod_mod]
    rw [h5 x x hx hx] at h4
    exact h x hx h4
  · intro h x hx
    exact h _ x hx
/-- the powers up to the first that comes again tell it, too -/
theorem Cyc.stk_of {m : Nat} {g : Nat → Nat → Int} {f L : Nat} (c : Cyc m g f L) (h : ∀ k, k < L → ∀ x, x < m → pw m g k x x ≠ 2) : Stk m g := fun k x hx e => by
  rw [c.at_eq k x x hx hx] at e
  exact h _ c.at_lt x hx e
/-! the least rows that a table keeps -/
def itR (m : Nat) (g : Nat → Nat → Int) : Nat → Nat → Int
  | 0 => fun _ => 0
  | k + 1 => rowA m g (itR m g k)
theorem lstN_mono {gx b b' : Nat → Int} : ∀ {n : Nat}, (∀ y, y < n → b y ≤ b' y) → lstN gx b n ≤ lstN gx b' n
  | 0, _ => Int.le_refl _
  | n + 1, h => by
    have h1 := lstN_mono (n := n) (gx := gx) (b := b) (b' := b') fun y hy => h y (by omega)
    have h2 := h n (by omega)
    rw [lstN, lstN]; split <;> omega
theorem itR_mono {m : Nat} {g : Nat → Nat → Int} : ∀ {k x : Nat}, x < m → itR m g k x ≤ itR m g (k + 1) x
  | 0, x, _ => lstN_nonneg
  | k + 1, x, hx => lstN_mono fun y hy => itR_mono (k := k) hy
theorem itR_le {m : Nat} {g : Nat → Nat → Int} {x : Nat} (hx : x < m) {k j : Nat} (h : k ≤ j) : itR m g k x ≤ itR m g j x := by
  induction j with
  | zero => have : k = 0 := by omega
            subst this; exact Int.le_refl _
  | succ j ih =>
    by_cases e : k = j + 1
    · subst e; exact Int.le_refl _
    · exact Int.le_trans (ih (by omega)) (itR_mono hx)
theorem lstN_pick {gx b : Nat → Int} : ∀ {n : Nat}, 0 < lstN gx b n → ∃ y, y < n ∧ 0 < gx y ∧ lstN gx b n = b y + gx y - 1
  | 0, h => absurd h (by simp [lstN])
  | n + 1, h => by
    rw [lstN] at h ⊢
    split at h
    · rename_i hg
      rw [if_pos hg]
      by_cases e : lstN gx b n ≤ b n + gx n - 1
      · exact ⟨n, by omega, hg, by omega⟩
      · obtain ⟨y, hy, h1, h2⟩ := lstN_pick (n := n) (gx := gx) (b := b) (by omega)
        exact ⟨y, by omega, h1, by omega⟩
    · rename_i hg
      rw [if_neg hg]
      obtain ⟨y, hy, h1, h2⟩ := lstN_pick (n := n) (gx := gx) (b := b) h
      exact ⟨y, by omega, h1, h2⟩
/-- a row that still grows has grown along a walk -/
theorem grow_walk {m : Nat} {g : Nat → Nat → Int} : ∀ {k x : Nat}, x < m → itR m g k x < itR m g (k + 1) x → ∃ W : Nat → Nat, W 0 = x ∧ (∀ i, i ≤ k → W i < m ∧ itR m g (k - i) (W i) < itR m g (k - i + 1) (W i)) ∧ ∀ i, i < k → 0 < g (W i) (W (i + 1)) ∧ itR m g (k - i + 1) (W i) = itR m g (k - i) (W (i + 1)) + g (W i) (W (i + 1)) - 1
  | 0, x, hx, h => ⟨fun _ => x, rfl, fun i hi => by
      have : i = 0 := by omega
      subst this; exact ⟨hx, h⟩, fun i hi => absurd hi (by omega)⟩
  | k + 1, x, hx, h => by
    have h0 : 0 ≤ itR m g (k + 1) x := lstN_nonneg
    have h : itR m g (k + 1) x < itR m g (k + 2) x := h
    obtain ⟨y, hy, g0, e⟩ := lstN_pick (gx := g x) (b := itR m g (k + 1)) (n := m) (show 0 < itR m g (k + 2) x by omega)
    have e : itR m g (k + 2) x = itR m g (k + 1) y + g x y - 1 := e
    have h1 : itR m g k y + g x y - 1 ≤ itR m g (k + 1) x := lstN_ge hy g0
    have h2 : itR m g k y < itR m g (k + 1) y := by omega
    obtain ⟨W, w0, w1, w2⟩ := grow_walk (k := k) hy h2
    refine ⟨fun i => match i with | 0 => x | i + 1 => W i, rfl, fun i hi => ?_, fun i hi => ?_⟩
    · cases i with
      | zero => exact ⟨hx, h⟩
      | succ i =>
        have := w1 i (by omega)
        rw [show k + 1 - (i + 1) = k - i from by omega]
        exact this
    · cases i with
      | zero =>
        show 0 < g x (W 0) ∧ itR m g (k + 1 + 1) x = itR m g (k + 1) (W 0) + g x (W 0) - 1
        rw [w0]; exact ⟨g0, e⟩
      | succ i =>
        have := w2 i (by omega)
        rw [show k + 1 - (i + 1) = k - i from by omega]
        exact this
/-- behind m rounds nothing grows if the table is stuck -/
theorem itR_end {m : Nat} {g : Nat → Nat → Int} (hg : Ent m g) (hs : Stk m g) {x : Nat} (hx : x < m) : itR m g (m + 1) x ≤ itR m g m x := by
  by_cases h : itR m g m x < itR m g (m + 1) x
  · exfalso
    obtain ⟨W, w0, w1, w2⟩ := grow_walk hx h
    obtain ⟨i, j, hij, hj, e⟩ := pigeon (n := m) (W := W) fun i hi => (w1 i hi).1
    -- on the cycle all arcs are plain
    have one : ∀ p, i ≤ p → p < j → g (W p) (W (p + 1)) = 1 := fun p hp hpj => by
      have h1 := (w2 p (by omega)).1
      have h2 := (hg (W p) (W (p + 1)) (w1 p (by omega)).1 (w1 (p + 1) (by omega)).1).2
      by_cases z : g (W p) (W (p + 1)) = 2
      · exfalso
        have hw : Wlk m g (j - i - 1 + 1) (W i) (W i) 2 fun q => W (i + q) := by
          refine ⟨rfl, by show W (i + (j - i - 1 + 1)) = W i; rw [show i + (j - i - 1 + 1) = j from by omega]; exact e.symm, fun q hq => (w1 (i + q) (by omega)).1, fun q hq => (w2 (i + q) (by omega)).1, .inr ⟨p - i, by omega, ?_⟩⟩
          show 2 ≤ g (W (i + (p - i))) (W (i + (p - i + 1)))
          rw [show i + (p - i) = p from by omega, show i + (p - i + 1) = p + 1 from by omega]
          omega
        have h3 := (pw_walk (by decide) (w1 i (by omega)).1 (w1 i (by omega)).1).mpr ⟨_, hw⟩
        have h4 := (pw_ent hg (j - i - 1) (W i) (W i) (w1 i (by omega)).1 (w1 i (by omega)).1).2
        exact hs (j - i - 1) (W i) (w1 i (by omega)).1 (by omega)
      · omega
    have flat : ∀ q, i + q ≤ j → itR m g (m - i + 1) (W i) = itR m g (m - (i + q) + 1) (W (i + q)) := by
      intro q
      induction q with
      | zero => intro _; rfl
      | succ q ih =>
        intro hq
        rw [ih (by omega)]
        have h1 := (w2 (i + q) (by omega)).2
        rw [one (i + q) (by omega) (by omega)] at h1
        rw [h1, show m - (i + (q + 1)) + 1 = m - (i + q) from by omega]
        show _ = itR m g (m - (i + q)) (W (i + q + 1))
        omega
    have h1 := flat (j - i) (by omega)
    rw [show i + (j - i) = j from by omega, ← e] at h1
    have h2 := (w1 i (by omega)).2
    have h3 := itR_le (g := g) (w1 i (by omega)).1 (show m - j + 1 ≤ m - i by omega)
    omega
  · omega
theorem stk_iff_keeps {m : Nat} {g : Nat → Nat → Int} (hg : Ent m g) : KpT m g (itR m g m) (itR m g m) ↔ Stk m g :=
  ⟨fun h => stk_of_keeps hg h, fun h => (rowA_kp (s := m) (g := g) (b := itR m g m)).mono fun x hx => itR_end hg h hx⟩
end
end DL
/-! Squares, and whether a table is stuck. -/
namespace DL
local macro_rules | `(tactic| walk_at "wp") => `(tactic| simp only [wS, wE, wEs, wO, wAs, wL, wN, wI, wT, wTs, setAll, Tg.slots, wipeE, cmp_eq_int, cmp_ne_int, cmp_eq_str, cmp_ne_str, cmp_eq_tup, cmp_ne_tup, cmp_eq_bl, cmp_lt, cmp_le, cmp_gt, cmp_ge, Kt0_rt, Kt0_nx, List.getElem?_cons_zero, List.getElem?_cons_succ, List.set_cons_zero, List.set_cons_succ, Option.some.injEq, Slot.val.injEq, Slot.own.injEq, MO.lst.injEq, D.int.injEq, D.ref.injEq, D.bl.injEq, D.tup.injEq, D.str.injEq, exists_eq_left', exists_eq_left, exists_and_left, exists_and_right, and_assoc, true_and, and_true, atI_0, atI_1, atI_2, atI_3, atI_4, backs, drps, List.map_cons, List.map_nil, List.length_cons, List.length_nil, List.cons_append, List.nil_append, List.replicate, Nat.reduceAdd, Nat.reduceSub, decide_eq_true_eq, upd_at, aug_add_int, aug_sub_int, aug_mul_int, aug_add_str, ixN5_1, ixN5_2, ixN5_3, Int.toNat_natCast, List.length_map, List.length_range, tg_nm, tg_tp, tru_non, tru_bl, tru_int, tru_str, tru_tup, tru_ref, bin_add_int, bin_add_str, bin_add_tup, bin_sub, bin_mul, bin_fdiv, bin_mod, bin_pow, bin_shl, bin_shr, bin_band, bin_bor, idx_tup, idx_ref, idx_str, blt_len_tup, blt_len_str, blt_len_ref, blt_int_int, blt_int_bl, blt_bool_bl, blt_bool_int, blt_abs, blt_max2, blt_max3, blt_min2, blt_tuple_tup, blt_tuple_ref, blt_isa_non, blt_isa_bl, blt_isa_int, blt_isa_str, blt_isa_tup, isa_int_int, isa_int_bool, isa_bl_bool, isa_tup, isa_str, lk_tuple, lk_len, lk_all, lk_any, lk_sum, it_tup, it_rl, it_ref, zip_tup, enum_tup, enum_ref, eq_self_iff_true, if_true, Bool.false_eq_true, if_false, reduceIte, ss_nil, rev_tup, rev_ref, ty_split, ty_join, ty_append, ty_pop, ty_popAt, ty_reverse, ty_extend, ty_insert, mth_append, mth_pop, mth_popAt, mth_reverse, mth_extend, mth_insert, mth_split, mth_join, cmp_eq_ref, cmp_ne_ref, slc_tup, slc_str, slc_ref, lk_max, lk_min, cmp_lt_str, cmp_is_bl, cmp_not_bl, cmp_is_non, cmp_not_non, cmp_is_tup, cmp_not_tup, cmp_is_int, cmp_not_int, blt_str, blt_maxt, blt_mint, tg_np])
local macro_rules | `(tactic| simp! only [$xs:simpLemma,*]) => `(tactic| simp only [wS, wE, wEs, wO, wAs, wL, wN, wI, wT, wTs, setAll, Tg.slots, wipeE, cmp_eq_int, cmp_ne_int, cmp_eq_str, cmp_ne_str, cmp_eq_tup, cmp_ne_tup, cmp_eq_bl, cmp_lt, cmp_le, cmp_gt, cmp_ge, Kt0_rt, Kt0_nx, List.getElem?_cons_zero, List.getElem?_cons_succ, List.set_cons_zero, List.set_cons_succ, Option.some.injEq, Slot.val.injEq, Slot.own.injEq, MO.lst.injEq, D.int.injEq, D.ref.injEq, D.bl.injEq, D.tup.injEq, D.str.injEq, exists_eq_left', exists_eq_left, exists_and_left, exists_and_right, and_assoc, true_and, and_true, atI_0, atI_1, atI_2, atI_3, atI_4, backs, drps, List.map_cons, List.map_nil, List.length_cons, List.length_nil, List.cons_append, List.nil_append, List.replicate, Nat.reduceAdd, Nat.reduceSub, decide_eq_true_eq, upd_at, aug_add_int, aug_sub_int, aug_mul_int, aug_add_str, ixN5_1, ixN5_2, ixN5_3, Int.toNat_natCast, List.length_map, List.length_range, tg_nm, tg_tp, tru_non, tru_bl, tru_int, tru_str, tru_tup, tru_ref, bin_add_int, bin_add_str, bin_add_tup, bin_sub, bin_mul, bin_fdiv, bin_mod, bin_pow, bin_shl, bin_shr, bin_band, bin_bor, idx_tup, idx_ref, idx_str, blt_len_tup, blt_len_str, blt_len_ref, blt_int_int, blt_int_bl, blt_bool_bl, blt_bool_int, blt_abs, blt_max2, blt_max3, blt_min2, blt_tuple_tup, blt_tuple_ref, blt_isa_non, blt_isa_bl, blt_isa_int, blt_isa_str, blt_isa_tup, isa_int_int, isa_int_bool, isa_bl_bool, isa_tup, isa_str, lk_tuple, lk_len, lk_all, lk_any, lk_sum, it_tup, it_rl, it_ref, zip_tup, enum_tup, enum_ref, eq_self_iff_true, if_true, Bool.false_eq_true, if_false, reduceIte, ss_nil, rev_tup, rev_ref, ty_split, ty_join, ty_append, ty_pop, ty_popAt, ty_reverse, ty_extend, ty_insert, mth_append, mth_pop, mth_popAt, mth_reverse, mth_extend, mth_insert, mth_split, mth_join, cmp_eq_ref, cmp_ne_ref, slc_tup, slc_str, slc_ref, lk_max, lk_min, cmp_lt_str, cmp_is_bl, cmp_not_bl, cmp_is_non, cmp_not_non, cmp_is_tup, cmp_not_tup, cmp_is_int, cmp_not_int, blt_str, blt_maxt, blt_mint, tg_np, $xs,*])
open PySem
section
def d_is_square (f_compose : Nat) : Fn := { name := "is_square", arity := 1, slots := ["table"], body :=
  [(.ret (.cmp .eq (.call f_compose (.cons (.var 0) (.cons (.var 0) .nil))) (.var 0)))] }
def d_own_square (f_is_square : Nat) (f_compose : Nat) : Fn := { name := "own_square", arity := 1, slots := ["table", "times", "found"], body :=
  [(.asg (.nm 1) (.cst (.int 1))),
    (.asg (.nm 2) (.var 0)),
    (.whl (.not (.v (.call f_is_square (.cons (.var 2) .nil)))) [(.asg (.nm 2) (.call f_compose (.cons (.var 2) (.cons (.var 0) .nil)))),
    (.aug 1 .add (.cst (.int 1)))]),
    (.ret (.tup (.cons (.var 1) (.cons (.var 2) .nil))))] }
def d_falling : Fn := { name := "falling", arity := 1, slots := ["table", "x"], body :=
  [(.ret (.lk .tuple (.new (.comp (.var 1) (.nm 1) (.range (.blt .len (.cons (.var 0) .nil))) (some (.v (.cmp .eq (.idx (.idx (.var 0) (.var 1)) (.var 1)) (.cst (.int 2)))))))))] }
def d_is_stuck (f_falling : Nat) (f_own_square : Nat) : Fn := { name := "is_stuck", arity := 1, slots := ["table"], body :=
  [(.ret (.cmp .eq (.blt .len (.cons (.call f_falling (.cons (.idx (.call f_own_square (.cons (.var 0) .nil)) (.cst (.int 1))) .nil)) .nil)) (.cst (.int 0))))] }
def d_word_table (f_compose_all : Nat) : Fn := { name := "word_table", arity := 2, slots := ["web", "word", "move"], body :=
  [(.ret (.call f_compose_all (.cons (.blt .len (.cons (.idx (.var 0) (.cst (.int 0))) .nil)) (.tmp (.comp (.idx (.idx (.idx (.var 0) (.cst (.int 4))) (.var 2)) (.cst (.int 4))) (.nm 2) (.dyn (.var 1)) none) .nil))))] }
def d__law_word_table (f__law_compose : Nat) : Fn := { name := "_law_word_table", arity := 2, slots := ["web", "word", "many", "rows", "x", "found", "move", "y"], body :=
  [(.asg (.nm 2) (.blt .len (.cons (.idx (.var 0) (.cst (.int 0))) .nil))),
    (.asgN 3 (.disp .nil)),
    (.for_ (.nm 4) (.range (.var 2)) [(.app 3 (.lk .tuple (.new (.comp (.blt .int (.cons (.cmp .eq (.var 4) (.var 7)) .nil)) (.nm 7) (.range (.var 2)) none))))]),
    (.asg (.nm 5) (.lk .tuple (.own 3))),
    (.for_ (.nm 6) (.dyn (.var 1)) [(.asg (.nm 5) (.call f__law_compose (.cons (.var 5) (.cons (.idx (.idx (.idx (.var 0) (.cst (.int 4))) (.var 6)) (.cst (.int 4))) .nil))))]),
    (.ret (.var 5))] }
def d__law_stuck (f__law_compose : Nat) : Fn := { name := "_law_stuck", arity := 1, slots := ["table", "met", "found", "x"], body :=
  [(.asg (.nm 1) .dnew),
    (.asg (.nm 2) (.var 0)),
    (.whl (.v (.din true (.var 2) (.var 1))) [(.dset (.var 1) (.var 2) (.cst (.bl true))),
    (.for_ (.nm 3) (.range (.blt .len (.cons (.var 2) .nil))) [(.ite (.v (.cmp .eq (.idx (.idx (.var 2) (.var 3)) (.var 3)) (.cst (.int 2)))) [(.ret (.cst (.bl false)))] [])]),
    (.asg (.nm 2) (.call f__law_compose (.cons (.var 2) (.cons (.var 0) .nil))))]),
    (.ret (.cst (.bl true)))] }
variable {P : List Fn} {n f : Nat} {M : Mem} {Q : QE} {E : QX}
theorem eqvs_map {α : Type} {u v : α → D} : ∀ {l : List α}, D.eqvs (l.map u) (l.map v) = l.all fun x => D.eqv (u x) (v x)
  | [] => rfl
  | x :: l => by rw [List.map_cons, List.map_cons, D.eqvs, List.all_cons, eqvs_map]
theorem eqvs_ints {m : Nat} {r r' : Nat → Int} : D.eqvs ((List.range m).map fun y => .int (r y)) ((List.range m).map fun y => .int (r' y)) = decide (∀ y, y < m → r y = r' y) := by
  rw [eqvs_map, Bool.eq_iff_iff, List.all_eq_true, decide_eq_true_iff]
  simp only [List.mem_range, D.eqv, decide_eq_true_eq]
theorem eqvs_TD {m : Nat} {g h : Nat → Nat → Int} : D.eqvs ((List.range m).map fun x => RD m (g x)) ((List.range m).map fun x => RD m (h x)) = decide (EqT m g h) := by
  rw [eqvs_map, Bool.eq_iff_iff, List.all_eq_true, decide_eq_true_iff]
  simp only [List.mem_range, RD, D.eqv, eqvs_ints, decide_eq_true_eq]
  exact ⟨fun z x y hx hy => z x hx y hy, fun z x hx y hy => z x y hx hy⟩
theorem cmp_eq_TD {m : Nat} {g h : Nat → Nat → Int} {R : Bool → Prop} : wCmp .eq (TD m g) (TD m h) M R = R (decide (EqT m g h)) := by
  have h1 := TD_flat (n := m) (g := g)
  have h2 := TD_flat (n := m) (g := h)
  rw [TD] at h1 h2
  rw [TD, TD, cmp_eq_tup, eqvs_TD]
  simp [h1, h2]
theorem kts_all : ∀ {k : Nat} {xs : List D}, (∀ x ∈ xs, D.kt k x = true) → D.kts k xs = true
  | _, [], _ => by rw [D.kts]
  | k, x :: xs, h => by rw [D.kts, h x List.mem_cons_self, kts_all fun y hy => h y (List.mem_cons_of_mem _ hy)]; rfl
theorem kt_RD {m k : Nat} {r : Nat → Int} : D.kt (k + 1) (RD m r) = true := by
  rw [RD, D.kt]
  refine kts_all fun x hx => ?_
  obtain ⟨i, _, rfl⟩ := List.mem_map.mp hx
  cases k <;> simp [D.kt]
theorem kt_TD {m k : Nat} {g : Nat → Nat → Int} : D.kt (k + 2) (TD m g) = true := by
  rw [TD, D.kt]
  refine kts_all fun x hx => ?_
  obtain ⟨i, _, rfl⟩ := List.mem_map.mp hx
  exact kt_RD
theorem TD_key {m : Nat} {g : Nat → Nat → Int} : (TD m g).keyOk = true := kt_TD (k := 6)
theorem TD_plain {m : Nat} {g : Nat → Nat → Int} : (TD m g).plain = false := rfl
theorem RD_key {m : Nat} {r : Nat → Int} : (RD m r).keyOk = true := kt_RD (k := 7)
theorem RD_plain {m : Nat} {r : Nat → Int} : (RD m r).plain = false := rfl
theorem dget_none {es : List (D × D)} {k : D} (h : ∀ p ∈ es, p.1 ≠ k) : dget es k = none := by
  induction es with
  | nil => rfl
  | cons p es ih =>
    obtain ⟨a, b⟩ := p
    rw [dget_cons_ne (h (a, b) List.mem_cons_self)]
    exact ih fun q hq => h q (List.mem_cons_of_mem _ hq)
theorem dget_range_none {k : Nat} {u v : Nat → D} {key : D} (h : ∀ i, i < k → u i ≠ key) : dget ((List.range k).map fun i => (u i, v i)) key = none := dget_none fun p hp => by
  obtain ⟨i, hi, rfl⟩ := List.mem_map.mp hp
  exact h i (List.mem_range.mp hi)
theorem dget_range_some {u v : Nat → D} {key : D} {j : Nat} : ∀ {k : Nat}, j < k → u j = key → (∀ i, i < j → u i ≠ key) → dget ((List.range k).map fun i => (u i, v i)) key = some (v j)
  | 0, h, _, _ => absurd h (by omega)
  | k + 1, h, e, hn => by
    rw [List.range_succ, List.map_append, dget_append]
    by_cases z : j = k
    · subst z
      rw [dget_range_none hn]
      simp only [List.map_cons, List.map_nil]
      rw [← e, dget_cons_eq]; rfl
    · rw [dget_range_some (by omega) e hn]; rfl
/-- a while loop by counted rounds -/
theorem whl_at {F : FS} {K : Kt} {env : Env} {c : IT} {b : List IS} (hF : FMono F) (I : Nat → Env → Mem → Prop) (B : Nat) (h0 : I 0 env M) (hB : ∀ k e m, I k e m → k ≤ B)
    (step : ∀ k e m, I k e m → wT F c e m (fun t M1 => if t = true then wSs F b e M1 { K with nx := I (k + 1), ct := I (k + 1), bk := K.nx } else K.nx e M1) fun x m' => K.xc x e m') : wS F (.whl c b) env M K := by
  rw [wS]
  refine ⟨fun x e M => ∃ k, x = B - k ∧ I k e M, ⟨B - 0, 0, rfl, h0⟩, fun x e m hW => ?_⟩
  obtain ⟨k, rfl, hI⟩ := hW
  refine wT_mono hF c (fun t M1 z => ?_) (fun _ _ z => z) (step k e m hI)
  cases t with
  | false => exact z
  | true =>
    have go : ∀ e' M', I (k + 1) e' M' → ∃ m', m' < B - k ∧ ∃ k, m' = B - k ∧ I k e' M' := fun e' M' hI' => by
      have := hB _ _ _ hI'
      exact ⟨B - (k + 1), by omega, k + 1, rfl, hI'⟩
    rw [if_pos rfl] at z ⊢
    refine wSs_mono hF b ?_ z
    exact ⟨go, fun _ _ z => z, fun _ _ z => z, go, fun _ _ _ z => z⟩
theorem cyc_exists {m : Nat} {g : Nat → Nat → Int} (hg : Ent m g) (hm : m ≤ 9) : ∃ f L, Cyc m g f L ∧ L ≤ 420000 := by
  have scan : ∀ n : Nat, (∃ L, L ≤ n ∧ ∃ f, Cyc m g f L) ∨ ∀ i j, i < j → j ≤ n → ¬ EqT m (pw m g i) (pw m g j) := by
    intro n
    induction n with
    | zero => exact .inr fun i j h1 h2 => absurd h1 (by omega)
    | succ n ih =>
      rcases ih with ⟨L, hL, h⟩ | h
      · exact .inl ⟨L, by omega, h⟩
      · by_cases e : ∃ i, i < n + 1 ∧ EqT m (pw m g i) (pw m g (n + 1))
        · obtain ⟨i, hi, e⟩ := e
          exact .inl ⟨n + 1, Nat.le_refl _, i, hi, e.sym, fun a b h1 h2 => h a b h1 (by omega)⟩
        · refine .inr fun i j h1 h2 z => ?_
          by_cases e2 : j = n + 1
          · subst e2; exact e ⟨i, h1, z⟩
          · exact h i j h1 (by omega) z
  obtain ⟨i, j, h1, h2, e⟩ := pw_again hg hm
  rcases scan 420000 with ⟨L, hL, f, h⟩ | h
  · exact ⟨f, L, h, hL⟩
  · exact absurd e (h i j h1 h2)
theorem is_square_ok {fc fr : Nat} (hf : P[f]? = some (d_is_square fc)) (hc : P[fc]? = some (d_compose fr)) (hr : P[fr]? = some d_composed_row) {m : Nat} (hm : m < 1000) {g : Nat → Nat → Int} (g0 : ∀ x y, x < m → y < m → 0 ≤ g x y) (q : Q (.bl (decide (EqT m (comp m g g) g))) M) : wFn P (n + 3) f [TD m g] M Q E := by
  refine enter hf rfl ?_
  simp only [d_is_square]
  rw [ss_cons]
  walk_at "wp"
  refine compose_ok hc hr hm g0 ?_
  simp! only [cmp_eq_TD]
  exact leave q
theorem own_square_ok {fs fc fr : Nat} (hf : P[f]? = some (d_own_square fs fc)) (hs : P[fs]? = some (d_is_square fc)) (hc : P[fc]? = some (d_compose fr)) (hr : P[fr]? = some d_composed_row) {m : Nat} (hm : m < 1000) {g : Nat → Nat → Int} (hg : Ent m g) {f' L : Nat} (c : Cyc m g f' L) (q : Q (.tup [.int (Cyc.times f' L : Nat), TD m (pw m g (Cyc.times f' L - 1))]) M) : wFn P (n + 4) f [TD m g] M Q E := by
  obtain ⟨t1, t2, t3⟩ := c.times_pos
  refine enter hf rfl ?_
  simp only [d_own_square]
  (rw [ss_cons]; walk_at "wp")
  (rw [ss_cons]; walk_at "wp")
  rw [ss_cons]
  refine whl_at mF (fun k e M' => M' = M ∧ k ≤ Cyc.times f' L - 1 ∧ e = [.val (TD m g), .val (.int ((k + 1 : Nat) : Int)), .val (TD m (pw m g k))]) (Cyc.times f' L) ⟨rfl, Nat.zero_le _, rfl⟩ (fun k e m' hI => by have := hI.2.1; omega) (fun k e M' hI => ?_)
  obtain ⟨rfl, hk, rfl⟩ := hI
  walk_at "wp"
  refine is_square_ok hs hc hr hm (pw_ent hg k).nonneg ?_
  (try walk_at "wp")
  by_cases e : EqT m (comp m (pw m g k) (pw m g k)) (pw m g k)
  · rw [decide_eq_true e]
    have hkt : k = Cyc.times f' L - 1 := by
      by_cases z : k + 1 < Cyc.times f' L
      · exact absurd e (c.times_least z)
      · omega
    simp! only [Bool.not_true, Bool.not_false, Bool.true_eq_false, Bool.not_eq_true', Bool.not_eq_false', decide_eq_false_iff_not]
    (rw [ss_cons]; walk_at "wp")
    subst hkt
    rw [show Cyc.times f' L - 1 + 1 = Cyc.times f' L from by omega]
    exact ⟨by decide, leave q⟩
  · rw [decide_eq_false e]
    have hkt : k ≠ Cyc.times f' L - 1 := fun z => by subst z; exact e c.times_sq
    simp! only [Bool.not_true, Bool.not_false, Bool.true_eq_false, Bool.not_eq_true', Bool.not_eq_false', decide_eq_false_iff_not]
    (rw [ss_cons]; walk_at "wp")
    refine compose_ok hc hr hm (pw_ent hg k).nonneg ?_
    (try walk_at "wp")
    (rw [ss_cons]; walk_at "wp")
    exact ⟨by omega, rfl⟩
theorem falling_ok (hf : P[f]? = some d_falling) {m : Nat} (hm : m < 1000) {g : Nat → Nat → Int} (q : Q (.tup (((List.range m).filter fun x => decide (g x x = 2)).map fun (x : Nat) => .int (x : Int))) M) : wFn P (n + 1) f [TD m g] M Q E := by
  refine enter hf rfl ?_
  simp only [d_falling]
  rw [ss_cons]
  simp! only [len_TD]
  refine ⟨by omega, by omega, small_line (by simpa using hm), cmpr_filtG (fun x : Nat => decide (g x x = 2)) (fun x => .int (x : Int)) (fun x => .int (x : Int)) trivial (fun x hx R hR => ?_) ?_⟩
  · have hx := List.mem_range.mp hx
    simp! only [idx_TD hx, idx_RD hx]
    exact ite_some hR
  · (try walk_at "wp")
    exact leave q
theorem fall_nil {m : Nat} {g : Nat → Nat → Int} : ((List.range m).filter fun x => decide (g x x = 2)) = [] ↔ ∀ x, x < m → g x x ≠ 2 := by
  rw [List.filter_eq_nil_iff]
  simp only [List.mem_range, decide_eq_true_eq]
theorem is_stuck_ok {ff fo fs fc fr : Nat} (hf : P[f]? = some (d_is_stuck ff fo)) (hff : P[ff]? = some d_falling) (hfo : P[fo]? = some (d_own_square fs fc)) (hs : P[fs]? = some (d_is_square fc)) (hc : P[fc]? = some (d_compose fr)) (hr : P[fr]? = some d_composed_row) {m : Nat} (hm : m ≤ 9) {g : Nat → Nat → Int} (hg : Ent m g) (q : ∀ b, (b = true ↔ Stk m g) → Q (.bl b) M) : wFn P (n + 5) f [TD m g] M Q E := by
  obtain ⟨f', L, c, hL⟩ := cyc_exists hg hm
  refine enter hf rfl ?_
  simp only [d_is_stuck]
  rw [ss_cons]
  walk_at "wp"
  refine own_square_ok hfo hs hc hr (by omega) hg c ?_
  (try walk_at "wp")
  refine falling_ok hff (by omega) ?_
  (try walk_at "wp")
  refine leave (q _ ?_)
  rw [← c.stk_iff hg, ← fall_nil]
  simp [List.length_eq_zero_iff]
theorem law_stuck_ok {fc : Nat} (hf : P[f]? = some (d__law_stuck fc)) (hc : P[fc]? = some d__law_compose) {m : Nat} (hm : m ≤ 9) {g : Nat → Nat → Int} (hg : Ent m g) (q : ∀ b, (b = true ↔ Stk m g) → Q (.bl b) M) : wFn P (n + 2) f [TD m g] M Q E := by
  obtain ⟨f', L, c, hL⟩ := cyc_exists hg hm
  have hlt := c.lt
  refine enter hf rfl ?_
  simp only [d__law_stuck]
  rw [ss_cons]
  walk_at "wp"
  intro p hp
  (rw [ss_cons]; walk_at "wp")
  rw [ss_cons]
  have keys : ∀ k : Nat, DkOk ((List.range k).map fun i => (TD m (pw m g i), D.bl true)) (TD m (pw m g k)) := fun k => .of TD_key fun p hp => by
    obtain ⟨i, _, rfl⟩ := List.mem_map.mp hp
    exact ⟨TD_key, rfl⟩
  refine whl_at mF (fun k e M' => Sub M M' ∧ k ≤ L ∧ (∀ i, i < k → ∀ x, x < m → pw m g i x x ≠ 2) ∧ M' p = some (.dct ((List.range k).map fun i => (TD m (pw m g i), D.bl true))) ∧ ∃ s3, e = [.val (TD m g), .val (.ref p), .val (TD m (pw m g k)), s3]) L
    ⟨(Sub.rf M).upd' hp, Nat.zero_le _, (fun i hi => absurd hi (by omega)), upd_at, _, rfl⟩ (fun k e m' hI => hI.2.1) (fun k e M' hI => ?_)
  obtain ⟨sb, hk, hno, hmp, s3, rfl⟩ := hI
  simp! only [hmp, MO.dct.injEq]
  refine ⟨keys k, ?_⟩
  by_cases e : k = L
  · subst e
    rw [dget_range_some (j := f') (v := fun _ => D.bl true) hlt (TD_congr c.same).symm (fun i hi z => c.unl i f' hi hlt (TD_inj (z.trans (TD_congr c.same))))]
    simp only [Option.isSome, bne_self_eq_false, wS, wE, wEs, wO, wAs, wL, wN, wI, wT, wTs, setAll, Tg.slots, wipeE, cmp_eq_int, cmp_ne_int, cmp_eq_str, cmp_ne_str, cmp_eq_tup, cmp_ne_tup, cmp_eq_bl, cmp_lt, cmp_le, cmp_gt, cmp_ge, Kt0_rt, Kt0_nx, List.getElem?_cons_zero, List.getElem?_cons_succ, List.set_cons_zero, List.set_cons_succ, Option.some.injEq, Slot.val.injEq, Slot.own.injEq, MO.lst.injEq, D.int.injEq, D.ref.injEq, D.bl.injEq, D.tup.injEq, D.str.injEq, exists_eq_left', exists_eq_left, exists_and_left, exists_and_right, and_assoc, true_and, and_true, atI_0, atI_1, atI_2, atI_3, atI_4, backs, drps, List.map_cons, List.map_nil, List.length_cons, List.length_nil, List.cons_append, List.nil_append, List.replicate, Nat.reduceAdd, Nat.reduceSub, decide_eq_true_eq, upd_at, aug_add_int, aug_sub_int, aug_mul_int, aug_add_str, ixN5_1, ixN5_2, ixN5_3, Int.toNat_natCast, List.length_map, List.length_range, tg_nm, tg_tp, tru_non, tru_bl, tru_int, tru_str, tru_tup, tru_ref, bin_add_int, bin_add_str, bin_add_tup, bin_sub, bin_mul, bin_fdiv, bin_mod, bin_pow, bin_shl, bin_shr, bin_band, bin_bor, idx_tup, idx_ref, idx_str, blt_len_tup, blt_len_str, blt_len_ref, blt_int_int, blt_int_bl, blt_bool_bl, blt_bool_int, blt_abs, blt_max2, blt_max3, blt_min2, blt_tuple_tup, blt_tuple_ref, blt_isa_non, blt_isa_bl, blt_isa_int, blt_isa_str, blt_isa_tup, isa_int_int, isa_int_bool, isa_bl_bool, isa_tup, isa_str, lk_tuple, lk_len, lk_all, lk_any, lk_sum, it_tup, it_rl, it_ref, zip_tup, enum_tup, enum_ref, eq_self_iff_true, if_true, Bool.false_eq_true, if_false, reduceIte, ss_nil, rev_tup, rev_ref, ty_split, ty_join, ty_append, ty_pop, ty_popAt, ty_reverse, ty_extend, ty_insert, mth_append, mth_pop, mth_popAt, mth_reverse, mth_extend, mth_insert, mth_split, mth_join, cmp_eq_ref, cmp_ne_ref, slc_tup, slc_str, slc_ref, lk_max, lk_min, cmp_lt_str, cmp_is_bl, cmp_not_bl, cmp_is_non, cmp_not_non, cmp_is_tup, cmp_not_tup, cmp_is_int, cmp_not_int, blt_str, blt_maxt, blt_mint, tg_np]
    (rw [ss_cons]; walk_at "wp")
    exact ⟨M, sb, q true ⟨fun _ => c.stk_of hno, fun _ => rfl⟩⟩
  · have hget : dget ((List.range k).map fun i => (TD m (pw m g i), D.bl true)) (TD m (pw m g k)) = none := dget_range_none (v := fun _ => D.bl true) fun i hi z => c.unl i k hi (by omega) (TD_inj z)
    rw [hget]
    simp only [Option.isSome, Bool.bne_false, wS, wE, wEs, wO, wAs, wL, wN, wI, wT, wTs, setAll, Tg.slots, wipeE, cmp_eq_int, cmp_ne_int, cmp_eq_str, cmp_ne_str, cmp_eq_tup, cmp_ne_tup, cmp_eq_bl, cmp_lt, cmp_le, cmp_gt, cmp_ge, Kt0_rt, Kt0_nx, List.getElem?_cons_zero, List.getElem?_cons_succ, List.set_cons_zero, List.set_cons_succ, Option.some.injEq, Slot.val.injEq, Slot.own.injEq, MO.lst.injEq, D.int.injEq, D.ref.injEq, D.bl.injEq, D.tup.injEq, D.str.injEq, exists_eq_left', exists_eq_left, exists_and_left, exists_and_right, and_assoc, true_and, and_true, atI_0, atI_1, atI_2, atI_3, atI_4, backs, drps, List.map_cons, List.map_nil, List.length_cons, List.length_nil, List.cons_append, List.nil_append, List.replicate, Nat.reduceAdd, Nat.reduceSub, decide_eq_true_eq, upd_at, aug_add_int, aug_sub_int, aug_mul_int, aug_add_str, ixN5_1, ixN5_2, ixN5_3, Int.toNat_natCast, List.length_map, List.length_range, tg_nm, tg_tp, tru_non, tru_bl, tru_int, tru_str, tru_tup, tru_ref, bin_add_int, bin_add_str, bin_add_tup, bin_sub, bin_mul, bin_fdiv, bin_mod, bin_pow, bin_shl, bin_shr, bin_band, bin_bor, idx_tup, idx_ref, idx_str, blt_len_tup, blt_len_str, blt_len_ref, blt_int_int, blt_int_bl, blt_bool_bl, blt_bool_int, blt_abs, blt_max2, blt_max3, blt_min2, blt_tuple_tup, blt_tuple_ref, blt_isa_non, blt_isa_bl, blt_isa_int, blt_isa_str, blt_isa_tup, isa_int_int, isa_int_bool, isa_bl_bool, isa_tup, isa_str, lk_tuple, lk_len, lk_all, lk_any, lk_sum, it_tup, it_rl, it_ref, zip_tup, enum_tup, enum_ref, eq_self_iff_true, if_true, Bool.false_eq_true, if_false, reduceIte, ss_nil, rev_tup, rev_ref, ty_split, ty_join, ty_append, ty_pop, ty_popAt, ty_reverse, ty_extend, ty_insert, mth_append, mth_pop, mth_popAt, mth_reverse, mth_extend, mth_insert, mth_split, mth_join, cmp_eq_ref, cmp_ne_ref, slc_tup, slc_str, slc_ref, lk_max, lk_min, cmp_lt_str, cmp_is_bl, cmp_not_bl, cmp_is_non, cmp_not_non, cmp_is_tup, cmp_not_tup, cmp_is_int, cmp_not_int, blt_str, blt_maxt, blt_mint, tg_np]
    rw [ss_cons]
    simp! only [hmp, MO.dct.injEq]
    refine ⟨keys k, ?_, ?_⟩
    · exact Nat.lt_of_lt_of_le (show k < 420001 by omega) (by decide)
    rw [dput_new hget]
    rw [ss_cons]
    simp! only [len_TD]
    refine ⟨by omega, by omega, ?_⟩
    have sb2 : Sub M (upd M' p (.dct ((List.range k).map (fun i => (TD m (pw m g i), D.bl true)) ++ [(TD m (pw m g k), D.bl true)]))) := sb.upd2 hp
    refine for_range mF (fun x e M2 => M2 = upd M' p (.dct ((List.range k).map (fun i => (TD m (pw m g i), D.bl true)) ++ [(TD m (pw m g k), D.bl true)])) ∧ (∀ y, y < x → pw m g k y y ≠ 2) ∧ ∃ s3, e = [.val (TD m g), .val (.ref p), .val (TD m (pw m g k)), s3]) ⟨rfl, (fun i hi => absurd hi (by omega)), _, rfl⟩ (fun _ _ _ _ => trivial) (fun e M2 hI => ?_) (fun x e M2 hx hI => ?_)
    · obtain ⟨rfl, hd, s3, rfl⟩ := hI
      (try walk_at "wp")
      (rw [ss_cons]; walk_at "wp")
      refine law_compose_ok hc (by omega) ?_
      (try walk_at "wp")
      refine ⟨sb2, by omega, fun i hi x hx => ?_, ?_, _, rfl⟩
      · by_cases z : i = k
        · subst z; exact hd x hx
        · exact hno i (by omega) x hx
      · rw [List.range_succ, List.map_append]; rfl
    · obtain ⟨rfl, hd, s3, rfl⟩ := hI
      (try walk_at "wp")
      rw [ss_cons]
      simp! only [idx_TD hx, idx_RD hx]
      split
      · rename_i h2
        (rw [ss_cons]; walk_at "wp")
        exact ⟨M, sb2, q false ⟨fun z => (nomatch z), fun z => absurd h2 (z k x hx)⟩⟩
      · rename_i h2
        refine ⟨fun y hy => ?_, _, rfl⟩
        by_cases z : y = x
        · subst z; exact h2
        · exact hd y (by omega)
/-! the table of a word -/
def wtab (w : Wb) (ks : List Nat) : Nat → Nat → Int := (ks.map (tbN w)).foldl (comp w.sizes.length) idm
theorem idm_ent {m : Nat} : Ent m idm := fun x y _ _ => by unfold idm; split <;> decide
theorem fold_ent {m : Nat} : ∀ {gs : List (Nat → Nat → Int)} {a : Nat → Nat → Int}, (∀ g ∈ gs, Ent m g) → Ent m a → Ent m (gs.foldl (comp m) a)
  | [], a, _, ha => ha
  | g :: gs, a, hg, ha => fold_ent (gs := gs) (a := comp m a g) (fun h hh => hg h (List.mem_cons_of_mem _ hh)) (comp_ent ha (hg g List.mem_cons_self))
theorem wtab_ent {w : Wb} (hw : WbOk w) {ks : List Nat} (hk : WordOk w ks) : Ent w.sizes.length (wtab w ks) := fold_ent (fun g hg => by
  obtain ⟨j, hj, rfl⟩ := List.mem_map.mp hg
  rw [tbN_eq (hk j hj)]
  exact (hw.moves _ (List.getElem_mem (hk j hj))).tb) idm_ent
theorem wtab_append {w : Wb} (hw : WbOk w) {ks js : List Nat} (hk : WordOk w ks) (hj : WordOk w js) : EqT w.sizes.length (wtab w (ks ++ js)) (comp w.sizes.length (wtab w ks) (wtab w js)) := fun x z hx hz => by
  have nn : ∀ {ls : List Nat}, WordOk w ls → ∀ g ∈ ls.map (tbN w), ∀ x y, x < w.sizes.length → y < w.sizes.length → 0 ≤ g x y := fun hl g hg => by
    obtain ⟨j, hj, rfl⟩ := List.mem_map.mp hg
    rw [tbN_eq (hl j hj)]
    exact (hw.moves _ (List.getElem_mem (hl j hj))).tb.nonneg
  have h1 := (wtab_ent hw hk).nonneg
  unfold wtab at h1 ⊢
  rw [List.map_append, List.foldl_append, fold_eq (nn hj) h1 x z hx hz]
  refine comp_congr EqT.rfl' (fun x y hx hy => ?_) hx hz
  rw [fold_eq (nn hj) idm_ent.nonneg x y hx hy, comp_idl _ hx hy]
  intro x y hx hy
  cases js with
  | nil => exact idm_ent.nonneg x y hx hy
  | cons j js => exact comp_nonneg
theorem compose_all_ref_ok {fi fc fr : Nat} (hf : P[f]? = some (d_compose_all fi fc)) (hi : P[fi]? = some d_identity) (hc : P[fc]? = some (d_compose fr)) (hr : P[fr]? = some d_composed_row) {m : Nat} (hm : m < 1000) {gs : List (Nat → Nat → Int)} {p : Nat} (hp : M p = some (.lst (gs.map (TD m)))) (q : Q (TD m (gs.foldl (comp m) idm)) M) : wFn P (n + 3) f [.int m, .ref p] M Q E := by
  refine enter hf rfl ?_
  simp only [d_compose_all]
  rw [ss_cons]
  walk_at "wp"
  refine identity_ok hi hm ?_
  rw [ss_cons]
  simp! only [hp]
  refine for_at mF (fun k e M' => M' = M ∧ ∃ s3, e = [.val (.int m), .val (.ref p), .val (TD m ((gs.take k).foldl (comp m) idm)), s3]) ⟨rfl, .no, rfl⟩ (fun k e M' hI => by rw [hI.1]; exact hp) (fun e M' hI => ?_) (fun k x e M' hx hI => ?_)
  · obtain ⟨rfl, s3, rfl⟩ := hI
    rw [List.length_map, List.take_length]
    (try walk_at "wp")
    (rw [ss_cons]; walk_at "wp")
    exact leave q
  · obtain ⟨rfl, s3, rfl⟩ := hI
    rw [List.getElem?_map] at hx
    obtain ⟨g, hg, rfl⟩ := Option.map_eq_some_iff.mp hx
    (try walk_at "wp")
    (rw [ss_cons]; walk_at "wp")
    have nn : ∀ x y, x < m → y < m → 0 ≤ (gs.take k).foldl (comp m) idm x y := by
      intro x y _ _
      rcases List.eq_nil_or_concat (gs.take k) with e | ⟨l, b, e⟩
      · rw [e]; simp [idm]; split <;> decide
      · rw [e, List.concat_eq_append, List.foldl_append]; exact comp_nonneg
    refine compose_ok hc hr hm nn ?_
    rw [List.take_add_one, hg]
    simp only [Option.toList, List.foldl_append, List.foldl_cons, List.foldl_nil]
    exact ⟨trivial, _, rfl⟩
theorem word_table_ok {fa fi fc fr : Nat} (hf : P[f]? = some (d_word_table fa)) (ha : P[fa]? = some (d_compose_all fi fc)) (hi : P[fi]? = some d_identity) (hc : P[fc]? = some (d_compose fr)) (hr : P[fr]? = some d_composed_row) {w : Wb} (hs : w.sizes.length < 1000) {ks : List Nat} (hk : WordOk w ks) (hkl : ks.length < 1000) (q : Q (TD w.sizes.length (wtab w ks)) M) : wFn P (n + 4) f [WD w, WoD ks] M Q E := by
  refine enter hf rfl ?_
  simp only [d_word_table]
  rw [ss_cons]
  simp! only [idx_WD0, it_Wo]
  refine ⟨small_line (by omega), cmpr_mapG (fun (k : Nat) => .int (k : Int)) (fun k => TD w.sizes.length (tbN w k)) trivial (fun k hkm R hR => ?_) fun p hp => ?_⟩
  · have := hk k hkm
    simp! only [idx_WD4, mv_get this, idx_MvD4]
    rw [← tbN_eq this]; exact hR
  · rw [show ks.map (fun k => TD w.sizes.length (tbN w k)) = (ks.map (tbN w)).map (TD w.sizes.length) from by rw [List.map_map]; rfl]
    refine compose_all_ref_ok ha hi hc hr hs upd_at ?_
    (try walk_at "wp")
    rw [drp_upd hp]
    exact leave q
theorem law_word_table_ok {fc : Nat} (hf : P[f]? = some (d__law_word_table fc)) (hc : P[fc]? = some d__law_compose) {w : Wb} (hs : w.sizes.length < 1000) {ks : List Nat} (hk : WordOk w ks) (q : Q (TD w.sizes.length (wtab w ks)) M) : wFn P (n + 2) f [WD w, WoD ks] M Q E := by
  refine enter hf rfl ?_
  simp only [d__law_word_table]
  rw [ss_cons]
  simp! only [idx_WD0]
  (rw [ss_cons]; walk_at "wp")
  refine ⟨by decide, fun p hp => ?_⟩
  (rw [ss_cons]; walk_at "wp")
  refine ⟨by omega, by omega, ?_⟩
  refine for_range mF (fun k e M' => M' = M ∧ k ≤ w.sizes.length ∧ ∃ s4 s5 s6 s7, e = [.val (WD w), .val (WoD ks), .val (.int (w.sizes.length : Int)), .own p (.lst ((List.range k).map fun x => RD w.sizes.length (idm x))), s4, s5, s6, s7]) ⟨rfl, Nat.zero_le _, _, _, _, _, rfl⟩ (fun _ _ _ _ => trivial) (fun e M' hI => ?_) (fun k e M' hk' hI => ?_)
  · obtain ⟨rfl, _, s4, s5, s6, s7, rfl⟩ := hI
    (try walk_at "wp")
    (rw [ss_cons]; walk_at "wp")
    rw [ss_cons]
    simp! only [it_Wo']
    change wFor _ _ _ [_, _, _, _, _, .val (TD w.sizes.length idm), _, _] _ _
    refine for_rangeU mF (fun k e M2 => M2 = M' ∧ ∃ s4 s6 s7, e = [.val (WD w), .val (WoD ks), .val (.int (w.sizes.length : Int)), .own p (.lst ((List.range w.sizes.length).map fun x => RD w.sizes.length (idm x))), s4, .val (TD w.sizes.length (wtab w (ks.take k))), s6, s7]) ⟨rfl, _, _, _, rfl⟩ (fun _ _ _ _ => trivial) (fun e M' hI => ?_) (fun k e M' hk' hI => ?_)
    · obtain ⟨rfl, s4, s6, s7, rfl⟩ := hI
      (try walk_at "wp")
      (rw [ss_cons]; walk_at "wp")
      rw [List.take_length]
      exact leave q
    · obtain ⟨rfl, s4, s6, s7, rfl⟩ := hI
      have hmv := hk.at hk'
      (try walk_at "wp")
      rw [ss_cons]
      simp! only [idx_WD4, mv_get hmv, idx_MvD4]
      rw [← tbN_eq hmv]
      refine law_compose_ok hc hs ?_
      (try walk_at "wp")
      rw [show comp w.sizes.length (wtab w (ks.take k)) (tbN w (ks.getD k 0)) = wtab w (ks.take (k + 1)) from by
        unfold wtab
        rw [List.take_add_one, List.getElem?_eq_getElem hk', getD_at hk', List.map_append, List.foldl_append]
        rfl]
      exact ⟨_, _, _, rfl⟩
  · obtain ⟨rfl, _, s4, s5, s6, s7, rfl⟩ := hI
    (try walk_at "wp")
    (rw [ss_cons]; walk_at "wp")
    refine ⟨by omega, by omega, small_line (by omega), ?_⟩
    have es : (List.range k).map (fun x => RD w.sizes.length (idm x)) ++ [D.tup ((List.range w.sizes.length).map fun y => D.int (idm k y))] = (List.range (k + 1)).map fun x => RD w.sizes.length (idm x) := range_snoc (g := fun x => RD w.sizes.length (idm x))
    refine cmpr_range (fun x => .int x) (fun y => .int (idm k y)) trivial (fun y hy R hR => ?_) (by rw [es]; exact ⟨Nat.lt_of_lt_of_le (Nat.lt_trans hk' (show w.sizes.length < 1000 from hs)) (by decide), rfl, by omega, _, _, _, _, rfl⟩)
    (try walk_at "wp")
    have e : (if (k : Int) = (y : Int) then (1 : Int) else 0) = idm k y := by
      unfold idm
      by_cases h : k = y
      · simp [h]
      · rw [if_neg h, if_neg (by omega)]
    rw [e]
    exact hR
end
end DL
/-! Rows along a word with a floor, and what comes back. -/
namespace DL
open PySem
section
def lstM (v : Int) (gx b : Nat → Int) : Nat → Int
  | 0 => v
  | y + 1 => if 0 < gx y then max (lstM v gx b y) (b y + gx y - 1) else lstM v gx b y
theorem lstM_zero {gx b : Nat → Int} : ∀ {n : Nat}, lstM 0 gx b n = lstN gx b n
  | 0 => rfl
  | n + 1 => by rw [lstM, lstN, lstM_zero]
theorem lstM_floor {v : Int} {gx b : Nat → Int} : ∀ {n : Nat}, v ≤ lstM v gx b n
  | 0 => Int.le_refl _
  | n + 1 => by
    have := lstM_floor (v := v) (gx := gx) (b := b) (n := n)
    rw [lstM]; split <;> omega
theorem lstM_ge {v : Int} {gx b : Nat → Int} : ∀ {n y : Nat}, y < n → 0 < gx y → b y + gx y - 1 ≤ lstM v gx b n
  | n + 1, y, h, h0 => by
    rw [lstM]
    by_cases e : y = n
    · subst e; rw [if_pos h0]; exact Int.le_max_right _ _
    · have ih := lstM_ge (v := v) (n := n) (y := y) (gx := gx) (b := b) (by omega) h0
      split
      · exact Int.le_trans ih (Int.le_max_left _ _)
      · exact ih
theorem lstM_pick {v : Int} {gx b : Nat → Int} : ∀ {n : Nat}, lstM v gx b n = v ∨ ∃ y, y < n ∧ 0 < gx y ∧ lstM v gx b n = b y + gx y - 1
  | 0 => .inl rfl
  | n + 1 => by
    have ih := lstM_pick (v := v) (gx := gx) (b := b) (n := n)
    rw [lstM]
    split
    · rename_i hg
      by_cases e : lstM v gx b n ≤ b n + gx n - 1
      · exact .inr ⟨n, by omega, hg, by omega⟩
      · rcases ih with z | ⟨y, hy, h1, h2⟩
        · exact .inl (by omega)
        · exact .inr ⟨y, by omega, h1, by omega⟩
    · rcases ih with z | ⟨y, hy, h1, h2⟩
      · exact .inl z
      · exact .inr ⟨y, by omega, h1, h2⟩
def rowM (s : Nat) (low : Nat → Int) (g : Nat → Nat → Int) (b : Nat → Int) : Nat → Int := fun x => lstM (low x) (g x) b s
/-- what a row of floors and arcs makes of a row -/
structure MOp (s : Nat) (F : (Nat → Int) → Nat → Int) (lo : Nat → Int) (A : Nat → Nat → Int → Prop) : Prop where
  floor : ∀ b x, x < s → lo x ≤ F b x
  ge : ∀ b x y c, x < s → A x y c → b y + c ≤ F b x
  pick : ∀ b x, x < s → F b x = lo x ∨ ∃ y c, A x y c ∧ F b x = b y + c
  dom : ∀ x y c, A x y c → y < s ∧ 0 ≤ c
theorem MOp.mono {s : Nat} {F : (Nat → Int) → Nat → Int} {lo : Nat → Int} {A : Nat → Nat → Int → Prop} (h : MOp s F lo A) {b b' : Nat → Int} (hb : ∀ y, y < s → b y ≤ b' y) (x : Nat) (hx : x < s) : F b x ≤ F b' x := by
  rcases h.pick b x hx with e | ⟨y, c, hA, e⟩
  · rw [e]; exact h.floor b' x hx
  · have h1 := h.ge b' x y c hx hA
    have h2 := hb y (h.dom x y c hA).1
    omega
theorem MOp.congr {s : Nat} {F : (Nat → Int) → Nat → Int} {lo : Nat → Int} {A : Nat → Nat → Int → Prop} (h : MOp s F lo A) {b b' : Nat → Int} (hb : ∀ y, y < s → b y = b' y) (x : Nat) (hx : x < s) : F b x = F b' x := by
  have h1 := h.mono (fun y hy => Int.le_of_eq (hb y hy)) x hx
  have h2 := h.mono (fun y hy => Int.le_of_eq (hb y hy).symm) x hx
  omega
theorem rowM_op {s : Nat} {low : Nat → Int} {g : Nat → Nat → Int} : MOp s (rowM s low g) low fun x y c => y < s ∧ 0 < g x y ∧ c = g x y - 1 where
  floor b x hx := lstM_floor
  ge b x y c hx := fun ⟨hy, h0, e⟩ => by
    have := lstM_ge (v := low x) (gx := g x) (b := b) hy h0
    show b y + c ≤ lstM (low x) (g x) b s
    omega
  pick b x hx := by
    rcases lstM_pick (v := low x) (gx := g x) (b := b) (n := s) with z | ⟨y, hy, h1, h2⟩
    · exact .inl z
    · exact .inr ⟨y, _, ⟨hy, h1, rfl⟩, by show lstM (low x) (g x) b s = _; omega⟩
  dom x y c := fun ⟨hy, h0, e⟩ => ⟨hy, by omega⟩
theorem MOp.comp {s : Nat} {F F' : (Nat → Int) → Nat → Int} {lo lo' : Nat → Int} {A A' : Nat → Nat → Int → Prop} (h : MOp s F lo A) (h' : MOp s F' lo' A') : MOp s (fun b => F (F' b)) (F lo') fun x z c => ∃ y c1 c2, A x y c1 ∧ A' y z c2 ∧ c = c1 + c2 where
  floor b x hx := h.mono (fun y hy => h'.floor b y hy) x hx
  ge b x z c hx := fun ⟨y, c1, c2, h1, h2, e⟩ => by
    have k1 := h.ge (F' b) x y c1 hx h1
    have k2 := h'.ge b y z c2 (h.dom x y c1 h1).1 h2
    show b z + c ≤ F (F' b) x
    omega
  pick b x hx := by
    rcases h.pick (F' b) x hx with e | ⟨y, c1, h1, e⟩
    · have k1 := h.floor lo' x hx
      have k2 := h.mono (fun y hy => h'.floor b y hy) x hx
      exact .inl (by show F (F' b) x = _; omega)
    · have hy := (h.dom x y c1 h1).1
      rcases h'.pick b y hy with e2 | ⟨z, c2, h2, e2⟩
      · have k1 := h.ge lo' x y c1 hx h1
        have k2 := h.mono (fun y hy => h'.floor b y hy) x hx
        exact .inl (by show F (F' b) x = _; omega)
      · exact .inr ⟨z, c1 + c2, ⟨y, c1, c2, h1, h2, rfl⟩, by show F (F' b) x = _; omega⟩
  dom x z c := fun ⟨y, c1, c2, h1, h2, e⟩ => by
    have k1 := (h.dom x y c1 h1).2
    have k2 := h'.dom y z c2 h2
    exact ⟨k2.1, by omega⟩
/-! words -/
def wordF (w : Wb) : List Nat → (Nat → Nat → Int) → (Nat → Int) → Nat → Int
  | [], _, b => b
  | j :: js, lows, b => rowM w.sizes.length (lows 0) (tbN w j) (wordF w js (fun p => lows (p + 1)) b)
theorem wordF_append {w : Wb} : ∀ {ks js : List Nat} {lows : Nat → Nat → Int} {b : Nat → Int}, wordF w (ks ++ js) lows b = wordF w ks lows (wordF w js (fun p => lows (p + ks.length)) b)
  | [], _, _, _ => rfl
  | k :: ks, js, lows, b => by
    rw [List.cons_append, wordF, wordF, wordF_append]
    congr 2
def WA (w : Wb) : List Nat → Nat → Nat → Int → Prop
  | [], _, _, _ => False
  | [j], x, y, c => y < w.sizes.length ∧ 0 < tbN w j x y ∧ c = tbN w j x y - 1
  | j :: js, x, z, c => ∃ y c1 c2, (y < w.sizes.length ∧ 0 < tbN w j x y ∧ c1 = tbN w j x y - 1) ∧ WA w js y z c2 ∧ c = c1 + c2
def wlo (w : Wb) : List Nat → (Nat → Nat → Int) → Nat → Int
  | [], lows => fun _ => 0
  | [j], lows => lows 0
  | j :: js, lows => rowM w.sizes.length (lows 0) (tbN w j) (wlo w js fun p => lows (p + 1))
theorem wordF_op {w : Wb} : ∀ {js : List Nat} {lows : Nat → Nat → Int}, js ≠ [] → MOp w.sizes.length (wordF w js lows) (wlo w js lows) (WA w js)
  | [], _, h => absurd rfl h
  | [j], lows, _ => rowM_op
  | j :: k :: js, lows, _ => MOp.comp rowM_op (wordF_op (by simp))
theorem wlo_nonneg {w : Wb} : ∀ {js : List Nat} {lows : Nat → Nat → Int}, (∀ p x, p < js.length → x < w.sizes.length → 0 ≤ lows p x) → ∀ x, x < w.sizes.length → 0 ≤ wlo w js lows x
  | [], _, _, _, _ => Int.le_refl _
  | [j], lows, h, x, hx => h 0 x (by simp) hx
  | j :: k :: js, lows, h, x, hx => Int.le_trans (h 0 x (by simp) hx) lstM_floor
/-- the arcs of a word are those of its table -/
theorem wa_tab {w : Wb} (hw : WbOk w) : ∀ {js : List Nat} {x y : Nat} {c : Int}, js ≠ [] → WordOk w js → x < w.sizes.length → WA w js x y c → 0 < (js.map (tbN w)).foldr (comp w.sizes.length) idm x y ∧ (0 < c → 2 ≤ (js.map (tbN w)).foldr (comp w.sizes.length) idm x y)
  | [], _, _, _, h, _, _, _ => absurd rfl h
  | [j], x, y, c, _, hk, hx, ⟨hy, h0, e⟩ => by
    have ent : Ent w.sizes.length (tbN w j) := by rw [tbN_eq (hk j (by simp))]; exact (hw.moves _ (List.getElem_mem _)).tb
    show 0 < comp w.sizes.length (tbN w j) idm x y ∧ _
    have e1 : comp w.sizes.length (tbN w j) idm x y = tbN w j x y := comp_idr ent.nonneg hx hy
    refine ⟨by rw [e1]; exact h0, fun hc => ?_⟩
    show 2 ≤ comp w.sizes.length (tbN w j) idm x y
    rw [e1]; omega
  | j :: k :: js, x, z, c, _, hk, hx, ⟨y, c1, c2, ⟨hy, h0, e1⟩, h2, e⟩ => by
    obtain ⟨i1, i2⟩ := wa_tab hw (js := k :: js) (by simp) (fun x hx => hk x (List.mem_cons_of_mem _ hx)) hy h2
    refine ⟨pos_comp.mpr ⟨y, hy, h0, i1⟩, fun hc => (le_comp (by decide)).mpr ⟨y, hy, h0, i1, ?_⟩⟩
    have hc2 := ((wordF_op (w := w) (js := k :: js) (lows := fun _ _ => 0) (by simp)).dom y z c2 h2).2
    by_cases z : 0 < c2
    · exact .inr (i2 z)
    · exact .inl (by omega)
theorem wtab_foldr {w : Wb} (hw : WbOk w) {js : List Nat} (hk : WordOk w js) : EqT w.sizes.length (wtab w js) ((js.map (tbN w)).foldr (comp w.sizes.length) idm) := fun x z hx hz => by
  have nn : ∀ g ∈ js.map (tbN w), ∀ x y, x < w.sizes.length → y < w.sizes.length → 0 ≤ g x y := fun g hg => by
    obtain ⟨j, hj, rfl⟩ := List.mem_map.mp hg
    rw [tbN_eq (hk j hj)]
    exact (hw.moves _ (List.getElem_mem (hk j hj))).tb.nonneg
  unfold wtab
  rw [fold_eq nn idm_ent.nonneg x z hx hz, comp_idl _ hx hz]
  intro x y hx hy
  cases js with
  | nil => exact idm_ent.nonneg x y hx hy
  | cons j js => exact comp_nonneg
/-! going round -/
def itF (F : (Nat → Int) → Nat → Int) : Nat → Nat → Int
  | 0 => fun _ => 0
  | k + 1 => F (itF F k)
section
variable {s : Nat} {F : (Nat → Int) → Nat → Int} {lo : Nat → Int} {A : Nat → Nat → Int → Prop}
theorem itF_mono (h : MOp s F lo A) (hlo : ∀ x, x < s → 0 ≤ lo x) : ∀ {k x : Nat}, x < s → itF F k x ≤ itF F (k + 1) x
  | 0, x, hx => Int.le_trans (hlo x hx) (h.floor _ x hx)
  | k + 1, x, hx => h.mono (fun y hy => itF_mono h hlo hy) x hx
theorem itF_le (h : MOp s F lo A) (hlo : ∀ x, x < s → 0 ≤ lo x) {x : Nat} (hx : x < s) {k j : Nat} (hkj : k ≤ j) : itF F k x ≤ itF F j x := by
  induction j with
  | zero =>
    have : k = 0 := by omega
    subst this; exact Int.le_refl _
  | succ j ih =>
    by_cases e : k = j + 1
    · subst e; exact Int.le_refl _
    · exact Int.le_trans (ih (by omega)) (itF_mono h hlo hx)
theorem grow_walkF (h : MOp s F lo A) : ∀ {k x : Nat}, x < s → itF F k x < itF F (k + 1) x → ∃ (W : Nat → Nat) (c : Nat → Int), W 0 = x ∧ (∀ i, i ≤ k → W i < s ∧ itF F (k - i) (W i) < itF F (k - i + 1) (W i)) ∧ ∀ i, i < k → A (W i) (W (i + 1)) (c i) ∧ itF F (k - i + 1) (W i) = itF F (k - i) (W (i + 1)) + c i
  | 0, x, hx, hg => ⟨fun _ => x, fun _ => 0, rfl, fun i hi => by
      have : i = 0 := by omega
      subst this; exact ⟨hx, hg⟩, fun i hi => absurd hi (by omega)⟩
  | k + 1, x, hx, hg => by
    have hg : itF F (k + 1) x < itF F (k + 2) x := hg
    have hfl : lo x ≤ itF F (k + 1) x := h.floor _ x hx
    rcases h.pick (itF F (k + 1)) x hx with e | ⟨y, c0, hA, e⟩
    · have e : itF F (k + 2) x = lo x := e
      omega
    · have e : itF F (k + 2) x = itF F (k + 1) y + c0 := e
      have hy := (h.dom x y c0 hA).1
      have h1 : itF F k y + c0 ≤ itF F (k + 1) x := h.ge _ x y c0 hx hA
      have h2 : itF F k y < itF F (k + 1) y := by omega
      obtain ⟨W, c, w0, w1, w2⟩ := grow_walkF h (k := k) hy h2
      refine ⟨fun i => match i with | 0 => x | i + 1 => W i, fun i => match i with | 0 => c0 | i + 1 => c i, rfl, fun i hi => ?_, fun i hi => ?_⟩
      · cases i with
        | zero => exact ⟨hx, hg⟩
        | succ i =>
          have := w1 i (by omega)
          rw [show k + 1 - (i + 1) = k - i from by omega]
          exact this
      · cases i with
        | zero =>
          show A x (W 0) c0 ∧ itF F (k + 1 + 1) x = itF F (k + 1) (W 0) + c0
          rw [w0]; exact ⟨hA, e⟩
        | succ i =>
          have := w2 i (by omega)
          rw [show k + 1 - (i + 1) = k - i from by omega]
          exact this
/-- where no cycle lowers anything, s rounds are enough -/
theorem itF_end (h : MOp s F lo A) (hlo : ∀ x, x < s → 0 ≤ lo x) {T : Nat → Nat → Int} (hT : Ent s T) (hs : Stk s T) (hA : ∀ x y c, x < s → A x y c → 0 < T x y ∧ (0 < c → 2 ≤ T x y)) {x : Nat} (hx : x < s) : itF F (s + 1) x = itF F s x := by
  have hle := itF_mono h hlo (k := s) hx
  by_cases hg : itF F s x < itF F (s + 1) x
  · exfalso
    obtain ⟨W, c, w0, w1, w2⟩ := grow_walkF h hx hg
    obtain ⟨i, j, hij, hj, e⟩ := pigeon (n := s) (W := W) fun i hi => (w1 i hi).1
    have one : ∀ p, i ≤ p → p < j → c p = 0 := fun p hp hpj => by
      have h1 := (w2 p (by omega)).1
      have h2 := (h.dom _ _ _ h1).2
      by_cases z : 0 < c p
      · exfalso
        have hw : Wlk s T (j - i - 1 + 1) (W i) (W i) 2 fun q => W (i + q) := by
          refine ⟨rfl, by show W (i + (j - i - 1 + 1)) = W i; rw [show i + (j - i - 1 + 1) = j from by omega]; exact e.symm, fun q hq => (w1 (i + q) (by omega)).1, fun q hq => (hA _ _ _ (w1 (i + q) (by omega)).1 (w2 (i + q) (by omega)).1).1, .inr ⟨p - i, by omega, ?_⟩⟩
          show 2 ≤ T (W (i + (p - i))) (W (i + (p - i + 1)))
          rw [show i + (p - i) = p from by omega, show i + (p - i + 1) = p + 1 from by omega]
          exact (hA _ _ _ (w1 p (by omega)).1 h1).2 z
        have h3 := (pw_walk (by decide) (w1 i (by omega)).1 (w1 i (by omega)).1).mpr ⟨_, hw⟩
        have h4 := (pw_ent hT (j - i - 1) (W i) (W i) (w1 i (by omega)).1 (w1 i (by omega)).1).2
        exact hs (j - i - 1) (W i) (w1 i (by omega)).1 (by omega)
      · omega
    have flat : ∀ q, i + q ≤ j → itF F (s - i + 1) (W i) = itF F (s - (i + q) + 1) (W (i + q)) := by
      intro q
      induction q with
      | zero => intro _; rfl
      | succ q ih =>
        intro hq
        rw [ih (by omega)]
        have h1 := (w2 (i + q) (by omega)).2
        rw [one (i + q) (by omega) (by omega)] at h1
        rw [h1, show s - (i + (q + 1)) + 1 = s - (i + q) from by omega]
        show _ = itF F (s - (i + q)) (W (i + q + 1))
        omega
    have h1 := flat (j - i) (by omega)
    rw [show i + (j - i) = j from by omega, ← e] at h1
    have h2 := (w1 i (by omega)).2
    have h3 := itF_le h hlo (w1 i (by omega)).1 (show s - j + 1 ≤ s - i by omega)
    omega
  · omega
/-- once it stands it stands -/
theorem itF_stand (h : MOp s F lo A) {k : Nat} (e : ∀ x, x < s → itF F (k + 1) x = itF F k x) : ∀ j, ∀ x, x < s → itF F (k + j) x = itF F k x
  | 0, x, hx => rfl
  | j + 1, x, hx => by
    have h1 : F (itF F (k + j)) x = F (itF F k) x := h.congr (itF_stand h e j) x hx
    show F (itF F (k + j)) x = _
    rw [h1]
    exact e x hx
end
/-! rows along a word with floors -/
/-- the k-th row -/
def rwF (w : Wb) (ks : List Nat) (lows : Nat → Nat → Int) (b : Nat → Int) (k : Nat) : Nat → Int := wordF w (ks.drop k) (fun p => lows (p + k)) b
theorem rwF_step {w : Wb} {ks : List Nat} {lows : Nat → Nat → Int} {b : Nat → Int} {k : Nat} (h : k < ks.length) : rwF w ks lows b k = rowM w.sizes.length (lows k) (tbN w (ks.getD k 0)) (rwF w ks lows b (k + 1)) := by
  unfold rwF
  rw [List.drop_eq_getElem_cons h, wordF, getD_at h, Nat.zero_add]
  congr 2
  funext p
  rw [show p + 1 + k = p + (k + 1) from by omega]
theorem rwF_last {w : Wb} {ks : List Nat} {lows : Nat → Nat → Int} {b : Nat → Int} {k : Nat} (h : ks.length ≤ k) : rwF w ks lows b k = b := by
  unfold rwF
  rw [List.drop_eq_nil_of_le h]; rfl
def NoF : Nat → Nat → Int := fun _ _ => 0
theorem rowM_zero {s : Nat} {g : Nat → Nat → Int} {b : Nat → Int} {k : Nat} : rowM s (NoF k) g b = rowA s g b := by
  funext x
  exact lstM_zero
theorem lrB_rwF {w : Wb} {ks : List Nat} {b : Nat → Int} : ∀ i, i ≤ ks.length → lrB w ks b i = rwF w ks NoF b (ks.length - i)
  | 0, _ => (rwF_last (by omega)).symm
  | i + 1, h => by
    rw [lrB, lrB_rwF i (by omega), rwF_step (k := ks.length - (i + 1)) (by omega), rowM_zero]
    rw [show ks.length - 1 - i = ks.length - (i + 1) from by omega, show ks.length - (i + 1) + 1 = ks.length - i from by omega]
/-- rows by number -/
def RwF (s n : Nat) (R : Nat → Nat → Int) : D := .tup ((List.range n).map fun k => RD s (R k))
theorem RwF_eq {s n : Nat} {R : Nat → Nat → Int} : RwF s n R = RwD s ((List.range n).map R) := by
  unfold RwF RwD
  rw [List.map_map]; rfl
theorem RwD_F {s : Nat} {rows : List (Nat → Int)} {R : Nat → Nat → Int} (h : ∀ k, k < rows.length → ∀ x, x < s → rows.getD k (fun _ => 0) x = R k x) : RwD s rows = RwF s rows.length R := by
  unfold RwF RwD
  congr 1
  refine List.ext_getElem (by simp) fun i h1 h2 => ?_
  have hi : i < rows.length := by simpa using h1
  rw [List.getElem_map, List.getElem_map, List.getElem_range, ← getD_at hi (d := fun _ => 0)]
  unfold RD
  congr 1
  exact map_range_congr fun x hx => by rw [h i hi x hx]
theorem RwF_congr {s n : Nat} {R R' : Nat → Nat → Int} (h : ∀ k, k < n → ∀ x, x < s → R k x = R' k x) : RwF s n R = RwF s n R' := by
  unfold RwF
  congr 1
  refine map_range_congr fun k hk => ?_
  unfold RD
  congr 1
  exact map_range_congr fun x hx => by rw [h k hk x hx]
theorem lrows_F {w : Wb} {ks : List Nat} {b : Nat → Int} : RwD w.sizes.length (lrows w ks b) = RwF w.sizes.length (ks.length + 1) (rwF w ks NoF b) := by
  rw [RwD_F (R := rwF w ks NoF b) fun k hk x hx => by
    rw [lrows_len] at hk
    rw [lrows_get (by omega), lrB_rwF _ (by omega), show ks.length - (ks.length - k) = k from by omega], lrows_len]
theorem RD_congr {s : Nat} {r r' : Nat → Int} (h : ∀ x, x < s → r x = r' x) : RD s r = RD s r' := by
  unfold RD
  congr 1
  exact map_range_congr fun x hx => by rw [h x hx]
theorem rowM_mono {s : Nat} {low low' : Nat → Int} {g : Nat → Nat → Int} {b b' : Nat → Int} (hl : ∀ x, x < s → low x ≤ low' x) (hb : ∀ y, y < s → b y ≤ b' y) (x : Nat) (hx : x < s) : rowM s low g b x ≤ rowM s low' g b' x := by
  have h1 := (rowM_op (s := s) (low := low) (g := g)).mono hb x hx
  rcases (rowM_op (s := s) (low := low) (g := g)).pick b' x hx with e | ⟨y, c, hA, e⟩
  · have h2 := (rowM_op (s := s) (low := low') (g := g)).floor b' x hx
    have := hl x hx
    omega
  · have h2 := (rowM_op (s := s) (low := low') (g := g)).ge b' x y c hx hA
    omega
theorem wordF_mono {w : Wb} : ∀ {js : List Nat} {lows lows' : Nat → Nat → Int} {b b' : Nat → Int}, (∀ p x, p < js.length → x < w.sizes.length → lows p x ≤ lows' p x) → (∀ y, y < w.sizes.length → b y ≤ b' y) → ∀ x, x < w.sizes.length → wordF w js lows b x ≤ wordF w js lows' b' x
  | [], _, _, _, _, _, hb, x, hx => hb x hx
  | j :: js, lows, lows', b, b', hl, hb, x, hx => rowM_mono (fun x hx => hl 0 x (by simp) hx) (fun y hy => wordF_mono (fun p x hp hx => hl (p + 1) x (by simpa using hp) hx) hb y hy) x hx
theorem rowM_kp {s : Nat} {low : Nat → Int} {g : Nat → Nat → Int} {b : Nat → Int} : KpT s g (rowM s low g b) b := Ahd.kp fun x hx y hy h0 => lstM_ge hy h0
/-- behind a round that stands -/
theorem round_stand {w : Wb} (hw : WbOk w) {js : List Nat} (hj : js ≠ []) (hk : WordOk w js) (hs : Stk w.sizes.length (wtab w js)) {lows : Nat → Nat → Int} (hl : ∀ p x, p < js.length → x < w.sizes.length → 0 ≤ lows p x) {x : Nat} (hx : x < w.sizes.length) : itF (wordF w js lows) (w.sizes.length + 1) x = itF (wordF w js lows) w.sizes.length x :=
  itF_end (wordF_op hj) (wlo_nonneg hl) (wtab_ent hw hk) hs (fun x y c hx hA => by
    have hy := ((wordF_op (w := w) (lows := lows) hj).dom x y c hA).1
    have h1 := wa_tab hw hj hk hx hA
    rw [wtab_foldr hw hk x y hx hy]
    exact h1) hx
end
end DL
/-! Lassos: webs that go on, stems and rounds. -/
namespace DL
local macro_rules | `(tactic| walk_at "wp") => `(tactic| simp only [wS, wE, wEs, wO, wAs, wL, wN, wI, wT, wTs, setAll, Tg.slots, wipeE, cmp_eq_int, cmp_ne_int, cmp_eq_str, cmp_ne_str, cmp_eq_tup, cmp_ne_tup, cmp_eq_bl, cmp_lt, cmp_le, cmp_gt, cmp_ge, Kt0_rt, Kt0_nx, List.getElem?_cons_zero, List.getElem?_cons_succ, List.set_cons_zero, List.set_cons_succ, Option.some.injEq, Slot.val.injEq, Slot.own.injEq, MO.lst.injEq, D.int.injEq, D.ref.injEq, D.bl.injEq, D.tup.injEq, D.str.injEq, exists_eq_left', exists_eq_left, exists_and_left, exists_and_right, and_assoc, true_and, and_true, atI_0, atI_1, atI_2, atI_3, atI_4, backs, drps, List.map_cons, List.map_nil, List.length_cons, List.length_nil, List.cons_append, List.nil_append, List.replicate, Nat.reduceAdd, Nat.reduceSub, decide_eq_true_eq, upd_at, aug_add_int, aug_sub_int, aug_mul_int, aug_add_str, ixN5_1, ixN5_2, ixN5_3, Int.toNat_natCast, List.length_map, List.length_range, tg_nm, tg_tp, tru_non, tru_bl, tru_int, tru_str, tru_tup, tru_ref, bin_add_int, bin_add_str, bin_add_tup, bin_sub, bin_mul, bin_fdiv, bin_mod, bin_pow, bin_shl, bin_shr, bin_band, bin_bor, idx_tup, idx_ref, idx_str, blt_len_tup, blt_len_str, blt_len_ref, blt_int_int, blt_int_bl, blt_bool_bl, blt_bool_int, blt_abs, blt_max2, blt_max3, blt_min2, blt_tuple_tup, blt_tuple_ref, blt_isa_non, blt_isa_bl, blt_isa_int, blt_isa_str, blt_isa_tup, isa_int_int, isa_int_bool, isa_bl_bool, isa_tup, isa_str, lk_tuple, lk_len, lk_all, lk_any, lk_sum, it_tup, it_rl, it_ref, zip_tup, enum_tup, enum_ref, eq_self_iff_true, if_true, Bool.false_eq_true, if_false, reduceIte, ss_nil, rev_tup, rev_ref, ty_split, ty_join, ty_append, ty_pop, ty_popAt, ty_reverse, ty_extend, ty_insert, mth_append, mth_pop, mth_popAt, mth_reverse, mth_extend, mth_insert, mth_split, mth_join, cmp_eq_ref, cmp_ne_ref, slc_tup, slc_str, slc_ref, lk_max, lk_min, cmp_lt_str, cmp_is_bl, cmp_not_bl, cmp_is_non, cmp_not_non, cmp_is_tup, cmp_not_tup, cmp_is_int, cmp_not_int, blt_str, blt_maxt, blt_mint, tg_np])
local macro_rules | `(tactic| simp! only [$xs:simpLemma,*]) => `(tactic| simp only [wS, wE, wEs, wO, wAs, wL, wN, wI, wT, wTs, setAll, Tg.slots, wipeE, cmp_eq_int, cmp_ne_int, cmp_eq_str, cmp_ne_str, cmp_eq_tup, cmp_ne_tup, cmp_eq_bl, cmp_lt, cmp_le, cmp_gt, cmp_ge, Kt0_rt, Kt0_nx, List.getElem?_cons_zero, List.getElem?_cons_succ, List.set_cons_zero, List.set_cons_succ, Option.some.injEq, Slot.val.injEq, Slot.own.injEq, MO.lst.injEq, D.int.injEq, D.ref.injEq, D.bl.injEq, D.tup.injEq, D.str.injEq, exists_eq_left', exists_eq_left, exists_and_left, exists_and_right, and_assoc, true_and, and_true, atI_0, atI_1, atI_2, atI_3, atI_4, backs, drps, List.map_cons, List.map_nil, List.length_cons, List.length_nil, List.cons_append, List.nil_append, List.replicate, Nat.reduceAdd, Nat.reduceSub, decide_eq_true_eq, upd_at, aug_add_int, aug_sub_int, aug_mul_int, aug_add_str, ixN5_1, ixN5_2, ixN5_3, Int.toNat_natCast, List.length_map, List.length_range, tg_nm, tg_tp, tru_non, tru_bl, tru_int, tru_str, tru_tup, tru_ref, bin_add_int, bin_add_str, bin_add_tup, bin_sub, bin_mul, bin_fdiv, bin_mod, bin_pow, bin_shl, bin_shr, bin_band, bin_bor, idx_tup, idx_ref, idx_str, blt_len_tup, blt_len_str, blt_len_ref, blt_int_int, blt_int_bl, blt_bool_bl, blt_bool_int, blt_abs, blt_max2, blt_max3, blt_min2, blt_tuple_tup, blt_tuple_ref, blt_isa_non, blt_isa_bl, blt_isa_int, blt_isa_str, blt_isa_tup, isa_int_int, isa_int_bool, isa_bl_bool, isa_tup, isa_str, lk_tuple, lk_len, lk_all, lk_any, lk_sum, it_tup, it_rl, it_ref, zip_tup, enum_tup, enum_ref, eq_self_iff_true, if_true, Bool.false_eq_true, if_false, reduceIte, ss_nil, rev_tup, rev_ref, ty_split, ty_join, ty_append, ty_pop, ty_popAt, ty_reverse, ty_extend, ty_insert, mth_append, mth_pop, mth_popAt, mth_reverse, mth_extend, mth_insert, mth_split, mth_join, cmp_eq_ref, cmp_ne_ref, slc_tup, slc_str, slc_ref, lk_max, lk_min, cmp_lt_str, cmp_is_bl, cmp_not_bl, cmp_is_non, cmp_not_non, cmp_is_tup, cmp_not_tup, cmp_is_int, cmp_not_int, blt_str, blt_maxt, blt_mint, tg_np, $xs,*])
open PySem
section
def d__law_level_table (f__law_pick : Nat) (f__law_draw : Nat) : Fn := { name := "_law_level_table", arity := 2, slots := ["d", "levels", "rows", "x", "row", "y", "entry"], body :=
  [(.asgN 2 (.disp .nil)),
    (.for_ (.nm 3) (.range (.blt .len (.cons (.var 1) .nil))) [(.asgN 4 (.disp .nil)),
    (.for_ (.nm 5) (.range (.blt .len (.cons (.var 1) .nil))) [(.asg (.nm 6) (.cst (.int 0))),
    (.ite (.v (.cmp .lt (.idx (.var 1) (.var 3)) (.idx (.var 1) (.var 5)))) [(.asg (.nm 6) (.call f__law_pick (.cons (.var 0) (.tmp (.disp (.cons (.cst (.int 0)) (.cons (.cst (.int 0)) (.cons (.cst (.int 1)) (.cons (.cst (.int 2)) .nil))))) .nil))))] [(.ite (.v (.cmp .eq (.idx (.var 1) (.var 3)) (.idx (.var 1) (.var 5)))) [(.asg (.nm 6) (.call f__law_draw (.cons (.var 0) (.cons (.cst (.int 2)) .nil))))] [])]),
    (.app 4 (.var 6))]),
    (.app 2 (.lk .tuple (.own 4)))]),
    (.ret (.lk .tuple (.own 2)))] }
def d__law_levelled (f__law_draw : Nat) (f__law_level_table : Nat) : Fn := { name := "_law_levelled", arity := 2, slots := ["d", "web", "levels", "moves", "name", "worker", "source", "target", "table", "size"], body :=
  [(.asgN 2 (.comp (.call f__law_draw (.cons (.var 0) (.cons (.cst (.int 4)) .nil))) (.nm 9) (.dyn (.idx (.var 1) (.cst (.int 0)))) none)),
    (.asgN 3 (.disp .nil)),
    (.for_ (.tp [4, 5, 6, 7, 8]) (.dyn (.idx (.var 1) (.cst (.int 4)))) [(.app 3 (.tup (.cons (.var 4) (.cons (.var 5) (.cons (.var 6) (.cons (.var 7) (.cons (.call f__law_level_table (.cons (.var 0) (.lend 2 .nil))) .nil)))))))]),
    (.ret (.tup (.cons (.idx (.var 1) (.cst (.int 0))) (.cons (.idx (.var 1) (.cst (.int 1))) (.cons (.idx (.var 1) (.cst (.int 2))) (.cons (.idx (.var 1) (.cst (.int 3))) (.cons (.lk .tuple (.own 3)) .nil)))))))] }
def d__law_changed_web (f__law_draw : Nat) : Fn := { name := "_law_changed", arity := 2, slots := ["d", "web", "k", "x", "y", "rows", "name", "worker", "source", "target", "table", "move", "row"], body :=
  [(.ite (.v (.cmp .eq (.blt .len (.cons (.idx (.var 1) (.cst (.int 0))) .nil)) (.cst (.int 0)))) [(.ret (.var 1))] []),
    (.asg (.nm 2) (.call f__law_draw (.cons (.var 0) (.cons (.blt .len (.cons (.idx (.var 1) (.cst (.int 4))) .nil)) .nil)))),
    (.asg (.nm 3) (.call f__law_draw (.cons (.var 0) (.cons (.blt .len (.cons (.idx (.var 1) (.cst (.int 0))) .nil)) .nil)))),
    (.asg (.nm 4) (.call f__law_draw (.cons (.var 0) (.cons (.blt .len (.cons (.idx (.var 1) (.cst (.int 0))) .nil)) .nil)))),
    (.asgN 5 (.comp (.mk (.copyT (.var 12))) (.nm 12) (.dyn (.idx (.idx (.idx (.var 1) (.cst (.int 4))) (.var 2)) (.cst (.int 4)))) none)),
    (.mset (.lidx (.own 5) (.var 3)) (.var 4) (.call f__law_draw (.cons (.var 0) (.cons (.cst (.int 3)) .nil)))),
    (.asg (.tp [6, 7, 8, 9, 10]) (.idx (.idx (.var 1) (.cst (.int 4))) (.var 2))),
    (.asg (.nm 11) (.tup (.cons (.var 6) (.cons (.var 7) (.cons (.var 8) (.cons (.var 9) (.cons (.lk .tuple (.new (.comp (.blt .tuple (.cons (.var 12) .nil)) (.nm 12) (.own 5) none))) .nil))))))),
    (.ret (.tup (.cons (.idx (.var 1) (.cst (.int 0))) (.cons (.idx (.var 1) (.cst (.int 1))) (.cons (.idx (.var 1) (.cst (.int 2))) (.cons (.idx (.var 1) (.cst (.int 3))) (.cons (.bin .add (.bin .add (.slc (.idx (.var 1) (.cst (.int 4))) .no (.at (.var 2))) (.tup (.cons (.var 11) .nil))) (.slc (.idx (.var 1) (.cst (.int 4))) (.at (.bin .add (.var 2) (.cst (.int 1)))) .no)) .nil)))))))] }
def d__law_live_web (f__law_pick : Nat) (f__law_draw : Nat) (f__law_web : Nat) (f__law_levelled : Nat) (f__law_changed : Nat) : Fn := { name := "_law_live_web", arity := 1, slots := ["d", "sizes", "workers", "places", "moves", "style", "web"], body :=
  [(.asg (.nm 1) (.call f__law_pick (.cons (.var 0) (.tmp (.disp (.cons (.cst (.int 0)) (.cons (.cst (.int 1)) (.cons (.cst (.int 1)) (.cons (.cst (.int 2)) (.cons (.cst (.int 2)) (.cons (.cst (.int 2)) (.cons (.cst (.int 2)) (.cons (.cst (.int 3)) (.cons (.cst (.int 3)) (.cons (.cst (.int 3)) (.cons (.cst (.int 3)) (.cons (.cst (.int 4)) .nil))))))))))))) .nil)))),
    (.asg (.nm 2) (.call f__law_pick (.cons (.var 0) (.tmp (.disp (.cons (.cst (.int 1)) (.cons (.cst (.int 2)) (.cons (.cst (.int 2)) (.cons (.cst (.int 3)) .nil))))) .nil)))),
    (.asg (.nm 3) (.call f__law_pick (.cons (.var 0) (.tmp (.disp (.cons (.cst (.int 1)) (.cons (.cst (.int 1)) (.cons (.cst (.int 2)) (.cons (.cst (.int 2)) (.cons (.cst (.int 3)) .nil)))))) .nil)))),
    (.asg (.nm 4) (.bin .add (.var 3) (.call f__law_pick (.cons (.var 0) (.tmp (.disp (.cons (.cst (.int 0)) (.cons (.cst (.int 1)) (.cons (.cst (.int 1)) (.cons (.cst (.int 2)) (.cons (.cst (.int 3)) .nil)))))) .nil))))),
    (.asg (.nm 5) (.call f__law_draw (.cons (.var 0) (.cons (.cst (.int 8)) .nil)))),
    (.asg (.nm 6) (.call f__law_web (.cons (.var 0) (.cons (.var 1) (.cons (.var 2) (.cons (.var 3) (.cons (.var 4) (.cons (.blt .min (.cons (.var 5) (.cons (.cst (.int 4)) .nil))) .nil)))))))),
    (.ite (.v (.cmp .gt (.var 5) (.cst (.int 4)))) [(.asg (.nm 6) (.call f__law_levelled (.cons (.var 0) (.cons (.var 6) .nil))))] []),
    (.ite (.v (.cmp .eq (.var 5) (.cst (.int 7)))) [(.asg (.nm 6) (.call f__law_changed (.cons (.var 0) (.cons (.var 6) .nil))))] []),
    (.ret (.var 6))] }
def d__law_great_live (f__law_draw : Nat) (f__law_pick : Nat) (f__law_level_table : Nat) (f__law_table : Nat) : Fn := { name := "_law_great_web", arity := 1, slots := ["d", "sizes", "places", "levels", "tables", "moves", "k", "source", "target", "names", "homes"], body :=
  [(.asg (.nm 1) (.bin .add (.cst (.int 4)) (.call f__law_draw (.cons (.var 0) (.cons (.cst (.int 6)) .nil))))),
    (.asg (.nm 2) (.call f__law_pick (.cons (.var 0) (.tmp (.disp (.cons (.cst (.int 1)) (.cons (.cst (.int 2)) (.cons (.cst (.int 5)) (.cons (.cst (.int 20)) (.cons (.cst (.int 64)) .nil)))))) .nil)))),
    (.asgN 3 (.comp (.call f__law_draw (.cons (.var 0) (.cons (.cst (.int 4)) .nil))) (.nm 6) (.range (.var 1)) none)),
    (.asgN 4 (.comp (.call f__law_level_table (.cons (.var 0) (.lend 3 .nil))) (.nm 6) (.range (.cst (.int 8))) none)),
    (.ite (.v (.cmp .eq (.call f__law_draw (.cons (.var 0) (.cons (.cst (.int 3)) .nil))) (.cst (.int 0)))) [(.app 4 (.call f__law_table (.cons (.var 0) (.cons (.var 1) (.cons (.cst (.int 0)) .nil)))))] []),
    (.asgN 5 (.disp .nil)),
    (.for_ (.nm 6) (.range (.blt .min (.cons (.cst (.int 160)) (.cons (.bin .add (.var 2) (.call f__law_pick (.cons (.var 0) (.tmp (.disp (.cons (.cst (.int 0)) (.cons (.cst (.int 3)) (.cons (.cst (.int 12)) (.cons (.cst (.int 96)) .nil))))) .nil)))) .nil)))) [(.asg (.nm 7) (.ifx (.v (.cmp .lt (.var 6) (.var 2))) (.var 6) (.call f__law_draw (.cons (.var 0) (.cons (.var 2) .nil))))),
    (.asg (.nm 8) (.call f__law_draw (.cons (.var 0) (.cons (.var 2) .nil)))),
    (.app 5 (.tup (.cons (.bin .add (.cst (.str "m")) (.blt .str (.cons (.var 6) .nil))) (.cons (.call f__law_draw (.cons (.var 0) (.cons (.cst (.int 4)) .nil))) (.cons (.var 7) (.cons (.var 8) (.cons (.call f__law_pick (.cons (.var 0) (.lend 4 .nil))) .nil)))))))]),
    (.asg (.nm 9) (.lk .tuple (.new (.comp (.bin .add (.cst (.str "s")) (.blt .str (.cons (.var 6) .nil))) (.nm 6) (.range (.var 1)) none)))),
    (.asg (.nm 10) (.lk .tuple (.new (.comp (.bin .add (.cst (.str "p")) (.blt .str (.cons (.var 6) .nil))) (.nm 6) (.range (.var 2)) none)))),
    (.ret (.tup (.cons (.var 9) (.cons (.tup (.cons (.cst (.str "a")) (.cons (.cst (.str "b")) (.cons (.cst (.str "c")) (.cons (.cst (.str "d")) .nil))))) (.cons (.var 10) (.cons (.call f__law_draw (.cons (.var 0) (.cons (.var 2) .nil))) (.cons (.lk .tuple (.own 5)) .nil)))))))] }
def d__law_lassos (f__law_word : Nat) (f__law_pick : Nat) : Fn := { name := "_law_lassos", arity := 4, slots := ["d", "web", "length", "many", "word", "places", "move", "spans", "i", "j", "found", "k"], body :=
  [(.asg (.nm 4) (.call f__law_word (.cons (.var 0) (.cons (.var 1) (.cons (.idx (.var 1) (.cst (.int 3))) (.cons (.var 2) .nil)))))),
    (.asgN 5 (.disp (.cons (.idx (.var 1) (.cst (.int 3))) .nil))),
    (.for_ (.nm 6) (.dyn (.var 4)) [(.app 5 (.idx (.idx (.idx (.var 1) (.cst (.int 4))) (.var 6)) (.cst (.int 3))))]),
    (.asgN 7 (.disp .nil)),
    (.for_ (.nm 8) (.range (.lk .len (.own 5))) [(.for_ (.nm 9) (.range2 (.bin .add (.var 8) (.cst (.int 1))) (.lk .len (.own 5))) [(.ite (.v (.cmp .eq (.lidx (.own 5) (.var 8)) (.lidx (.own 5) (.var 9)))) [(.app 7 (.tup (.cons (.var 8) (.cons (.var 9) .nil))))] [])])]),
    (.asgN 10 (.disp .nil)),
    (.for_ (.nm 11) (.range (.var 3)) [(.asg (.tp [8, 9]) (.call f__law_pick (.cons (.var 0) (.lend 7 .nil)))),
    (.app 10 (.tup (.cons (.slc (.var 4) .no (.at (.var 8))) (.cons (.slc (.var 4) (.at (.var 8)) (.at (.var 9))) .nil))))]),
    (.retO 10)] }
def d_turn_row (f_row_ahead : Nat) : Fn := { name := "turn_row", arity := 2, slots := ["web", "turn", "tables", "found", "again", "table", "move", "size"], body :=
  [(.asgN 2 (.comp (.idx (.idx (.idx (.var 0) (.cst (.int 4))) (.var 6)) (.cst (.int 4))) (.nm 6) (.rev (.var 1)) none)),
    (.asg (.nm 3) (.lk .tuple (.new (.comp (.cst (.int 0)) (.nm 7) (.dyn (.idx (.var 0) (.cst (.int 0)))) none)))),
    (.asg (.nm 4) (.cst .non)),
    (.whl (.v (.cmp .ne (.var 4) (.var 3))) [(.asg (.nm 4) (.var 3)),
    (.for_ (.nm 5) (.own 2) [(.asg (.nm 3) (.call f_row_ahead (.cons (.var 5) (.cons (.var 3) .nil))))])]),
    (.ret (.var 3))] }
def d_lasso_rows (f_is_stuck : Nat) (f_word_table : Nat) (f_least_rows : Nat) (f_turn_row : Nat) : Fn := { name := "lasso_rows", arity := 3, slots := ["web", "stem", "turn"], body :=
  [(.ite (.not (.v (.call f_is_stuck (.cons (.call f_word_table (.cons (.var 0) (.cons (.var 2) .nil))) .nil)))) [(.ret (.cst .non))] []),
    (.ret (.call f_least_rows (.cons (.var 0) (.cons (.bin .add (.var 1) (.var 2)) (.cons (.call f_turn_row (.cons (.var 0) (.cons (.var 2) .nil))) .nil)))))] }
variable {P : List Fn} {n f : Nat} {M : Mem} {Q : QE} {E : QX}
/-- one of some small numbers -/
theorem pick_ns {fd : Nat} (hf : P[f]? = some (d_pick fd)) (hd : P[fd]? = some d_draw) {d c p : Nat} (ns : List Nat) {xs : List D} {lo hi : Nat} (e : xs = ns.map fun (k : Nat) => D.int (k : Int)) (ha : (ns.all fun k => decide (lo ≤ k) && decide (k ≤ hi)) = true) (h0 : ns ≠ []) (h1 : ns.length < 1000) (h : Dst M d c) (hp : M p = none) (q : ∀ (k : Nat) M2, lo ≤ k → k ≤ hi → DrS d c M (drp M2 p) → Q (.int k) M2) : wFn P (n + 2) f [.ref d, .ref p] (upd M p (.lst xs)) Q E :=
  pick_nat (lo := lo) (hi := hi) hf hd h hp (by rw [e]; simpa using h0) (by rw [e, List.length_map]; omega) (fun x hx => by
    rw [e] at hx
    obtain ⟨k, hk, rfl⟩ := List.mem_map.mp hx
    have := List.all_eq_true.mp ha k hk
    simp only [Bool.and_eq_true, decide_eq_true_eq] at this
    exact ⟨k, rfl, this.1, this.2⟩) q
theorem leaveD {d c : Nat} {M1 : Mem} {v : D} (h0 : Dst M d c) (h : Dst M1 d c) (hs : ∀ b, M b ≠ Option.none → b ≠ d → M1 b = M b) (q : ∀ M', DrS d c M M' → Q v M') : ∃ M'', Sub M'' M1 ∧ Q v M'' := by
  have hd : M d ≠ Option.none := fun z => (h0.none z).1 rfl
  have hc : M c ≠ Option.none := fun z => (h0.none z).2 rfl
  refine ⟨fun b => if M b = Option.none then Option.none else M1 b, fun b o hb => ?_, q _ ⟨?_, fun b hb => ?_⟩⟩
  · dsimp only at hb
    split at hb
    · cases hb
    · exact hb
  · obtain ⟨cells, a, r, g, h1, hcd, h2⟩ := h
    exact ⟨cells, a, r, g, by dsimp only; rw [if_neg hd]; exact h1, hcd, by dsimp only; rw [if_neg hc]; exact h2⟩
  · dsimp only
    split
    · rename_i z; exact z.symm
    · rename_i z; exact hs b z hb
/-- arcs lead to no lesser level, strict ones to greater levels -/
def LvC (lv : Nat → Int) (x y : Nat) (e : Int) : Prop := (0 < e → lv x ≤ lv y) ∧ (e = 2 → lv x < lv y)
def LvT (m : Nat) (lv : Nat → Int) (g : Nat → Nat → Int) : Prop := ∀ x y, x < m → y < m → LvC lv x y (g x y)
theorem level_table_ok' {fp fd : Nat} (hf : P[f]? = some (d__law_level_table fp fd)) (hp : P[fp]? = some (d_pick fd)) (hd : P[fd]? = some d_draw) {d c m p : Nat} (hm : m < 1000) {lv : Nat → Int} (hpm : M p = some (.lst ((List.range m).map fun x => .int (lv x)))) (hpd : p ≠ d) (h : Dst M d c) (q : ∀ g M', Ent m g → LvT m lv g → DrS d c M M' → Q (TD m g) M') : wFn P (n + 3) f [.ref d, .ref p] M Q E := by
  have at' : ∀ M', DrS d c M M' → M' p = some (.lst ((List.range m).map fun x => .int (lv x))) := fun M' s => by rw [s.2 p hpd]; exact hpm
  refine enter hf rfl ?_
  simp only [d__law_level_table]
  (rw [ss_cons]; walk_at "wp")
  refine ⟨by decide, fun p2 hp2 => ?_⟩
  rw [ss_cons]
  simp! only [hpm]
  refine ⟨by omega, by omega, ?_⟩
  refine for_range mF (fun k e M' => DrS d c M M' ∧ k ≤ m ∧ ∃ g : Nat → Nat → Int, (∀ x, x < k → ∀ y, y < m → 0 ≤ g x y ∧ g x y ≤ 2 ∧ LvC lv x y (g x y)) ∧ ∃ s3 s4 s5 s6, e = [.val (.ref d), .val (.ref p), .own p2 (.lst ((List.range k).map fun x => RD m (g x))), s3, s4, s5, s6]) ⟨DrS.refl h, Nat.zero_le _, fun _ _ => 0, (fun i hi => absurd hi (by omega)), _, _, _, _, rfl⟩ (fun _ _ _ _ => trivial) (fun e M' hI => ?_) (fun k e M' hk hI => ?_)
  · obtain ⟨hs, _, g, hg, s3, s4, s5, s6, rfl⟩ := hI
    (try walk_at "wp")
    (rw [ss_cons]; walk_at "wp")
    exact leave (q g M' (fun x y hx hy => ⟨(hg x hx y hy).1, (hg x hx y hy).2.1⟩) (fun x y hx hy => (hg x hx y hy).2.2) hs)
  · obtain ⟨hs, _, g, hg, s3, s4, s5, s6, rfl⟩ := hI
    (try walk_at "wp")
    (rw [ss_cons]; walk_at "wp")
    refine ⟨by decide, fun p3 hp3 => ?_⟩
    rw [ss_cons]
    simp! only [at' M' hs]
    refine ⟨by omega, by omega, ?_⟩
    refine for_range mF (fun y e M2 => DrS d c M M2 ∧ y ≤ m ∧ ∃ r : Nat → Int, (∀ y', y' < y → 0 ≤ r y' ∧ r y' ≤ 2 ∧ LvC lv k y' (r y')) ∧ ∃ s5 s6, e = [.val (.ref d), .val (.ref p), .own p2 (.lst ((List.range k).map fun x => RD m (g x))), .val (.int k), .own p3 (.lst ((List.range y).map fun y => .int (r y))), s5, s6]) ⟨hs, Nat.zero_le _, fun _ => 0, (fun i hi => absurd hi (by omega)), _, _, rfl⟩ (fun _ _ _ _ => trivial) (fun e M2 hI => ?_) (fun y e M2 hy hI => ?_)
    · obtain ⟨hs2, _, r, hr, s5, s6, rfl⟩ := hI
      (try walk_at "wp")
      (rw [ss_cons]; walk_at "wp")
      rw [show D.tup ((List.range m).map fun y => D.int (r y)) = RD m r from rfl]
      have es : (List.range k).map (fun x => RD m (g x)) ++ [RD m r] = (List.range (k + 1)).map fun x => RD m (if x = k then r else g x) := by
        rw [List.range_succ, List.map_append]
        congr 1
        · exact map_range_congr fun i hi => by rw [if_neg (by omega)]
        · simp
      rw [es]
      refine ⟨Nat.lt_of_lt_of_le (show k < 1000 by omega) (by decide), hs2, by omega, fun x => if x = k then r else g x, fun x hx y hy => ?_, _, _, _, _, rfl⟩
      dsimp only
      split
      · rename_i e; rw [e]; exact hr y hy
      · exact hg x (by omega) y hy
    · obtain ⟨hs2, _, r, hr, s5, s6, rfl⟩ := hI
      have app : ∀ (v : Int) M3 s5, 0 ≤ v → v ≤ 2 → LvC lv k y v → DrS d c M M3 → wSs (wFn P (n + 2)) [(.app 4 (.var 6))] [.val (.ref d), .val (.ref p), .own p2 (.lst ((List.range k).map fun x => RD m (g x))), .val (.int k), .own p3 (.lst ((List.range y).map fun y => .int (r y))), s5, .val (.int v)] M3
          { Kt0 Q E with nx := fun e M2 => DrS d c M M2 ∧ y + 1 ≤ m ∧ ∃ r : Nat → Int, (∀ y', y' < y + 1 → 0 ≤ r y' ∧ r y' ≤ 2 ∧ LvC lv k y' (r y')) ∧ ∃ s5 s6, e = [.val (.ref d), .val (.ref p), .own p2 (.lst ((List.range k).map fun x => RD m (g x))), .val (.int k), .own p3 (.lst ((List.range (y + 1)).map fun y => .int (r y))), s5, s6] } := fun v M3 s5 v0 v2 hlc hs3 => by
        (rw [ss_cons]; walk_at "wp")
        have es : (List.range y).map (fun y => D.int (r y)) ++ [D.int v] = (List.range (y + 1)).map fun x => D.int (if x = y then v else r x) := by
          rw [List.range_succ, List.map_append]
          congr 1
          · exact map_range_congr fun i hi => by rw [if_neg (by omega)]
          · simp
        rw [es]
        refine ⟨Nat.lt_of_lt_of_le (show y < 1000 by omega) (by decide), hs3, by omega, fun x => if x = y then v else r x, fun x hx => ?_, _, _, rfl⟩
        dsimp only
        split
        · rename_i e; rw [e]; exact ⟨v0, v2, hlc⟩
        · exact hr x (by omega)
      (try walk_at "wp")
      (rw [ss_cons]; walk_at "wp")
      rw [ss_cons]
      simp! only [at' M2 hs2, atI_range hk, atI_range hy]
      split
      · rename_i hlt
        (rw [ss_cons]; walk_at "wp")
        refine ⟨by decide, fun p4 hp4 => pick_nat (lo := 0) (hi := 2) hp hd hs2.1 hp4 (by simp) (by decide) (fun x hx => ?_) fun v M3 v0 v1 s3 => ?_⟩
        · simp only [List.mem_cons, List.not_mem_nil, or_false] at hx
          rcases hx with rfl | rfl | rfl | rfl
          · exact ⟨0, rfl, by decide, by decide⟩
          · exact ⟨0, rfl, by decide, by decide⟩
          · exact ⟨1, rfl, by decide, by decide⟩
          · exact ⟨2, rfl, by decide, by decide⟩
        (try walk_at "wp")
        exact app v _ _ (by omega) (by omega) ⟨fun _ => by omega, fun _ => by omega⟩ (hs2.trans s3)
      · rw [ss_cons]
        simp! only [at' M2 hs2, atI_range hk, atI_range hy]
        split
        · rename_i heq
          (rw [ss_cons]; walk_at "wp")
          refine draw_ok hd (by decide) (by decide) hs2.1 fun v M3 v0 v1 s3 => ?_
          (try walk_at "wp")
          exact app v _ _ (by omega) (by omega) ⟨fun _ => by omega, fun _ => by omega⟩ (hs2.trans s3)
        · exact app 0 _ _ (by decide) (by decide) ⟨fun z => absurd z (by decide), fun z => absurd z (by decide)⟩ hs2
theorem level_table_ok {fp fd : Nat} (hf : P[f]? = some (d__law_level_table fp fd)) (hp : P[fp]? = some (d_pick fd)) (hd : P[fd]? = some d_draw) {d c m p : Nat} (hm : m < 1000) {lv : Nat → Int} (hpm : M p = some (.lst ((List.range m).map fun x => .int (lv x)))) (hpd : p ≠ d) (h : Dst M d c) (q : ∀ g M', Ent m g → DrS d c M M' → Q (TD m g) M') : wFn P (n + 3) f [.ref d, .ref p] M Q E :=
  level_table_ok' hf hp hd hm hpm hpd h fun g M' h1 _ h2 => q g M' h1 h2
/-- the same web with other tables -/
structure SameW (w w' : Wb) : Prop where
  ok : WbOk w'
  sizes : w'.sizes = w.sizes
  workers : w'.workers = w.workers
  places : w'.places = w.places
  start : w'.start = w.start
  moves : w'.moves.length = w.moves.length
theorem SameW.tr {w w' w'' : Wb} (h : SameW w w') (h' : SameW w' w'') : SameW w w'' := ⟨h'.ok, h'.sizes.trans h.sizes, h'.workers.trans h.workers, h'.places.trans h.places, h'.start.trans h.start, h'.moves.trans h.moves⟩
def MLike (w : Wb) (mvs : List Mv) : Prop := ∀ (i : Nat) (v : Mv), mvs[i]? = some v → ∃ v0 : Mv, w.moves[i]? = some v0 ∧ v.wk = v0.wk ∧ v.src = v0.src ∧ v.tgt = v0.tgt ∧ Ent w.sizes.length v.tb
theorem MLike.same {w : Wb} (hw : WbOk w) {mvs : List Mv} (h : MLike w mvs) (hl : mvs.length = w.moves.length) : SameW w { w with moves := mvs } := by
  refine ⟨⟨hw.start, fun v hv => ?_, fun p hp v hv => ?_⟩, rfl, rfl, rfl, rfl, hl⟩
  · obtain ⟨i, hi, rfl⟩ := List.mem_iff_getElem.mp hv
    obtain ⟨v0, h0, e1, e2, e3, e4⟩ := h i _ (List.getElem?_eq_getElem hi)
    have := hw.moves v0 (List.mem_of_getElem? h0)
    exact ⟨by rw [e1]; exact this.wk, by rw [e2]; exact this.src, by rw [e3]; exact this.tgt, e4⟩
  · obtain ⟨v0, h0, e1, e2, e3, e4⟩ := h p v hv
    rw [e2]; exact hw.left p hp v0 h0
theorem levelled_ok' {fl fp fd : Nat} (hf : P[f]? = some (d__law_levelled fd fl)) (hl : P[fl]? = some (d__law_level_table fp fd)) (hp : P[fp]? = some (d_pick fd)) (hd : P[fd]? = some d_draw) {d c : Nat} {w : Wb} (hw : WbOk w) (hs : w.sizes.length < 900) (hm : w.moves.length < 900) (h : Dst M d c) (q : ∀ w' M', SameW w w' → (∃ lv : Nat → Int, ∀ v ∈ w'.moves, LvT w.sizes.length lv v.tb) → DrS d c M M' → Q (WD w') M') : wFn P (n + 4) f [.ref d, WD w] M Q E := by
  refine enter hf rfl ?_
  simp only [d__law_levelled]
  rw [ss_cons]
  simp! only [idx_WD0]
  refine ⟨small_line (by omega), cmpr_inv (I := fun M' => DrS d c M M') (p := fun _ y => ∃ i : Int, y = .int i ∧ True) (fun _ _ => trivial) (DrS.refl h) (fun x hx M2 hs2 R hR => ?_) fun ys M1 hys s1 => ?_⟩
  · exact draw_ok hd (by decide) (by decide) hs2.1 fun i M3 i0 i1 s => hR _ _ ⟨i, rfl, trivial⟩ (hs2.trans s)
  have hl' := hys.len
  rw [List.length_map] at hl'
  obtain ⟨lv, er, _⟩ := fn_of (G := D.int) (good := fun _ => True) (ds := ys) (hys.right fun x y _ h => h)
  rw [hl'] at er
  subst er
  intro p hp0
  have hpd := (s1.1.none hp0).1
  have no : ∀ M', DrS d c M1 M' → M' p = Option.none := fun M' s => by rw [s.2 p hpd]; exact hp0
  (rw [ss_cons]; walk_at "wp")
  refine ⟨by decide, fun p2 hp2 => ?_⟩
  rw [ss_cons]
  simp! only [idx_WD4]
  refine for_idx mF (fun k e M' => DrS d c M1 M' ∧ k ≤ w.moves.length ∧ ∃ mvs : List Mv, mvs.length = k ∧ MLike w mvs ∧ (∀ v ∈ mvs, LvT w.sizes.length lv v.tb) ∧ ∃ s4 s5 s6 s7 s8 s9, e = [.val (.ref d), .val (WD w), .own p (.lst ((List.range w.sizes.length).map fun x => .int (lv x))), .own p2 (.lst (mvs.map (MvD w.sizes.length))), s4, s5, s6, s7, s8, s9]) ⟨DrS.refl s1.1, Nat.zero_le _, [], rfl, (fun i v hv => by simp at hv), (fun v hv => by simp at hv), _, _, _, _, _, _, rfl⟩ (fun _ _ _ _ => trivial) (fun e M' hI => ?_) (fun k x e M' hx hI => ?_)
  · obtain ⟨s2, _, mvs, hml, hlike, hlvs, s4, s5, s6, s7, s8, s9, rfl⟩ := hI
    rw [List.length_map] at hml
    (try walk_at "wp")
    rw [ss_cons]
    simp! only [idx_WD0, idx_WD1, idx_WD2, idx_WD3]
    exact ⟨by decide, leave (q { w with moves := mvs } M' (hlike.same hw hml) ⟨lv, hlvs⟩ (s1.trans s2))⟩
  · obtain ⟨s2, _, mvs, hml, hlike, hlvs, s4, s5, s6, s7, s8, s9, rfl⟩ := hI
    rw [List.getElem?_map] at hx
    obtain ⟨v0, hv0, rfl⟩ := Option.map_eq_some_iff.mp hx
    have hkl := (List.getElem?_eq_some_iff.mp hv0).1
    rw [MvD]
    (try walk_at "wp")
    (rw [ss_cons]; walk_at "wp")
    refine level_table_ok' hl hp hd (lv := lv) (by omega) upd_at hpd (s2.1.upd (no _ s2)) fun g M3 hg hlg s3 => ?_
    have s3' := s3.drp s2.1 (no _ s2)
    refine ⟨by rw [s3.2 p hpd]; exact upd_at, by decide, ?_, s2.trans s3', by omega, mvs ++ [{ v0 with tb := g }], by simp [hml], fun i v hv => ?_, fun v hv => ?_, .val (.str v0.name), .val (.int v0.wk), .val (.int v0.src), .val (.int v0.tgt), .val (TD w.sizes.length v0.tb), s9, ?_⟩
    · exact Nat.lt_of_lt_of_le (show mvs.length < 1000 by omega) (by decide)
    · by_cases e : i < mvs.length
      · rw [List.getElem?_append_left e] at hv
        exact hlike i v hv
      · rw [List.getElem?_append_right (by omega)] at hv
        have e2 : i - mvs.length = 0 := by
          by_cases e3 : i - mvs.length = 0
          · exact e3
          · rw [List.getElem?_eq_none (by simp; omega)] at hv; cases hv
        rw [e2] at hv
        have hv : ({ v0 with tb := g } : Mv) = v := by simpa using hv
        subst hv
        have : i = k := by omega
        subst this
        exact ⟨v0, hv0, rfl, rfl, rfl, hg⟩
    · rcases List.mem_append.mp hv with z | z
      · exact hlvs v z
      · rw [List.mem_singleton.mp z]; exact hlg
    · rw [List.map_append]; rfl
theorem levelled_ok {fl fp fd : Nat} (hf : P[f]? = some (d__law_levelled fd fl)) (hl : P[fl]? = some (d__law_level_table fp fd)) (hp : P[fp]? = some (d_pick fd)) (hd : P[fd]? = some d_draw) {d c : Nat} {w : Wb} (hw : WbOk w) (hs : w.sizes.length < 900) (hm : w.moves.length < 900) (h : Dst M d c) (q : ∀ w' M', SameW w w' → DrS d c M M' → Q (WD w') M') : wFn P (n + 4) f [.ref d, WD w] M Q E :=
  levelled_ok' hf hl hp hd hw hs hm h fun w' M' h1 _ h2 => q w' M' h1 h2
theorem MvD_eq {s : Nat} {v : Mv} : MvD s v = .tup [.str v.name, .int v.wk, .int v.src, .int v.tgt, TD s v.tb] := rfl
theorem changed_web_ok {fd : Nat} (hf : P[f]? = some (d__law_changed_web fd)) (hd : P[fd]? = some d_draw) {d c : Nat} {w : Wb} (hw : WbOk w) (hs : w.sizes.length < 900) (hm : w.moves.length < 900) (hm0 : 0 < w.moves.length) (h : Dst M d c) (q : ∀ w' M', SameW w w' → DrS d c M M' → Q (WD w') M') : wFn P (n + 2) f [.ref d, WD w] M Q E := by
  have draw : ∀ {a : Nat} {M : Mem} {many : Int} {Q : QE} {E : QX}, 0 < many → many < 1073741824 → Dst M d c → (∀ k M', 0 ≤ k → k < many → DrS d c M M' → Q (.int k) M') → wFn P (a + 1) fd [.ref d, .int many] M Q E := fun h1 h2 h3 h4 => draw_ok hd h1 (Int.lt_trans h2 (by decide)) h3 h4
  refine enter hf rfl ?_
  simp only [d__law_changed_web]
  rw [ss_cons]
  simp! only [idx_WD0]
  split
  · (rw [ss_cons]; walk_at "wp")
    exact leave (q w M ⟨hw, rfl, rfl, rfl, rfl, rfl⟩ (DrS.refl h))
  rename_i hs0
  rw [ss_cons]
  simp! only [idx_WD4]
  refine draw (by omega) (by omega) h fun k' M1 a1 b1 s1 => ?_
  obtain ⟨k, rfl⟩ := Int.eq_ofNat_of_zero_le a1
  have hk : k < w.moves.length := by omega
  (try walk_at "wp")
  rw [ss_cons]
  simp! only [idx_WD0]
  refine draw (by omega) (by omega) s1.1 fun x' M2 a2 b2 s2 => ?_
  obtain ⟨x, rfl⟩ := Int.eq_ofNat_of_zero_le a2
  have hx : x < w.sizes.length := by omega
  (try walk_at "wp")
  rw [ss_cons]
  simp! only [idx_WD0]
  refine draw (by omega) (by omega) s2.1 fun y' M3 a3 b3 s3 => ?_
  obtain ⟨y, rfl⟩ := Int.eq_ofNat_of_zero_le a3
  have hy : y < w.sizes.length := by omega
  have hs3 := s1.trans (s2.trans s3)
  (try walk_at "wp")
  rw [ss_cons]
  simp! only [idx_WD4, mv_get hk, idx_MvD4, it_TD]
  obtain ⟨v, hv⟩ : ∃ v, w.moves[k] = v := ⟨_, rfl⟩
  have hvk : w.moves[k]? = some v := by rw [List.getElem?_eq_getElem hk, hv]
  have hvo := hw.moves v (List.mem_of_getElem? hvk)
  rw [hv]
  obtain ⟨g, hg⟩ : ∃ g, v.tb = g := ⟨_, rfl⟩
  obtain ⟨m, hmm⟩ : ∃ m, w.sizes.length = m := ⟨_, rfl⟩
  rw [hmm] at hx hy hs
  rw [hg, hmm]
  refine ⟨small_line (by omega), cmpr_acc (fun k ys M' => ∃ a : Nat → Nat, ys = (List.range k).map (fun i => D.ref (a i)) ∧ (∀ i, i < k → M3 (a i) = Option.none ∧ M' (a i) = some (.lst ((List.range m).map fun j => .int (g i j)))) ∧ (∀ i j, i < k → j < k → a i = a j → i = j) ∧ ∀ b, (∀ i, i < k → a i ≠ b) → M' b = M3 b) (fun _ _ _ _ => trivial) (fun k z ys M' hz hI R hR => ?_) ⟨fun _ => 0, rfl, fun i hi => absurd hi (Nat.not_lt_zero _), fun i j hi => absurd hi (Nat.not_lt_zero _), fun _ _ => rfl⟩ fun ys M' hI p hp => ?_⟩
  · obtain ⟨a, rfl, h1, h2, h3⟩ := hI
    obtain ⟨hk, rfl⟩ := get_range hz
    simp only [RD]
    refine ⟨_, rfl, fun p hp => hR _ _ ⟨fun i => if i = k then p else a i, ?_, fun i hi => ?_, fun i j hi hj e => ?_, fun b hb => ?_⟩⟩
    · rw [← range_snoc (g := fun i => D.ref (if i = k then p else a i)), if_pos rfl]
      congr 1
      exact map_range_congr fun i hi => by rw [if_neg (Nat.ne_of_lt hi)]
    · have hap : ∀ i, i < k → a i ≠ p := fun i hi z => by rw [← z, (h1 i hi).2] at hp; cases hp
      dsimp only
      by_cases e : i = k
      · subst e
        rw [if_pos rfl]
        refine ⟨?_, upd_at⟩
        rw [← h3 p hap]; exact hp
      · rw [if_neg e, upd_no (hap i (by omega))]
        exact h1 i (by omega)
    · have hap : ∀ i, i < k → a i ≠ p := fun i hi z => by rw [← z, (h1 i hi).2] at hp; cases hp
      dsimp only at e
      by_cases e1 : i = k <;> by_cases e2 : j = k
      · omega
      · rw [if_pos e1, if_neg e2] at e; exact absurd e.symm (hap j (by omega))
      · rw [if_neg e1, if_pos e2] at e; exact absurd e (hap i (by omega))
      · rw [if_neg e1, if_neg e2] at e; exact h2 i j (by omega) (by omega) e
    · have hbp : b ≠ p := by
        have := hb k (Nat.lt_succ_self _)
        dsimp only at this
        rw [if_pos rfl] at this
        exact this.symm
      rw [upd_no hbp]
      exact h3 b fun i hi => by
        have := hb i (by omega)
        dsimp only at this
        rw [if_neg (Nat.ne_of_lt hi)] at this
        exact this
  · simp only [wS, wE, wEs, wO, wAs, wL, wN, wI, wT, wTs, setAll, Tg.slots, wipeE, cmp_eq_int, cmp_ne_int, cmp_eq_str, cmp_ne_str, cmp_eq_tup, cmp_ne_tup, cmp_eq_bl, cmp_lt, cmp_le, cmp_gt, cmp_ge, Kt0_rt, Kt0_nx, List.getElem?_cons_zero, List.getElem?_cons_succ, List.set_cons_zero, List.set_cons_succ, Option.some.injEq, Slot.val.injEq, Slot.own.injEq, MO.lst.injEq, D.int.injEq, D.ref.injEq, D.bl.injEq, D.tup.injEq, D.str.injEq, exists_eq_left', exists_eq_left, exists_and_left, exists_and_right, and_assoc, true_and, and_true, atI_0, atI_1, atI_2, atI_3, atI_4, backs, drps, List.map_cons, List.map_nil, List.length_cons, List.length_nil, List.cons_append, List.nil_append, List.replicate, Nat.reduceAdd, Nat.reduceSub, decide_eq_true_eq, upd_at, aug_add_int, aug_sub_int, aug_mul_int, aug_add_str, ixN5_1, ixN5_2, ixN5_3, Int.toNat_natCast, List.length_map, List.length_range, tg_nm, tg_tp, tru_non, tru_bl, tru_int, tru_str, tru_tup, tru_ref, bin_add_int, bin_add_str, bin_add_tup, bin_sub, bin_mul, bin_fdiv, bin_mod, bin_pow, bin_shl, bin_shr, bin_band, bin_bor, idx_tup, idx_ref, idx_str, blt_len_tup, blt_len_str, blt_len_ref, blt_int_int, blt_int_bl, blt_bool_bl, blt_bool_int, blt_abs, blt_max2, blt_max3, blt_min2, blt_tuple_tup, blt_tuple_ref, blt_isa_non, blt_isa_bl, blt_isa_int, blt_isa_str, blt_isa_tup, isa_int_int, isa_int_bool, isa_bl_bool, isa_tup, isa_str, lk_tuple, lk_len, lk_all, lk_any, lk_sum, it_tup, it_rl, it_ref, zip_tup, enum_tup, enum_ref, eq_self_iff_true, if_true, Bool.false_eq_true, if_false, reduceIte, ss_nil, rev_tup, rev_ref, ty_split, ty_join, ty_append, ty_pop, ty_popAt, ty_reverse, ty_extend, ty_insert, mth_append, mth_pop, mth_popAt, mth_reverse, mth_extend, mth_insert, mth_split, mth_join, cmp_eq_ref, cmp_ne_ref, slc_tup, slc_str, slc_ref, lk_max, lk_min, cmp_lt_str, cmp_is_bl, cmp_not_bl, cmp_is_non, cmp_not_non, cmp_is_tup, cmp_not_tup, cmp_is_int, cmp_not_int, blt_str, blt_maxt, blt_mint, tg_np] at hI
    obtain ⟨a, rfl, h1, h2, h3⟩ := hI
    obtain ⟨dst3, _⟩ := hs3
    have hd3 : ∀ i, i < m → a i ≠ d ∧ a i ≠ c := fun i hi => dst3.none (h1 i hi).1
    have dst4 : Dst M' d c := by
      obtain ⟨cells, e1, r, g', k1, hcd, k2⟩ := dst3
      exact ⟨cells, e1, r, g', by rw [h3 d fun i hi => (hd3 i hi).1]; exact k1, hcd, by rw [h3 c fun i hi => (hd3 i hi).2]; exact k2⟩
    rw [ss_cons]
    simp! only [atI_range hx]
    refine draw (by decide) (by decide) dst4 fun e M5 e0 e2 s5 => ?_
    have hax : M5 (a x) = some (.lst ((List.range m).map fun j => .int (g x j))) := by rw [s5.2 _ (hd3 x hx).1]; exact (h1 x hx).2
    refine ⟨_, hax, y, by rw [List.length_map, List.length_range]; exact ixN_cast hy, ?_⟩
    rw [ss_cons]
    simp! only [idx_WD4, mv_get hk, hv, MvD_eq]
    rw [ss_cons]
    walk_at "wp"
    obtain ⟨g', hg'⟩ : ∃ g' : Nat → Nat → Int, g' = fun i j => if i = x ∧ j = y then e else g i j := ⟨_, rfl⟩
    have hrow : ∀ i, i < m → upd M5 (a x) (.lst (((List.range m).map fun j => .int (g x j)).set y (.int e))) (a i) = some (.lst ((List.range m).map fun j => .int (g' i j))) := fun i hi => by
      by_cases z : i = x
      · subst z
        rw [upd_at, set_range, hg']
        congr 2
        exact map_range_congr fun j _ => by
          by_cases e : j = y <;> simp [e]
      · rw [upd_no (fun y => z (h2 i x hi hx y)), s5.2 _ (hd3 i hi).1, (h1 i hi).2, hg']
        congr 2
        exact map_range_congr fun j _ => by simp [z]
    refine ⟨small_line (by omega), cmpr_range (fun i => .ref (a i)) (fun i => RD m (g' i)) trivial (fun i hi R hR => ?_) ?_⟩
    · rw [blt_tuple_ref, hrow i hi]
      exact ⟨_, rfl, hR⟩
    (try walk_at "wp")
    rw [show D.tup ((List.range m).map fun i => RD m (g' i)) = TD m g' from rfl]
    refine ⟨by decide, ?_⟩
    rw [ss_cons]
    simp! only [idx_WD0, idx_WD1, idx_WD2, idx_WD3, idx_WD4]
    rw [show ((k : Int) + 1) = ((k + 1 : Nat) : Int) from by omega, cut_to, cut_from]
    have hent : Ent m g' := fun i j hi hj => by
      rw [hg']
      dsimp only
      split
      · omega
      · have := hvo.tb; rw [hg, hmm] at this; exact this i j hi hj
    refine ⟨by decide, small_line (by simp <;> omega), small_line (by simp <;> omega), by decide, ?_⟩
    rw [set_cut (by simpa using hk)]
    have hset : ((w.moves.map (MvD w.sizes.length)).set k (.tup [.str v.name, .int v.wk, .int v.src, .int v.tgt, TD m g'])) = (w.moves.set k { v with tb := g' }).map (MvD w.sizes.length) := by
      rw [List.map_set, ← hmm]; rfl
    rw [hset]
    have hlike : MLike w (w.moves.set k { v with tb := g' }) := fun i u hu => by
      rw [List.getElem?_set] at hu
      split at hu
      · rename_i z
        subst z
        have hu : ({ v with tb := g' } : Mv) = u := by simpa using hu
        subst hu
        exact ⟨v, hvk, rfl, rfl, rfl, by rw [hmm]; exact hent⟩
      · exact ⟨u, hu, rfl, rfl, rfl, (hw.moves u (List.mem_of_getElem? hu)).tb⟩
    have dst6 : Dst (upd M5 (a x) (.lst (((List.range m).map fun j => .int (g x j)).set y (.int e)))) d c := by
      obtain ⟨cells, e1, r, g'', k1, hcd, k2⟩ := s5.1
      exact ⟨cells, e1, r, g'', by rw [upd_no (hd3 x hx).1.symm]; exact k1, hcd, by rw [upd_no (hd3 x hx).2.symm]; exact k2⟩
    refine leaveD h dst6 (fun b hb hbd => ?_) fun M7 s7 => q { w with moves := w.moves.set k { v with tb := g' } } M7 (hlike.same hw (by simp)) s7
    have h3b : M3 b = M b := (s1.trans (s2.trans s3)).2 b hbd
    have hab : ∀ i, i < m → a i ≠ b := fun i hi z => by
      have := (h1 i hi).1
      rw [z, h3b] at this
      exact hb this
    rw [upd_no (hab x hx).symm, s5.2 b hbd, h3 b hab, h3b]
theorem live_web_ok {fw fn fp fpl ft fe fd fl fv fc : Nat} (W : WebDefs P fw fn fp fpl ft fe fd) (hf : P[f]? = some (d__law_live_web fp fd fw fl fc)) (hl : P[fl]? = some (d__law_levelled fd fv)) (hv : P[fv]? = some (d__law_level_table fp fd)) (hc : P[fc]? = some (d__law_changed_web fd)) {d c : Nat} (h : Dst M d c)
    (q : ∀ w M', WbOk w → w.sizes.length ≤ 4 → (1 ≤ w.places.length ∧ w.places.length ≤ 3) → (1 ≤ w.workers.length ∧ w.workers.length ≤ 3) → (w.places.length ≤ w.moves.length ∧ w.moves.length ≤ 6) → DrS d c M M' → Q (WD w) M') : wFn P (n + 6) f [.ref d] M Q E := by
  refine enter hf rfl ?_
  simp only [d__law_live_web]
  (rw [ss_cons]; walk_at "wp")
  refine ⟨by decide, fun p hp => pick_ns (lo := 0) (hi := 4) W.pick W.draw [0, 1, 1, 2, 2, 2, 2, 3, 3, 3, 3, 4] rfl (by decide) (by decide) (by decide) h hp fun s M1 a1 b1 s1 => ?_⟩
  (try walk_at "wp")
  (rw [ss_cons]; walk_at "wp")
  refine ⟨by decide, fun p hp => pick_ns (lo := 1) (hi := 3) W.pick W.draw [1, 2, 2, 3] rfl (by decide) (by decide) (by decide) s1.1 hp fun wk M2 a2 b2 s2 => ?_⟩
  (try walk_at "wp")
  (rw [ss_cons]; walk_at "wp")
  refine ⟨by decide, fun p hp => pick_ns (lo := 1) (hi := 3) W.pick W.draw [1, 1, 2, 2, 3] rfl (by decide) (by decide) (by decide) s2.1 hp fun pl M3 a3 b3 s3 => ?_⟩
  (try walk_at "wp")
  (rw [ss_cons]; walk_at "wp")
  refine ⟨by decide, fun p hp => pick_ns (lo := 0) (hi := 3) W.pick W.draw [0, 1, 1, 2, 3] rfl (by decide) (by decide) (by decide) s3.1 hp fun ex M4 a4 b4 s4 => ?_⟩
  (try walk_at "wp")
  (rw [ss_cons]; walk_at "wp")
  refine draw_ok W.draw (by decide) (by decide) s4.1 fun st M5 a5 b5 s5 => ?_
  (try walk_at "wp")
  (rw [ss_cons]; walk_at "wp")
  rw [show ((pl : Int) + (ex : Int)) = ((pl + ex : Nat) : Int) from by omega]
  refine web_ok W.web W.names W.pool W.table W.entry W.pick W.draw (by omega) ⟨by omega, by omega⟩ ⟨by omega, by omega⟩ (by omega) s5.1 fun w M6 hw hz hn s6 => ?_
  have e1 := hz.sizes
  have e2 := hz.workers
  have e3 := hz.places
  have e4 := hz.moves
  have hs6 := s1.trans (s2.trans (s3.trans (s4.trans (s5.trans s6))))
  have fin : ∀ w' M', SameW w w' → DrS d c M6 M' → Q (WD w') M' := fun w' M' hsame s7 => by
    have k1 := hsame.sizes
    have k2 := hsame.places
    have k3 := hsame.moves
    have k4 := hsame.workers
    exact q w' M' hsame.ok (by rw [k1]; omega) (by rw [k2]; omega) (by rw [k4]; omega) (by rw [k2, k3]; omega) (hs6.trans s7)
  (try walk_at "wp")
  rw [ss_cons]
  walk_at "wp"
  have rest : ∀ w' M', SameW w w' → DrS d c M6 M' → wSs (wFn P (n + 5)) [(.ite (.v (.cmp .eq (.var 5) (.cst (.int 7)))) [(.asg (.nm 6) (.call fc (.cons (.var 0) (.cons (.var 6) .nil))))] []),
      (.ret (.var 6))] [.val (.ref d), .val (.int s), .val (.int wk), .val (.int pl), .val (.int ((pl + ex : Nat) : Int)), .val (.int st), .val (WD w')] M' (Kt0 Q E) := fun w' M' hsame s7 => by
    have k1 := hsame.sizes
    have k3 := hsame.moves
    rw [ss_cons]
    walk_at "wp"
    split
    · (rw [ss_cons]; walk_at "wp")
      refine changed_web_ok hc W.draw hsame.ok (by rw [k1]; omega) (by rw [k3]; omega) (by rw [k3]; omega) s7.1 fun w'' M8 hs8 s8 => ?_
      (try walk_at "wp")
      (rw [ss_cons]; walk_at "wp")
      exact leave (fin w'' M8 (hsame.tr hs8) (s7.trans s8))
    · (rw [ss_cons]; walk_at "wp")
      exact leave (fin w' M' hsame s7)
  split
  · (rw [ss_cons]; walk_at "wp")
    refine levelled_ok hl hv W.pick W.draw hw (by omega) (by omega) s6.1 fun w' M7 hsame s7 => ?_
    (try walk_at "wp")
    exact rest w' M7 hsame s7
  · exact rest w M6 ⟨hw, rfl, rfl, rfl, rfl, rfl⟩ (DrS.refl s6.1)
theorem great_live_ok {fv fp ft fe fd : Nat} (hf : P[f]? = some (d__law_great_live fd fp fv ft)) (hv : P[fv]? = some (d__law_level_table fp fd)) (ht : P[ft]? = some (d__law_table fp fe)) (he : P[fe]? = some (d__law_entry fp fd)) (hp : P[fp]? = some (d_pick fd)) (hd : P[fd]? = some d_draw) {d c : Nat} (h : Dst M d c)
    (q : ∀ w M', WbOk w → (4 ≤ w.sizes.length ∧ w.sizes.length ≤ 9) → w.workers.length = 4 → (1 ≤ w.places.length ∧ w.places.length ≤ 64) → (w.places.length ≤ w.moves.length ∧ w.moves.length ≤ 160) → DrS d c M M' → Q (WD w) M') : wFn P (n + 6) f [.ref d] M Q E := by
  have draw : ∀ (a : Nat) (M : Mem) (many : Int) (Q : QE) (E : QX), 0 < many → many < 1073741824 → Dst M d c → (∀ k M', 0 ≤ k → k < many → DrS d c M M' → Q (.int k) M') → wFn P (a + 1) fd [.ref d, .int many] M Q E := fun a M many Q E h1 h2 h3 h4 => draw_ok hd h1 (Int.lt_trans h2 (by decide)) h3 h4
  refine enter hf rfl ?_
  simp only [d__law_great_live]
  (rw [ss_cons]; walk_at "wp")
  refine draw _ _ _ _ _ (by decide) (by decide) h fun a M1 a0 a1 s1 => ?_
  obtain ⟨s, hs⟩ : ∃ s : Nat, 4 + a = (s : Int) := ⟨(4 + a).toNat, by omega⟩
  (try walk_at "wp")
  rw [hs]
  (rw [ss_cons]; walk_at "wp")
  refine ⟨by decide, fun p hp1 => pick_ns (lo := 1) (hi := 64) hp hd [1, 2, 5, 20, 64] rfl (by decide) (by decide) (by decide) s1.1 hp1 fun pl M2 b0 b1 s2 => ?_⟩
  (try walk_at "wp")
  rw [ss_cons]
  walk_at "wp"
  refine ⟨by omega, by omega, small_line (by omega), cmpr_inv (I := fun M' => DrS d c M M') (p := fun _ y => ∃ i : Int, y = .int i ∧ True) (fun _ _ => trivial) (s1.trans s2) (fun x hx M2 hs2 R hR => ?_) fun ys M3 hys s3 => ?_⟩
  · exact draw_ok hd (by decide) (by decide) hs2.1 fun i M3 i0 i1 s => hR _ _ ⟨i, rfl, trivial⟩ (hs2.trans s)
  have hl' := hys.len
  simp only [List.length_map, List.length_range] at hl'
  obtain ⟨lv, er, _⟩ := fn_of (G := D.int) (good := fun _ => True) (ds := ys) (hys.right fun x y _ h => h)
  rw [hl'] at er
  subst er
  clear hys hl'
  intro p hp0
  have hpd := (s3.1.none hp0).1
  have no : ∀ M', DrS d c M3 M' → M' p = Option.none := fun M' s => by rw [s.2 p hpd]; exact hp0
  rw [ss_cons]
  walk_at "wp"
  refine ⟨by decide, by decide, by decide, cmpr_inv (I := fun M' => DrS d c M3 M') (p := fun _ y => ∃ g, y = TD s g ∧ Ent s g) (fun _ _ => trivial) (DrS.refl s3.1) (fun x hx M4 hs4 R hR => ?_) fun ys M5 hys s5 => ?_⟩
  · refine level_table_ok hv hp hd (lv := lv) (by omega) upd_at hpd (hs4.1.upd (no _ hs4)) fun g M6 hg s6 => ?_
    have s6' := s6.drp hs4.1 (no _ hs4)
    refine ⟨by rw [s6.2 p hpd]; exact upd_at, hR _ _ ⟨g, rfl, hg⟩ (hs4.trans s6')⟩
  have hyl := hys.len
  simp only [List.length_map, List.length_range] at hyl
  have hyl : ys.length = 8 := by rw [hyl]; rfl
  have hyt : ∀ y ∈ ys, ∃ g, y = TD s g ∧ Ent s g := hys.right fun x y _ h => h
  have hs5 := s3.trans s5
  intro p4 hp4
  have hp4d := (hs5.1.none hp4).1
  clear hys
  have rest : ∀ (ys : List D) M5, ys ≠ [] → ys.length < 100 → (∀ y ∈ ys, ∃ g, y = TD s g ∧ Ent s g) → DrS d c M M5 → M5 p4 = Option.none → wSs (wFn P (n + 5)) (((d__law_great_live fd fp fv ft).body.drop 5)) [.val (.ref d), .val (.int s), .val (.int pl), .own p (.lst ((List.range s).map fun x => .int (lv x))), .own p4 (.lst ys), .no, .no, .no, .no, .no, .no] M5 (Kt0 Q E) := fun ys M5 hyn hyl hyt hs5 hp4 => by
    have no4 : ∀ M', DrS d c M5 M' → M' p4 = Option.none := fun M' s => by rw [s.2 p4 hp4d]; exact hp4
    simp only [d__law_great_live, List.drop]
    (rw [ss_cons]; walk_at "wp")
    refine ⟨by decide, fun p5 hp5 => ?_⟩
    rw [ss_cons]
    walk_at "wp"
    refine ⟨by decide, fun p6 hp6 => pick_ns (lo := 0) (hi := 96) hp hd [0, 3, 12, 96] rfl (by decide) (by decide) (by decide) hs5.1 hp6 fun ex M6 e0 e1 s6 => ?_⟩
    obtain ⟨mv, hmv⟩ : ∃ mv : Nat, min (160 : Int) ((pl : Int) + (ex : Int)) = (mv : Int) := ⟨min 160 (pl + ex), by omega⟩
    have hmv1 : pl ≤ mv ∧ mv ≤ 160 := by omega
    (try walk_at "wp")
    rw [hmv]
    refine ⟨by omega, by omega, ?_⟩
    refine for_range mF (fun k e M' => DrS d c M5 M' ∧ k ≤ mv ∧ ∃ mvs : List Mv, mvs.length = k ∧ (∀ v ∈ mvs, MvOk s 4 pl v) ∧ (∀ p, p < pl → ∀ v, mvs[p]? = some v → v.src = p) ∧ ∃ s6 s7 s8, e = [.val (.ref d), .val (.int s), .val (.int pl), .own p (.lst ((List.range s).map fun x => .int (lv x))), .own p4 (.lst ys), .own p5 (.lst (mvs.map (MvD s))), s6, s7, s8, .no, .no])
      ⟨s6, Nat.zero_le _, [], rfl, by simp, by simp, _, _, _, rfl⟩ (fun _ _ _ _ => trivial) (fun e M' hI => ?_) (fun k e M' hk hI => ?_)
    · obtain ⟨hs', _, mvs, hml, hmo, hmf, s6, s7, s8, rfl⟩ := hI
      (try walk_at "wp")
      have names : ∀ (x : Str) (m : Nat) (R : QL), x.length ≤ 100 → m < 1000 → (R ((List.range m).map fun k => .str (nmS x k)) M') → ∀ ee : D → Mem → (Option D → Mem → Prop) → Prop, (∀ k : Nat, k < m → ∀ R : Option D → Mem → Prop, R (some (.str (nmS x k))) M' → ee (.int k) M' R) → wCmpr (fun _ => True) ee ((List.range m).map fun (k : Nat) => .int (k : Int)) M' R := fun x m R hx hm r ee hee =>
        cmpr_range (fun k => .int k) (fun k => .str (nmS x k)) trivial hee r
      (rw [ss_cons]; walk_at "wp")
      refine ⟨by omega, by omega, small_line (by omega), names "s" s _ (by decide) (by omega) ?_ _ fun k hk R hR => ?_⟩
      rotate_left
      · (try walk_at "wp")
        exact ⟨small_log (by omega), nm_line (by omega) (by decide), hR⟩
      (rw [ss_cons]; walk_at "wp")
      refine ⟨by omega, by omega, small_line (by omega), names "p" pl _ (by decide) (by omega) ?_ _ fun k hk R hR => ?_⟩
      rotate_left
      · (try walk_at "wp")
        exact ⟨small_log (by omega), nm_line (by omega) (by decide), hR⟩
      (rw [ss_cons]; walk_at "wp")
      refine ⟨by decide, draw _ _ _ _ _ (by omega) (by omega) hs'.1 fun b' M2 b0 b1 s2 => ?_⟩
      obtain ⟨st2, rfl⟩ := Int.eq_ofNat_of_zero_le b0
      (try walk_at "wp")
      refine ⟨by decide, leave ?_⟩
      have l : ∀ (x : Str) (m : Nat), ((List.range m).map (nmS x)).length = m := fun x m => by simp
      have := q ⟨(List.range s).map (nmS "s"), ["a", "b", "c", "d"], (List.range pl).map (nmS "p"), st2, mvs⟩ M2 ⟨by simp only [l]; omega, by simp only [l]; exact hmo, by simp only [l]; exact hmf⟩ (by simp only [l]; omega) rfl (by simp only [l]; omega) (by simp only [l]; omega) (hs5.trans (hs'.trans s2))
      simp only [WD, l, List.map_map, Function.comp_def] at this
      exact this
    · obtain ⟨hs', _, mvs, hml, hmo, hmf, t6, t7, t8, rfl⟩ := hI
      have tail : ∀ (z : Nat) M2 t8, z < pl → (k < pl → z = k) → DrS d c M5 M2 → wSs (wFn P (n + 5)) [(.asg (.nm 8) (.call fd (.cons (.var 0) (.cons (.var 2) .nil)))),
          (.app 5 (.tup (.cons (.bin .add (.cst (.str "m")) (.blt .str (.cons (.var 6) .nil))) (.cons (.call fd (.cons (.var 0) (.cons (.cst (.int 4)) .nil))) (.cons (.var 7) (.cons (.var 8) (.cons (.call fp (.cons (.var 0) (.lend 4 .nil))) .nil)))))))]
          [.val (.ref d), .val (.int s), .val (.int pl), .own p (.lst ((List.range s).map fun x => .int (lv x))), .own p4 (.lst ys), .own p5 (.lst (mvs.map (MvD s))), .val (.int k), .val (.int z), t8, .no, .no] M2
          { Kt0 Q E with nx := fun e M' => DrS d c M5 M' ∧ k + 1 ≤ mv ∧ ∃ mvs : List Mv, mvs.length = k + 1 ∧ (∀ v ∈ mvs, MvOk s 4 pl v) ∧ (∀ p, p < pl → ∀ v, mvs[p]? = some v → v.src = p) ∧ ∃ s6 s7 s8, e = [.val (.ref d), .val (.int s), .val (.int pl), .own p (.lst ((List.range s).map fun x => .int (lv x))), .own p4 (.lst ys), .own p5 (.lst (mvs.map (MvD s))), s6, s7, s8, .no, .no] } := fun z M2 t8 hz hzk s2 => by
        (rw [ss_cons]; walk_at "wp")
        refine draw _ _ _ _ _ (by omega) (by omega) s2.1 fun y' M4 y0 y1 s4 => ?_
        obtain ⟨y, rfl⟩ := Int.eq_ofNat_of_zero_le y0
        (try walk_at "wp")
        (rw [ss_cons]; walk_at "wp")
        refine ⟨small_log (by omega), nm_line (by omega) (by decide), ?_⟩
        refine draw _ _ _ _ _ (by omega) (by omega) s4.1 fun u' M5 u0 u1 s5 => ?_
        obtain ⟨u, rfl⟩ := Int.eq_ofNat_of_zero_le u0
        (try walk_at "wp")
        have hs5 := s2.trans (s4.trans s5)
        refine pick_ok hp hd (hs5.1.upd (no4 _ hs5)) upd_at hp4d hyn (by omega) fun t M6 hx s6 => ?_
        obtain ⟨g, rfl, hg⟩ := hyt t hx
        refine ⟨by rw [s6.2 p4 hp4d]; exact upd_at, by decide, Nat.lt_of_lt_of_le (show mvs.length < 1000 by omega) (by decide), hs5.trans (s6.drp hs5.1 (no4 _ hs5)), by omega, mvs ++ [⟨nmS "m" k, u, z, y, g⟩], by simp [hml], fun v hv => ?_, fun p' hp' v hv => ?_, ?_⟩
        · rcases List.mem_append.mp hv with hv | hv
          · exact hmo v hv
          · rw [List.mem_singleton.mp hv]
            exact ⟨by show u < 4; omega, hz, by show y < pl; omega, hg⟩
        · by_cases e : p' < mvs.length
          · rw [List.getElem?_append_left e] at hv
            exact hmf p' hp' v hv
          · rw [List.getElem?_append_right (by omega)] at hv
            have e2 : p' - mvs.length = 0 := by
              by_cases e3 : p' - mvs.length = 0
              · exact e3
              · rw [List.getElem?_eq_none (by simp; omega)] at hv; cases hv
            rw [e2] at hv
            have hv : (⟨nmS "m" k, u, z, y, g⟩ : Mv) = v := by simpa using hv
            subst hv
            show z = p'
            have := hzk (by omega)
            omega
        · refine ⟨.val (.int k), .val (.int z), .val (.int y), ?_⟩
          rw [List.map_append]; rfl
      (try walk_at "wp")
      (rw [ss_cons]; walk_at "wp")
      split
      · exact tail k M' _ (by omega) (fun _ => rfl) hs'
      · refine draw _ _ _ _ _ (by omega) (by omega) hs'.1 fun x' M2 x0 x1 s2 => ?_
        obtain ⟨x, rfl⟩ := Int.eq_ofNat_of_zero_le x0
        (try walk_at "wp")
        exact tail x M2 _ (by omega) (fun z => absurd z (by omega)) (hs'.trans s2)
  simp only [d__law_great_live, List.drop] at rest
  (rw [ss_cons]; walk_at "wp")
  refine draw _ _ _ _ _ (by decide) (by decide) hs5.1 fun k M6 _ _ s6 => ?_
  have hp46 : M6 p4 = Option.none := by rw [s6.2 p4 hp4d]; exact hp4
  (try walk_at "wp")
  split
  · (rw [ss_cons]; walk_at "wp")
    refine table_ok ht he hp hd (by omega) s6.1 fun g M7 hg s7 => ?_
    (try walk_at "wp")
    refine ⟨Nat.lt_of_lt_of_le (show ys.length < 1000 by omega) (by decide), rest _ M7 (by simp) (by simp; omega) (fun y hy => ?_) (hs5.trans (s6.trans s7)) (by rw [s7.2 p4 hp4d]; exact hp46)⟩
    rcases List.mem_append.mp hy with hy | hy
    · exact hyt y hy
    · rw [List.mem_singleton.mp hy]; exact ⟨g, rfl, hg⟩
  · exact rest ys M6 (fun z => by rw [z] at hyl; exact absurd hyl (by decide)) (by omega) hyt (hs5.trans s6) hp46
theorem cut_mid {xs : List D} {i j : Nat} (hj : j ≤ xs.length) : cutD xs (some (i : Int)) (some (j : Int)) = (xs.drop i).take (j - i) := by
  unfold cutD
  rw [HT.sIx_nat, HT.sIx_nat, Nat.min_eq_left hj]
  by_cases h : i ≤ xs.length
  · rw [Nat.min_eq_left h]
  · rw [Nat.min_eq_right (by omega), List.drop_eq_nil_of_le (by omega), List.drop_eq_nil_of_le (by omega)]; simp
theorem slc_Wo_mid {ks : List Nat} {i j : Nat} (hj : j ≤ ks.length) {Q : D → Mem → Prop} : wSlc (WoD ks) (some (i : Int)) (some (j : Int)) M Q = Q (WoD ((ks.drop i).take (j - i))) M := by
  rw [WoD, slc_tup, cut_mid (by simpa using hj), ← List.map_drop, ← List.map_take]; rfl
theorem hereAt_lt {w : Wb} (hw : WbOk w) {ks : List Nat} (hk : WordOk w ks) : ∀ {i : Nat}, i ≤ ks.length → hereAt w w.start ks i < w.places.length
  | 0, _ => hw.start
  | i + 1, h => by
    rw [hereAt, tgtN_eq (hk.at h)]
    exact (hw.moves _ (List.getElem_mem (hk.at h))).tgt
/-- a stem and a round, cut out of a word -/
structure SpanOk (w : Wb) (ks : List Nat) (ij : Nat × Nat) : Prop where
  lt : ij.1 < ij.2
  le : ij.2 ≤ ks.length
  same : hereAt w w.start ks ij.1 = hereAt w w.start ks ij.2
def stemOf (ks : List Nat) (ij : Nat × Nat) : List Nat := ks.take ij.1
def turnOf (ks : List Nat) (ij : Nat × Nat) : List Nat := (ks.drop ij.1).take (ij.2 - ij.1)
theorem lassos_ok {fw fl fp fd : Nat} (hf : P[f]? = some (d__law_lassos fw fp)) (hfw : P[fw]? = some (d__law_word fl fp)) (hl : P[fl]? = some d__law_leaving) (hp : P[fp]? = some (d_pick fd)) (hd : P[fd]? = some d_draw) {d c l many : Nat} {w : Wb} (hw : WbOk w) (hm : w.moves.length < 900) (hlive : w.places.length ≤ w.moves.length) (hll : w.places.length ≤ l) (hl9 : l < 900) (hmany : many < 900) (h : Dst M d c)
    (q : ∀ (ks : List Nat) (sp : List (Nat × Nat)) p M', ks.length = l → Steps w w.start ks → WordOk w ks → sp.length = many → (∀ ij ∈ sp, SpanOk w ks ij) → DrS d c M M' → M' p = Option.none → Q (.ref p) (upd M' p (.lst (sp.map fun ij => .tup [WoD (stemOf ks ij), WoD (turnOf ks ij)])))) : wFn P (n + 5) f [.ref d, WD w, .int l, .int many] M Q E := by
  refine enter hf rfl ?_
  simp only [d__law_lassos]
  rw [ss_cons]
  simp! only [idx_WD3]
  refine word_ok hfw hl hp hd hw (by omega) hw.start (by omega) h fun ks M1 hkl hst hlen s1 => ?_
  have hkl : ks.length = l := hlen hlive
  obtain ⟨hk, _⟩ := steps_fit hst
  obtain ⟨H, hH⟩ : ∃ H, hereAt w w.start ks = H := ⟨_, rfl⟩
  change wSs _ _ [_, _, _, _, .val (WoD ks), _, _, _, _, _, _, _] _ _
  rw [ss_cons]
  simp! only [idx_WD3]
  refine ⟨by decide, fun p5 hp5 => ?_⟩
  rw [ss_cons]
  simp! only [it_Wo']
  refine for_rangeU mF (fun i e M' => M' = M1 ∧ ∃ s6, e = [.val (.ref d), .val (WD w), .val (.int l), .val (.int many), .val (WoD ks), .own p5 (.lst ((List.range (i + 1)).map fun i => .int (H i : Nat))), s6, .no, .no, .no, .no, .no]) ⟨rfl, _, by rw [← hH]; rfl⟩ (fun _ _ _ _ => trivial) (fun e M' hI => ?_) (fun i e M' hi hI => ?_)
  rotate_left
  · obtain ⟨rfl, s6, rfl⟩ := hI
    have hmv := hk.at hi
    (try walk_at "wp")
    rw [ss_cons]
    simp! only [idx_WD4, mv_get hmv, MvD_eq]
    have e1 : H (i + 1) = w.moves[ks.getD i 0].tgt := by rw [← hH, hereAt, tgtN_eq hmv]
    rw [← e1, range_snoc (g := fun i => D.int (H i : Nat))]
    exact ⟨Nat.lt_of_lt_of_le (show i + 1 < 1000 by omega) (by decide), _, rfl⟩
  obtain ⟨rfl, s6, rfl⟩ := hI
  (try walk_at "wp")
  (rw [ss_cons]; walk_at "wp")
  refine ⟨by decide, fun p7 hp7 => ?_⟩
  rw [ss_cons]
  walk_at "wp"
  refine ⟨by omega, by omega, ?_⟩
  refine for_range (n := ks.length + 1) mF (fun i e M2 => M2 = M' ∧ ∃ sp : List (Nat × Nat), (∀ ij ∈ sp, SpanOk w ks ij) ∧ sp.length ≤ i * 1000 ∧ (∀ a b, a < b → b ≤ ks.length → H a = H b → a < i → sp ≠ []) ∧ ∃ s8 s9, e = [.val (.ref d), .val (WD w), .val (.int l), .val (.int many), .val (WoD ks), .own p5 (.lst ((List.range (ks.length + 1)).map fun i => .int (H i : Nat))), s6, .own p7 (.lst (sp.map fun ij => .tup [.int ij.1, .int ij.2])), s8, s9, .no, .no])
    ⟨rfl, [], (fun _ h => (nomatch h)), Nat.zero_le _, (fun a b _ _ _ h => absurd h (by omega)), _, _, rfl⟩ (fun _ _ _ _ => trivial) (fun e M2 hI => ?_) (fun i e M2 hi hI => ?_)
  rotate_left
  · obtain ⟨rfl, sp, hsp, hspl, hcomp, s8, s9, rfl⟩ := hI
    (try walk_at "wp")
    rw [ss_cons]
    walk_at "wp"
    refine ⟨by omega, by omega, by omega, by omega, ?_⟩
    rw [show (((ks.length + 1 : Nat) : Int) - ((i : Int) + 1)).toNat = ks.length - i from by omega]
    refine for_rangeU mF (fun t e M3 => M3 = M2 ∧ ∃ sp' : List (Nat × Nat), (∀ ij ∈ sp', SpanOk w ks ij) ∧ sp'.length ≤ i * 1000 + t ∧ (∀ a b, a < b → b ≤ ks.length → H a = H b → (a < i ∨ (a = i ∧ b < i + 1 + t)) → sp' ≠ []) ∧ ∃ s9, e = [.val (.ref d), .val (WD w), .val (.int l), .val (.int many), .val (WoD ks), .own p5 (.lst ((List.range (ks.length + 1)).map fun i => .int (H i : Nat))), s6, .own p7 (.lst (sp'.map fun ij => .tup [.int ij.1, .int ij.2])), .val (.int i), s9, .no, .no])
      ⟨rfl, sp, hsp, by omega, (fun a b h1 h2 h3 h4 => hcomp a b h1 h2 h3 (by omega)), _, rfl⟩ (fun _ _ _ _ => trivial) (fun e M3 hI => ?_) (fun t e M3 ht hI => ?_)
    · obtain ⟨rfl, sp', hsp', hspl', hcomp', s9, rfl⟩ := hI
      (try walk_at "wp")
      exact ⟨sp', hsp', by omega, fun a b h1 h2 h3 h4 => hcomp' a b h1 h2 h3 (by omega), _, _, rfl⟩
    · obtain ⟨rfl, sp', hsp', hspl', hcomp', s9, rfl⟩ := hI
      rw [show ((i : Int) + 1 + (t : Int)) = ((i + 1 + t : Nat) : Int) from by omega]
      (try walk_at "wp")
      rw [ss_cons]
      simp! only [atI_range (show i < ks.length + 1 by omega), atI_range (show i + 1 + t < ks.length + 1 by omega)]
      split
      · rename_i heq
        have heq : H i = H (i + 1 + t) := by omega
        (rw [ss_cons]; walk_at "wp")
        refine ⟨by decide, Nat.lt_of_lt_of_le (show sp'.length < 2000000 by omega) (by decide), sp' ++ [(i, i + 1 + t)], fun ij hij => ?_, by simp; omega, fun a b _ _ _ _ => by simp, _, by rw [List.map_append]; rfl⟩
        rcases List.mem_append.mp hij with z | z
        · exact hsp' ij z
        · rw [List.mem_singleton.mp z]
          exact ⟨by show i < i + 1 + t; omega, by show i + 1 + t ≤ ks.length; omega, by rw [hH]; exact heq⟩
      · rename_i hne
        refine ⟨sp', hsp', by omega, fun a b h1 h2 h3 h4 => ?_, _, rfl⟩
        by_cases z : a = i ∧ b = i + 1 + t
        · obtain ⟨rfl, rfl⟩ := z
          exact absurd (by omega) hne
        · exact hcomp' a b h1 h2 h3 (by omega)
  · obtain ⟨rfl, sp, hsp, hspl, hcomp, s8, s9, rfl⟩ := hI
    have hne : sp ≠ [] := by
      obtain ⟨a, b, h1, h2, h3⟩ := pigeon (n := w.places.length) (W := H) fun i hi => by rw [← hH]; exact hereAt_lt hw hk (by omega)
      exact hcomp a b h1 (by omega) h3 (by omega)
    (try walk_at "wp")
    (rw [ss_cons]; walk_at "wp")
    refine ⟨by decide, fun p10 hp10 => ?_⟩
    have hp10d := (s1.1.none hp10).1
    have hp7d := (s1.1.none hp7).1
    have no7 : ∀ M', DrS d c M2 M' → M' p7 = Option.none := fun M' s => by rw [s.2 p7 hp7d]; exact hp7
    rw [ss_cons]
    walk_at "wp"
    refine ⟨by omega, by omega, ?_⟩
    refine for_range (n := many) mF (fun k e M3 => DrS d c M2 M3 ∧ k ≤ many ∧ ∃ fo : List (Nat × Nat), fo.length = k ∧ (∀ ij ∈ fo, SpanOk w ks ij) ∧ ∃ s8 s9 s11, e = [.val (.ref d), .val (WD w), .val (.int l), .val (.int many), .val (WoD ks), .own p5 (.lst ((List.range (ks.length + 1)).map fun i => .int (H i : Nat))), s6, .own p7 (.lst (sp.map fun ij => .tup [.int ij.1, .int ij.2])), s8, s9, .own p10 (.lst (fo.map fun ij => .tup [WoD (stemOf ks ij), WoD (turnOf ks ij)])), s11])
      ⟨DrS.refl s1.1, Nat.zero_le _, [], rfl, (fun _ h => (nomatch h)), _, _, _, rfl⟩ (fun _ _ _ _ => trivial) (fun e M3 hI => ?_) (fun k e M3 hk' hI => ?_)
    · obtain ⟨s3, _, fo, hfl, hfo, s8, s9, s11, rfl⟩ := hI
      (try walk_at "wp")
      rw [ss_cons]
      walk_at "wp"
      exact fun _ => leave (q ks fo p10 M3 hkl hst hk hfl hfo (s1.trans s3) (by rw [s3.2 p10 hp10d]; exact hp10))
    · obtain ⟨s3, _, fo, hfl, hfo, s8, s9, s11, rfl⟩ := hI
      (try walk_at "wp")
      rw [ss_cons]
      walk_at "wp"
      refine pick_ok hp hd (s3.1.upd (no7 _ s3)) upd_at hp7d (by simpa using hne) (by rw [List.length_map]; omega) fun t M4 hx s4 => ?_
      obtain ⟨ij, hij, rfl⟩ := List.mem_map.mp hx
      have hok := hsp ij hij
      refine ⟨by rw [s4.2 p7 hp7d]; exact upd_at, ?_⟩
      (try walk_at "wp")
      rw [ss_cons]
      walk_at "wp"
      have hle : ij.2 ≤ ks.length := hok.le
      rw [slc_Wo_to, slc_Wo_mid hle]
      refine ⟨by decide, Nat.lt_of_lt_of_le (show fo.length < 1000 by omega) (by decide), s3.trans (s4.drp s3.1 (no7 _ s3)), by omega, fo ++ [ij], by simp [hfl], fun x hx => ?_, _, _, _, by rw [List.map_append]; rfl⟩
      rcases List.mem_append.mp hx with z | z
      · exact hfo x z
      · rw [List.mem_singleton.mp z]; exact hok
theorem cmp_ne_RD {s : Nat} {r r' : Nat → Int} {R : Bool → Prop} : wCmp .ne (RD s r) (RD s r') M R = R (!decide (∀ x, x < s → r x = r' x)) := by
  have h1 := RD_flat (n := s) (r := r) (k := 59)
  have h2 := RD_flat (n := s) (r := r') (k := 59)
  rw [RD] at h1 h2
  rw [RD, RD, cmp_ne_tup, eqvs_ints]
  simp [h1, h2]
theorem cmp_ne_non {s : Nat} {r : Nat → Int} {R : Bool → Prop} : wCmp .ne .non (RD s r) M R = R true := by
  have h2 := RD_flat (n := s) (r := r) (k := 59)
  rw [RD] at h2
  simp [RD, wCmp, D.flat, D.eqv] at h2 ⊢
  intro _
  exact h2
theorem turn_row_ok {fr : Nat} (hf : P[f]? = some (d_turn_row fr)) (hr : P[fr]? = some d_row_ahead) {w : Wb} (hw : WbOk w) (hs : w.sizes.length < 900) {js : List Nat} (hj : js ≠ []) (hk : WordOk w js) (hkl : js.length < 900) (hst : Stk w.sizes.length (wtab w js)) (q : Q (RD w.sizes.length (itF (wordF w js NoF) (w.sizes.length + 1))) M) : wFn P (n + 2) f [WD w, WoD js] M Q E := by
  refine enter hf rfl ?_
  simp only [d_turn_row]
  rw [ss_cons]
  simp! only [rev_Wo]
  refine ⟨small_line (by omega), cmpr_range (fun i => .int ((js.getD (js.length - 1 - i) 0 : Nat) : Int)) (fun i => TD w.sizes.length (tbN w (js.getD (js.length - 1 - i) 0))) trivial (fun i hi R hR => ?_) fun p hp => ?_⟩
  · have hmv := hk.at (k := js.length - 1 - i) (by omega)
    simp! only [idx_WD4, mv_get hmv, idx_MvD4]
    rw [← tbN_eq hmv]; exact hR
  rw [ss_cons]
  simp! only [idx_WD0]
  refine ⟨small_line (by omega), cmpr_mapG (fun z => D.str z) (fun _ => .int 0) trivial (fun z hz R hR => hR) ?_⟩
  have e0 : D.tup (w.sizes.map fun _ => D.int 0) = RD w.sizes.length (itF (wordF w js NoF) 0) := by
    unfold RD
    congr 1
    exact List.ext_getElem (by simp) fun i h1 h2 => by simp [itF]
  rw [e0]
  (rw [ss_cons]; walk_at "wp")
  rw [ss_cons]
  obtain ⟨F, hF⟩ : ∃ F, wordF w js NoF = F := ⟨_, rfl⟩
  rw [hF] at q ⊢
  have hop : MOp w.sizes.length F (wlo w js NoF) (WA w js) := by rw [← hF]; exact wordF_op hj
  have hend : ∀ x, x < w.sizes.length → itF F (w.sizes.length + 1) x = itF F w.sizes.length x := fun x hx => by
    rw [← hF]; exact round_stand hw hj hk hst (fun _ _ _ _ => Int.le_refl _) hx
  obtain ⟨I, hI⟩ : ∃ I : Nat → Env → Mem → Prop, I = fun k e M' => M' = M ∧ k ≤ w.sizes.length + 1 ∧ ∃ t4, (k = 0 → t4 = .non) ∧ (∀ k', k = k' + 1 → t4 = RD w.sizes.length (itF F k')) ∧ ∃ s5 s6 s7, e = [.val (WD w), .val (WoD js), .own p (.lst ((List.range js.length).map fun i => TD w.sizes.length (tbN w (js.getD (js.length - 1 - i) 0)))), .val (RD w.sizes.length (itF F k)), .val t4, s5, s6, s7] := ⟨_, rfl⟩
  refine whl_at mF I (w.sizes.length + 1)
    (by rw [hI]; exact ⟨rfl, Nat.zero_le _, .non, fun _ => rfl, (fun k' h => absurd h (by omega)), _, _, _, rfl⟩) (fun k e m' h => by rw [hI] at h; exact h.2.1) (fun k e M' h => ?_)
  have h := h
  rw [hI] at h
  obtain ⟨rfl, hkk, t4, ht0, ht1, s5, s6, s7, rfl⟩ := h
  have body : k ≤ w.sizes.length → ∀ K : Kt, (∀ e m, I (k + 1) e m → K.nx e m) → wSs (wFn P (n + 1)) [(.asg (.nm 4) (.var 3)),
      (.for_ (.nm 5) (.own 2) [(.asg (.nm 3) (.call fr (.cons (.var 5) (.cons (.var 3) .nil))))])]
      [.val (WD w), .val (WoD js), .own p (.lst ((List.range js.length).map fun i => TD w.sizes.length (tbN w (js.getD (js.length - 1 - i) 0)))), .val (RD w.sizes.length (itF F k)), .val t4, s5, s6, s7] M' K := fun hkl' K hK => by
    (rw [ss_cons]; walk_at "wp")
    rw [ss_cons]
    walk_at "wp"
    refine for_rangeU mF (fun i e M2 => M2 = M' ∧ ∃ s5, e = [.val (WD w), .val (WoD js), .own p (.lst ((List.range js.length).map fun i => TD w.sizes.length (tbN w (js.getD (js.length - 1 - i) 0)))), .val (RD w.sizes.length (rwF w js NoF (itF F k) (js.length - i))), .val (RD w.sizes.length (itF F k)), s5, s6, s7]) ⟨rfl, _, by rw [Nat.sub_zero, rwF_last (Nat.le_refl _)]⟩ (fun i e m' hI => by obtain ⟨_, s5, rfl⟩ := hI; rfl) (fun e M2 hI => ?_) (fun i e M2 hi hI => ?_)
    · obtain ⟨rfl, s5, rfl⟩ := hI
      (try walk_at "wp")
      rw [Nat.sub_self, show rwF w js NoF (itF F k) 0 = itF F (k + 1) from by
        show wordF w (js.drop 0) _ (itF F k) = F (itF F k)
        rw [List.drop_zero, ← hF]; rfl]
      refine hK _ _ ?_
      rw [hI]
      exact ⟨rfl, by omega, RD w.sizes.length (itF F k), (fun z => absurd z (by omega)), (fun k' z => by rw [Nat.add_right_cancel z]), _, _, _, rfl⟩
    · obtain ⟨rfl, s5, rfl⟩ := hI
      (try walk_at "wp")
      (rw [ss_cons]; walk_at "wp")
      refine row_ahead_ok hr (by omega) ?_
      (try walk_at "wp")
      have e1 := rwF_step (w := w) (ks := js) (lows := NoF) (b := itF F k) (k := js.length - (i + 1)) (by omega)
      rw [rowM_zero, show js.length - (i + 1) + 1 = js.length - i from by omega, show js.length - (i + 1) = js.length - 1 - i from by omega] at e1
      rw [← e1, show js.length - 1 - i = js.length - (i + 1) from by omega]
      exact ⟨_, rfl⟩
  by_cases hk0 : k = 0
  · rw [ht0 hk0] at body ⊢
    simp! only [cmp_ne_non]
    exact body (by omega) _ fun _ _ h => h
  · rw [ht1 (k - 1) (by omega)] at body ⊢
    simp! only [cmp_ne_RD]
    by_cases he : ∀ x, x < w.sizes.length → itF F (k - 1) x = itF F k x
    · rw [decide_eq_true he]
      have hst2 : ∀ x, x < w.sizes.length → itF F (w.sizes.length + 1) x = itF F k x := fun x hx => by
        have h1 := itF_stand hop (k := k - 1) (fun x hx => by rw [show k - 1 + 1 = k from by omega]; exact (he x hx).symm) (w.sizes.length + 1 - (k - 1)) x hx
        rw [show k - 1 + (w.sizes.length + 1 - (k - 1)) = w.sizes.length + 1 from by omega] at h1
        rw [h1]; exact he x hx
      rw [RD_congr hst2] at q
      (try simp! only [Bool.not_true, Bool.not_false, Bool.true_eq_false, Bool.not_eq_true', Bool.not_eq_false', decide_eq_false_iff_not])
      (rw [ss_cons]; walk_at "wp")
      exact leave q
    · rw [decide_eq_false he]
      have : k ≤ w.sizes.length := by
        by_cases z : k = w.sizes.length + 1
        · subst z
          exact absurd (fun x hx => (hend x hx).symm) he
        · omega
      (try simp! only [Bool.not_true, Bool.not_false, Bool.true_eq_false, Bool.not_eq_true', Bool.not_eq_false', decide_eq_false_iff_not])
      exact body this _ fun _ _ h => h
/-- the least rows of a round that comes back -/
def fixR (w : Wb) (js : List Nat) : Nat → Int := itF (wordF w js NoF) (w.sizes.length + 1)
theorem lasso_rows_ok {fst fwt flr ftr fa fi fc fcr ff fo fs fl fr : Nat} (hf : P[f]? = some (d_lasso_rows fst fwt flr ftr)) (hst : P[fst]? = some (d_is_stuck ff fo)) (hff : P[ff]? = some d_falling) (hfo : P[fo]? = some (d_own_square fs fc)) (hfs : P[fs]? = some (d_is_square fc)) (hwt : P[fwt]? = some (d_word_table fa)) (ha : P[fa]? = some (d_compose_all fi fc)) (hi : P[fi]? = some d_identity) (hc : P[fc]? = some (d_compose fcr)) (hcr : P[fcr]? = some d_composed_row)
    (hlr : P[flr]? = some (d_least_rows fl)) (hl : P[fl]? = some (d_least_along fr)) (hr : P[fr]? = some d_row_ahead) (htr : P[ftr]? = some (d_turn_row fr)) {w : Wb} (hw : WbOk w) (hs : w.sizes.length ≤ 9) {ks js : List Nat} (hj : js ≠ []) (hk : WordOk w ks) (hkj : WordOk w js) (hkl : ks.length + js.length < 900)
    (q1 : ¬ Stk w.sizes.length (wtab w js) → Q .non M) (q2 : Stk w.sizes.length (wtab w js) → Q (RwF w.sizes.length (ks.length + js.length + 1) (rwF w (ks ++ js) NoF (fixR w js))) M) : wFn P (n + 6) f [WD w, WoD ks, WoD js] M Q E := by
  refine enter hf rfl ?_
  simp only [d_lasso_rows]
  rw [ss_cons]
  walk_at "wp"
  refine word_table_ok hwt ha hi hc hcr (by omega) hkj (by omega) ?_
  (try walk_at "wp")
  refine is_stuck_ok hst hff hfo hfs hc hcr hs (wtab_ent hw hkj) fun b hb => ?_
  (try walk_at "wp")
  cases b with
  | false =>
    (try simp! only [Bool.not_true, Bool.not_false, Bool.true_eq_false, Bool.not_eq_true', Bool.not_eq_false', decide_eq_false_iff_not])
    (rw [ss_cons]; walk_at "wp")
    exact leave (q1 fun z => by simpa using hb.mpr z)
  | true =>
    have hS := hb.mp rfl
    (try simp! only [Bool.not_true, Bool.not_false, Bool.true_eq_false, Bool.not_eq_true', Bool.not_eq_false', decide_eq_false_iff_not])
    rw [ss_cons]
    simp only [WoD, wS, wE, wEs, wO, wAs, wL, wN, wI, wT, wTs, setAll, Tg.slots, wipeE, cmp_eq_int, cmp_ne_int, cmp_eq_str, cmp_ne_str, cmp_eq_tup, cmp_ne_tup, cmp_eq_bl, cmp_lt, cmp_le, cmp_gt, cmp_ge, Kt0_rt, Kt0_nx, List.getElem?_cons_zero, List.getElem?_cons_succ, List.set_cons_zero, List.set_cons_succ, Option.some.injEq, Slot.val.injEq, Slot.own.injEq, MO.lst.injEq, D.int.injEq, D.ref.injEq, D.bl.injEq, D.tup.injEq, D.str.injEq, exists_eq_left', exists_eq_left, exists_and_left, exists_and_right, and_assoc, true_and, and_true, atI_0, atI_1, atI_2, atI_3, atI_4, backs, drps, List.map_cons, List.map_nil, List.length_cons, List.length_nil, List.cons_append, List.nil_append, List.replicate, Nat.reduceAdd, Nat.reduceSub, decide_eq_true_eq, upd_at, aug_add_int, aug_sub_int, aug_mul_int, aug_add_str, ixN5_1, ixN5_2, ixN5_3, Int.toNat_natCast, List.length_map, List.length_range, tg_nm, tg_tp, tru_non, tru_bl, tru_int, tru_str, tru_tup, tru_ref, bin_add_int, bin_add_str, bin_add_tup, bin_sub, bin_mul, bin_fdiv, bin_mod, bin_pow, bin_shl, bin_shr, bin_band, bin_bor, idx_tup, idx_ref, idx_str, blt_len_tup, blt_len_str, blt_len_ref, blt_int_int, blt_int_bl, blt_bool_bl, blt_bool_int, blt_abs, blt_max2, blt_max3, blt_min2, blt_tuple_tup, blt_tuple_ref, blt_isa_non, blt_isa_bl, blt_isa_int, blt_isa_str, blt_isa_tup, isa_int_int, isa_int_bool, isa_bl_bool, isa_tup, isa_str, lk_tuple, lk_len, lk_all, lk_any, lk_sum, it_tup, it_rl, it_ref, zip_tup, enum_tup, enum_ref, eq_self_iff_true, if_true, Bool.false_eq_true, if_false, reduceIte, ss_nil, rev_tup, rev_ref, ty_split, ty_join, ty_append, ty_pop, ty_popAt, ty_reverse, ty_extend, ty_insert, mth_append, mth_pop, mth_popAt, mth_reverse, mth_extend, mth_insert, mth_split, mth_join, cmp_eq_ref, cmp_ne_ref, slc_tup, slc_str, slc_ref, lk_max, lk_min, cmp_lt_str, cmp_is_bl, cmp_not_bl, cmp_is_non, cmp_not_non, cmp_is_tup, cmp_not_tup, cmp_is_int, cmp_not_int, blt_str, blt_maxt, blt_mint, tg_np]
    refine ⟨small_line (by omega), ?_⟩
    refine turn_row_ok htr hr hw (by omega) hj hkj (by omega) hS ?_
    (try walk_at "wp")
    rw [← List.map_append]
    refine least_rows_ok (ks := ks ++ js) hlr hl hr (by omega) (fun x hx => by
      rcases List.mem_append.mp hx with z | z
      · exact hk x z
      · exact hkj x z) (by simp; omega) ?_
    rw [lrows_F, List.length_append]
    exact leave (q2 hS)
end
end DL
namespace DL.LawText
open PySem
local macro_rules | `(tactic| walk_at "wp") => `(tactic| simp only [wS, wE, wEs, wO, wAs, wL, wN, wI, wT, wTs, setAll, Tg.slots, wipeE, cmp_eq_int, cmp_ne_int, cmp_eq_str, cmp_ne_str, cmp_eq_tup, cmp_ne_tup, cmp_eq_bl, cmp_lt, cmp_le, cmp_gt, cmp_ge, Kt0_rt, Kt0_nx, List.getElem?_cons_zero, List.getElem?_cons_succ, List.set_cons_zero, List.set_cons_succ, Option.some.injEq, Slot.val.injEq, Slot.own.injEq, MO.lst.injEq, D.int.injEq, D.ref.injEq, D.bl.injEq, D.tup.injEq, D.str.injEq, exists_eq_left', exists_eq_left, exists_and_left, exists_and_right, and_assoc, true_and, and_true, atI_0, atI_1, atI_2, atI_3, atI_4, backs, drps, List.map_cons, List.map_nil, List.length_cons, List.length_nil, List.cons_append, List.nil_append, List.replicate, Nat.reduceAdd, Nat.reduceSub, decide_eq_true_eq, upd_at, aug_add_int, aug_sub_int, aug_mul_int, aug_add_str, ixN5_1, ixN5_2, ixN5_3, Int.toNat_natCast, List.length_map, List.length_range, tg_nm, tg_tp, tru_non, tru_bl, tru_int, tru_str, tru_tup, tru_ref, bin_add_int, bin_add_str, bin_add_tup, bin_sub, bin_mul, bin_fdiv, bin_mod, bin_pow, bin_shl, bin_shr, bin_band, bin_bor, idx_tup, idx_ref, idx_str, blt_len_tup, blt_len_str, blt_len_ref, blt_int_int, blt_int_bl, blt_bool_bl, blt_bool_int, blt_abs, blt_max2, blt_max3, blt_min2, blt_tuple_tup, blt_tuple_ref, blt_isa_non, blt_isa_bl, blt_isa_int, blt_isa_str, blt_isa_tup, isa_int_int, isa_int_bool, isa_bl_bool, isa_tup, isa_str, lk_tuple, lk_len, lk_all, lk_any, lk_sum, it_tup, it_rl, it_ref, zip_tup, enum_tup, enum_ref, eq_self_iff_true, if_true, Bool.false_eq_true, if_false, reduceIte, ss_nil, rev_tup, rev_ref, ty_split, ty_join, ty_append, ty_pop, ty_popAt, ty_reverse, ty_extend, ty_insert, mth_append, mth_pop, mth_popAt, mth_reverse, mth_extend, mth_insert, mth_split, mth_join, cmp_eq_ref, cmp_ne_ref, slc_tup, slc_str, slc_ref, lk_max, lk_min, cmp_lt_str, cmp_is_bl, cmp_not_bl, cmp_is_non, cmp_not_non, cmp_is_tup, cmp_not_tup, cmp_is_int, cmp_not_int, blt_str, blt_maxt, blt_mint, tg_np])
local macro_rules | `(tactic| simp! only [$xs:simpLemma,*]) => `(tactic| simp only [wS, wE, wEs, wO, wAs, wL, wN, wI, wT, wTs, setAll, Tg.slots, wipeE, cmp_eq_int, cmp_ne_int, cmp_eq_str, cmp_ne_str, cmp_eq_tup, cmp_ne_tup, cmp_eq_bl, cmp_lt, cmp_le, cmp_gt, cmp_ge, Kt0_rt, Kt0_nx, List.getElem?_cons_zero, List.getElem?_cons_succ, List.set_cons_zero, List.set_cons_succ, Option.some.injEq, Slot.val.injEq, Slot.own.injEq, MO.lst.injEq, D.int.injEq, D.ref.injEq, D.bl.injEq, D.tup.injEq, D.str.injEq, exists_eq_left', exists_eq_left, exists_and_left, exists_and_right, and_assoc, true_and, and_true, atI_0, atI_1, atI_2, atI_3, atI_4, backs, drps, List.map_cons, List.map_nil, List.length_cons, List.length_nil, List.cons_append, List.nil_append, List.replicate, Nat.reduceAdd, Nat.reduceSub, decide_eq_true_eq, upd_at, aug_add_int, aug_sub_int, aug_mul_int, aug_add_str, ixN5_1, ixN5_2, ixN5_3, Int.toNat_natCast, List.length_map, List.length_range, tg_nm, tg_tp, tru_non, tru_bl, tru_int, tru_str, tru_tup, tru_ref, bin_add_int, bin_add_str, bin_add_tup, bin_sub, bin_mul, bin_fdiv, bin_mod, bin_pow, bin_shl, bin_shr, bin_band, bin_bor, idx_tup, idx_ref, idx_str, blt_len_tup, blt_len_str, blt_len_ref, blt_int_int, blt_int_bl, blt_bool_bl, blt_bool_int, blt_abs, blt_max2, blt_max3, blt_min2, blt_tuple_tup, blt_tuple_ref, blt_isa_non, blt_isa_bl, blt_isa_int, blt_isa_str, blt_isa_tup, isa_int_int, isa_int_bool, isa_bl_bool, isa_tup, isa_str, lk_tuple, lk_len, lk_all, lk_any, lk_sum, it_tup, it_rl, it_ref, zip_tup, enum_tup, enum_ref, eq_self_iff_true, if_true, Bool.false_eq_true, if_false, reduceIte, ss_nil, rev_tup, rev_ref, ty_split, ty_join, ty_append, ty_pop, ty_popAt, ty_reverse, ty_extend, ty_insert, mth_append, mth_pop, mth_popAt, mth_reverse, mth_extend, mth_insert, mth_split, mth_join, cmp_eq_ref, cmp_ne_ref, slc_tup, slc_str, slc_ref, lk_max, lk_min, cmp_lt_str, cmp_is_bl, cmp_not_bl, cmp_is_non, cmp_not_non, cmp_is_tup, cmp_not_tup, cmp_is_int, cmp_not_int, blt_str, blt_maxt, blt_mint, tg_np, $xs,*])
abbrev f_first_broken : Nat := 0
abbrev f_keeps : Nat := 1
abbrev f_row_ahead : Nat := 2
abbrev f_least_along : Nat := 3
abbrev f_middles : Nat := 4
abbrev f_identity : Nat := 5
abbrev f_composed_row : Nat := 6
abbrev f_compose : Nat := 7
abbrev f_compose_all : Nat := 8
abbrev f__law_begin : Nat := 9
abbrev f__law_draw : Nat := 10
abbrev f__law_pick : Nat := 11
abbrev f__law_entry : Nat := 12
abbrev f__law_table : Nat := 13
abbrev f__law_row : Nat := 14
abbrev f__law_compose : Nat := 15
abbrev f__law_keeps : Nat := 16
abbrev f__law_is_int : Nat := 17
abbrev f__law_is_ints : Nat := 18
abbrev f__law_is_rows : Nat := 19
abbrev f__law_says : Nat := 20
abbrev f__law_ahead : Nat := 21
abbrev f__law_between : Nat := 22
abbrev f__law_product : Nat := 23
abbrev f__law_all_rows : Nat := 24
abbrev f__law_from_some : Nat := 25
abbrev f__law_is_way : Nat := 26
abbrev f__law_told : Nat := 27
abbrev f__law_walked : Nat := 28
abbrev f__law_run : Nat := 29
abbrev f__law_run_told : Nat := 30
abbrev f__law_first_row : Nat := 31
abbrev f__law_scaled : Nat := 32
abbrev f_law : Nat := 33
def d_first_broken : Fn := { name := "first_broken", arity := 3, slots := ["table", "ahead", "behind", "x", "row", "y", "entry"], body :=
  [(.for_ (.tp [3, 4]) (.enum (.var 0)) [(.for_ (.tp [5, 6]) (.enum (.var 4)) [(.ite (.or (.and (.v (.cmp .eq (.var 6) (.cst (.int 2)))) (.v (.cmp .ge (.idx (.var 2) (.var 5)) (.idx (.var 1) (.var 3))))) (.and (.v (.cmp .eq (.var 6) (.cst (.int 1)))) (.v (.cmp .gt (.idx (.var 2) (.var 5)) (.idx (.var 1) (.var 3)))))) [(.ret (.tup (.cons (.var 3) (.cons (.var 5) .nil))))] [])])]),
    (.ret (.cst .non))] }
def d_keeps : Fn := { name := "keeps", arity := 3, slots := ["table", "ahead", "behind"], body :=
  [(.ret (.cmp .isN (.call f_first_broken (.cons (.var 0) (.cons (.var 1) (.cons (.var 2) .nil)))) (.cst .non)))] }
def d_row_ahead : Fn := { name := "row_ahead", arity := 2, slots := ["table", "behind", "found", "row", "least", "y", "entry"], body :=
  [(.asgN 2 (.disp .nil)),
    (.for_ (.nm 3) (.dyn (.var 0)) [(.asg (.nm 4) (.cst (.int 0))),
    (.for_ (.tp [5, 6]) (.enum (.var 3)) [(.ite (.v (.cmp .gt (.var 6) (.cst (.int 0)))) [(.asg (.nm 4) (.blt .max (.cons (.var 4) (.cons (.bin .sub (.bin .add (.idx (.var 1) (.var 5)) (.var 6)) (.cst (.int 1))) .nil))))] [])]),
    (.app 2 (.var 4))]),
    (.ret (.lk .tuple (.own 2)))] }
def d_least_along : Fn := { name := "least_along", arity := 2, slots := ["tables", "last", "found", "table"], body :=
  [(.asgN 2 (.disp (.cons (.blt .tuple (.cons (.var 1) .nil)) .nil))),
    (.for_ (.nm 3) (.rev (.var 0)) [(.app 2 (.call f_row_ahead (.cons (.var 3) (.cons (.lidx (.own 2) (.neg (.cst (.int 1)))) .nil))))]),
    (.ret (.tupRev (.own 2)))] }
def d_middles : Fn := { name := "middles", arity := 3, slots := ["tables", "first", "last", "rows"], body :=
  [(.asg (.nm 3) (.call f_least_along (.tmp (.copyT (.slc (.var 0) (.at (.cst (.int 1))) .no)) (.cons (.var 2) .nil)))),
    (.ite (.not (.v (.call f_keeps (.cons (.idx (.var 0) (.cst (.int 0))) (.cons (.var 1) (.cons (.idx (.var 3) (.cst (.int 0))) .nil)))))) [(.ret (.cst .non))] []),
    (.ret (.slc (.var 3) .no (.at (.neg (.cst (.int 1))))))] }
def d_identity : Fn := { name := "identity", arity := 1, slots := ["many", "y", "x"], body :=
  [(.ret (.lk .tuple (.new (.comp (.lk .tuple (.new (.comp (.blt .int (.cons (.cmp .eq (.var 2) (.var 1)) .nil)) (.nm 1) (.range (.var 0)) none))) (.nm 2) (.range (.var 0)) none))))] }
def d_composed_row : Fn := { name := "composed_row", arity := 3, slots := ["row", "second", "many", "found", "y", "entry", "behind", "z"], body :=
  [(.asgN 3 (.comp (.cst (.int 0)) (.nm 7) (.range (.var 2)) none)),
    (.for_ (.nm 4) (.range (.var 2)) [(.asg (.nm 5) (.idx (.var 0) (.var 4))),
    (.ite (.v (.cmp .eq (.var 5) (.cst (.int 0)))) [.cnt] []),
    (.asg (.nm 6) (.idx (.var 1) (.var 4))),
    (.for_ (.nm 7) (.range (.var 2)) [(.ite (.v (.cmp .gt (.idx (.var 6) (.var 7)) (.cst (.int 0)))) [(.set 3 (.var 7) (.blt .max (.cons (.lidx (.own 3) (.var 7)) (.cons (.var 5) (.cons (.idx (.var 6) (.var 7)) .nil)))))] [])])]),
    (.ret (.lk .tuple (.own 3)))] }
def d_compose : Fn := { name := "compose", arity := 2, slots := ["first", "second", "many", "row"], body :=
  [(.asg (.nm 2) (.blt .len (.cons (.var 0) .nil))),
    (.ret (.lk .tuple (.new (.comp (.call f_composed_row (.cons (.var 3) (.cons (.var 1) (.cons (.var 2) .nil)))) (.nm 3) (.dyn (.var 0)) none))))] }
def d_compose_all : Fn := { name := "compose_all", arity := 2, slots := ["many", "tables", "found", "table"], body :=
  [(.asg (.nm 2) (.call f_identity (.cons (.var 0) .nil))),
    (.for_ (.nm 3) (.dyn (.var 1)) [(.asg (.nm 2) (.call f_compose (.cons (.var 2) (.cons (.var 3) .nil))))]),
    (.ret (.var 2))] }
def d__law_begin : Fn := { name := "_law_begin", arity := 1, slots := ["script", "cell"], body :=
  [(.ret (.mk (.disp (.cons (.mk (.comp (.blt .int (.cons (.var 1) .nil)) (.nm 1) (.dyn (.var 0)) none)) (.cons (.cst (.int 0)) (.cons (.cst (.int 0)) (.cons (.cst (.int 7)) (.cons (.cst (.int 3)) .nil))))))))] }
def d__law_draw : Fn := { name := "_law_draw", arity := 2, slots := ["d", "many", "found", "size", "cell"], body :=
  [(.ite (.v (.cmp .gt (.idx (.var 0) (.cst (.int 2))) (.cst (.int 0)))) [(.asg (.nm 2) (.idx (.var 0) (.cst (.int 2)))),
    (.mset (.var 0) (.cst (.int 2)) (.bin .fdiv (.var 2) (.var 1))),
    (.ret (.bin .mod (.blt .int (.cons (.var 2) .nil)) (.var 1)))] []),
    (.asg (.nm 3) (.cst (.int 0))),
    (.ite (.v (.cmp .lt (.idx (.var 0) (.cst (.int 1))) (.blt .len (.cons (.idx (.var 0) (.cst (.int 0))) .nil)))) [(.asg (.nm 4) (.idx (.idx (.var 0) (.cst (.int 0))) (.idx (.var 0) (.cst (.int 1))))),
    (.asg (.nm 3) (.bin .add (.bin .mul (.cst (.int 2)) (.blt .abs (.cons (.var 4) .nil))) (.blt .int (.cons (.cmp .lt (.var 4) (.cst (.int 0))) .nil))))] []),
    (.maug (.var 0) (.cst (.int 1)) .add (.cst (.int 1))),
    (.ite (.v (.cmp .ge (.var 3) (.bin .mul (.cst (.int 2)) (.bin .pow (.cst (.int 10)) (.cst (.int 18)))))) [(.asg (.nm 2) (.bin .mod (.blt .int (.cons (.bin .fdiv (.var 3) (.cst (.int 2))) .nil)) (.bin .shl (.cst (.int 1)) (.cst (.int 6000))))),
    (.mset (.var 0) (.cst (.int 2)) (.bin .fdiv (.var 2) (.var 1))),
    (.ret (.bin .mod (.blt .int (.cons (.var 2) .nil)) (.var 1)))] []),
    (.mset (.var 0) (.cst (.int 3)) (.bin .mod (.blt .int (.cons (.bin .add (.bin .add (.bin .add (.bin .mul (.idx (.var 0) (.cst (.int 3))) (.cst (.int 48271))) (.bin .mul (.bin .mod (.blt .int (.cons (.var 3) .nil)) (.cst (.int 2147483629))) (.cst (.int 16807)))) (.bin .mul (.idx (.var 0) (.cst (.int 1))) (.cst (.int 69621)))) (.cst (.int 11))) .nil)) (.cst (.int 2147483647)))),
    (.ret (.bin .mod (.blt .int (.cons (.bin .fdiv (.idx (.var 0) (.cst (.int 3))) (.cst (.int 16))) .nil)) (.var 1)))] }
def d__law_pick : Fn := { name := "_law_pick", arity := 2, slots := ["d", "row"], body :=
  [(.ret (.idx (.var 1) (.call f__law_draw (.cons (.var 0) (.cons (.blt .len (.cons (.var 1) .nil)) .nil)))))] }
def d__law_entry : Fn := { name := "_law_entry", arity := 2, slots := ["d", "style"], body :=
  [(.ite (.v (.cmp .eq (.var 1) (.cst (.int 0)))) [(.ret (.call f__law_pick (.cons (.var 0) (.tmp (.disp (.cons (.cst (.int 0)) (.cons (.cst (.int 0)) (.cons (.cst (.int 0)) (.cons (.cst (.int 0)) (.cons (.cst (.int 1)) (.cons (.cst (.int 2)) .nil))))))) .nil))))] []),
    (.ite (.v (.cmp .eq (.var 1) (.cst (.int 1)))) [(.ret (.call f__law_draw (.cons (.var 0) (.cons (.cst (.int 3)) .nil))))] []),
    (.ret (.call f__law_pick (.cons (.var 0) (.tmp (.disp (.cons (.cst (.int 0)) (.cons (.cst (.int 0)) (.cons (.cst (.int 1)) (.cons (.cst (.int 1)) (.cons (.cst (.int 1)) (.cons (.cst (.int 2)) .nil))))))) .nil))))] }
def d__law_table : Fn := { name := "_law_table", arity := 3, slots := ["d", "many", "style", "rows", "x", "row", "y", "entry"], body :=
  [(.asgN 3 (.disp .nil)),
    (.for_ (.nm 4) (.range (.var 1)) [(.asgN 5 (.disp .nil)),
    (.for_ (.nm 6) (.range (.var 1)) [(.ite (.v (.cmp .eq (.var 2) (.cst (.int 3)))) [(.asg (.nm 7) (.call f__law_pick (.cons (.var 0) (.tmp (.disp (.cons (.cst (.int 0)) (.cons (.cst (.int 1)) (.cons (.cst (.int 1)) (.cons (.cst (.int 2)) .nil))))) .nil)))),
    (.app 5 (.ifx (.v (.cmp .eq (.var 4) (.var 6))) (.var 7) (.cst (.int 0))))] [(.ite (.v (.cmp .eq (.var 2) (.cst (.int 4)))) [(.asg (.nm 7) (.call f__law_pick (.cons (.var 0) (.tmp (.disp (.cons (.cst (.int 1)) (.cons (.cst (.int 1)) (.cons (.cst (.int 2)) (.cons (.cst (.int 0)) .nil))))) .nil)))),
    (.app 5 (.ifx (.v (.cmp .eq (.var 4) (.var 6))) (.var 7) (.call f__law_pick (.cons (.var 0) (.tmp (.disp (.cons (.cst (.int 0)) (.cons (.cst (.int 0)) (.cons (.cst (.int 0)) (.cons (.cst (.int 0)) (.cons (.cst (.int 0)) (.cons (.cst (.int 1)) .nil))))))) .nil)))))] [(.app 5 (.call f__law_entry (.cons (.var 0) (.cons (.var 2) .nil))))])])]),
    (.app 3 (.lk .tuple (.own 5)))]),
    (.ret (.lk .tuple (.own 3)))] }
def d__law_row : Fn := { name := "_law_row", arity := 3, slots := ["d", "many", "top", "k"], body :=
  [(.ret (.lk .tuple (.new (.comp (.call f__law_draw (.cons (.var 0) (.cons (.bin .add (.var 2) (.cst (.int 1))) .nil))) (.nm 3) (.range (.var 1)) none))))] }
def d__law_compose : Fn := { name := "_law_compose", arity := 2, slots := ["first", "second", "many", "rows", "x", "row", "z", "entry", "y"], body :=
  [(.asg (.nm 2) (.blt .len (.cons (.var 0) .nil))),
    (.asgN 3 (.disp .nil)),
    (.for_ (.nm 4) (.range (.var 2)) [(.asgN 5 (.disp .nil)),
    (.for_ (.nm 6) (.range (.var 2)) [(.asg (.nm 7) (.cst (.int 0))),
    (.for_ (.nm 8) (.range (.var 2)) [(.ite (.and (.v (.cmp .gt (.idx (.idx (.var 0) (.var 4)) (.var 8)) (.cst (.int 0)))) (.v (.cmp .gt (.idx (.idx (.var 1) (.var 8)) (.var 6)) (.cst (.int 0))))) [(.asg (.nm 7) (.blt .max (.cons (.var 7) (.cons (.idx (.idx (.var 0) (.var 4)) (.var 8)) (.cons (.idx (.idx (.var 1) (.var 8)) (.var 6)) .nil)))))] [])]),
    (.app 5 (.var 7))]),
    (.app 3 (.lk .tuple (.own 5)))]),
    (.ret (.lk .tuple (.own 3)))] }
def d__law_keeps : Fn := { name := "_law_keeps", arity := 3, slots := ["table", "ahead", "behind", "x", "y"], body :=
  [(.for_ (.nm 3) (.range (.blt .len (.cons (.var 0) .nil))) [(.for_ (.nm 4) (.range (.blt .len (.cons (.var 0) .nil))) [(.ite (.and (.v (.cmp .eq (.idx (.idx (.var 0) (.var 3)) (.var 4)) (.cst (.int 1)))) (.v (.cmp .gt (.idx (.var 2) (.var 4)) (.idx (.var 1) (.var 3))))) [(.ret (.cst (.bl false)))] []),
    (.ite (.and (.v (.cmp .eq (.idx (.idx (.var 0) (.var 3)) (.var 4)) (.cst (.int 2)))) (.v (.cmp .ge (.idx (.var 2) (.var 4)) (.idx (.var 1) (.var 3))))) [(.ret (.cst (.bl false)))] [])])]),
    (.ret (.cst (.bl true)))] }
def d__law_is_int : Fn := { name := "_law_is_int", arity := 1, slots := ["thing"], body :=
  [(.ret (.and (.blt (.isa .int) (.cons (.var 0) .nil)) (.not (.blt (.isa .bool) (.cons (.var 0) .nil)))))] }
def d__law_is_ints : Fn := { name := "_law_is_ints", arity := 1, slots := ["row", "part"], body :=
  [(.ret (.and (.blt (.isa .tuple) (.cons (.var 0) .nil)) (.lk .all (.new (.comp (.call f__law_is_int (.cons (.var 1) .nil)) (.nm 1) (.dyn (.var 0)) none)))))] }
def d__law_is_rows : Fn := { name := "_law_is_rows", arity := 2, slots := ["rows", "many", "row"], body :=
  [(.ite (.or (.not (.v (.blt (.isa .tuple) (.cons (.var 0) .nil)))) (.not (.v (.lk .all (.new (.comp (.call f__law_is_ints (.cons (.var 2) .nil)) (.nm 2) (.dyn (.var 0)) none)))))) [(.ret (.cst (.bl false)))] []),
    (.ret (.lk .all (.new (.comp (.cmp .eq (.blt .len (.cons (.var 2) .nil)) (.var 1)) (.nm 2) (.dyn (.var 0)) none))))] }
def d__law_says : Fn := { name := "_law_says", arity := 2, slots := ["answer", "due"], body :=
  [(.ret (.and (.blt (.isa .bool) (.cons (.var 0) .nil)) (.cmp .eq (.var 0) (.var 1))))] }
def d__law_ahead : Fn := { name := "_law_ahead", arity := 2, slots := ["table", "behind", "found", "x", "least", "y"], body :=
  [(.asgN 2 (.disp .nil)),
    (.for_ (.nm 3) (.range (.blt .len (.cons (.var 0) .nil))) [(.asg (.nm 4) (.cst (.int 0))),
    (.for_ (.nm 5) (.range (.blt .len (.cons (.var 0) .nil))) [(.ite (.v (.cmp .gt (.idx (.idx (.var 0) (.var 3)) (.var 5)) (.cst (.int 0)))) [(.asg (.nm 4) (.blt .max (.cons (.var 4) (.cons (.bin .sub (.bin .add (.idx (.var 1) (.var 5)) (.idx (.idx (.var 0) (.var 3)) (.var 5))) (.cst (.int 1))) .nil))))] [])]),
    (.app 2 (.var 4))]),
    (.ret (.lk .tuple (.own 2)))] }
def d__law_between : Fn := { name := "_law_between", arity := 3, slots := ["tables", "first", "last", "rows", "table"], body :=
  [(.asgM 3 (.disp (.cons (.var 2) .nil))),
    (.for_ (.nm 4) (.dyn (.rev0 (.var 0))) [(.mapp (.var 3) (.call f__law_ahead (.cons (.var 4) (.cons (.idx (.var 3) (.neg (.cst (.int 1)))) .nil))))]),
    (.asg (.nm 3) (.revL (.var 3))),
    (.ite (.not (.v (.call f__law_keeps (.cons (.idx (.var 0) (.cst (.int 0))) (.cons (.var 1) (.cons (.idx (.var 3) (.cst (.int 0))) .nil)))))) [(.ret (.cst .non))] []),
    (.ret (.blt .tuple (.cons (.slc (.var 3) .no (.at (.neg (.cst (.int 1))))) .nil)))] }
def d__law_product : Fn := { name := "_law_product", arity := 1, slots := ["tables", "found", "table"], body :=
  [(.asg (.nm 1) (.idx (.var 0) (.cst (.int 0)))),
    (.for_ (.nm 2) (.dyn (.slc (.var 0) (.at (.cst (.int 1))) .no)) [(.asg (.nm 1) (.call f__law_compose (.cons (.var 1) (.cons (.var 2) .nil))))]),
    (.ret (.var 1))] }
def d__law_all_rows : Fn := { name := "_law_all_rows", arity := 2, slots := ["many", "top", "rows", "x", "longer", "row", "value"], body :=
  [(.asgM 2 (.disp (.cons (.tup .nil) .nil))),
    (.for_ (.nm 3) (.range (.var 0)) [(.asgM 4 (.disp .nil)),
    (.for_ (.nm 5) (.dyn (.var 2)) [(.for_ (.nm 6) (.range (.bin .add (.var 1) (.cst (.int 1)))) [(.mapp (.var 4) (.bin .add (.var 5) (.tup (.cons (.var 6) .nil))))])]),
    (.asg (.nm 2) (.var 4))]),
    (.ret (.var 2))] }
def d__law_from_some : Fn := { name := "_law_from_some", arity := 3, slots := ["table", "rows", "behind", "row"], body :=
  [(.for_ (.nm 3) (.dyn (.var 1)) [(.ite (.v (.call f__law_keeps (.cons (.var 0) (.cons (.var 3) (.cons (.var 2) .nil))))) [(.ret (.cst (.bl true)))] [])]),
    (.ret (.cst (.bl false)))] }
def d__law_is_way : Fn := { name := "_law_is_way", arity := 4, slots := ["tables", "first", "last", "top", "every", "rows", "table", "ahead", "row"], body :=
  [(.asg (.nm 4) (.call f__law_all_rows (.cons (.blt .len (.cons (.var 1) .nil)) (.cons (.var 3) .nil)))),
    (.asgM 5 (.disp (.cons (.var 1) .nil))),
    (.for_ (.nm 6) (.dyn (.slc (.var 0) .no (.at (.neg (.cst (.int 1)))))) [(.asg (.nm 7) (.var 5)),
    (.asgM 5 (.comp (.var 8) (.nm 8) (.dyn (.var 4)) (some (.v (.call f__law_from_some (.cons (.var 6) (.cons (.var 7) (.cons (.var 8) .nil))))))))]),
    (.ret (.call f__law_from_some (.cons (.idx (.var 0) (.neg (.cst (.int 1)))) (.cons (.var 5) (.cons (.var 2) .nil)))))] }
def d__law_told : Fn := { name := "_law_told", arity := 4, slots := ["tables", "first", "last", "due", "told"], body :=
  [(.asg (.nm 4) (.call f_middles (.cons (.var 0) (.cons (.var 1) (.cons (.var 2) .nil))))),
    (.ite (.v (.cmp .isN (.var 3) (.cst .non))) [(.ret (.cmp .isN (.var 4) (.cst .non)))] []),
    (.ret (.and (.call f__law_is_rows (.cons (.var 4) (.cons (.blt .len (.cons (.var 1) .nil)) .nil))) (.cmp .eq (.var 4) (.var 3))))] }
def d__law_walked : Fn := { name := "_law_walked", arity := 2, slots := ["tables", "rows", "k"], body :=
  [(.for_ (.nm 2) (.range (.blt .len (.cons (.var 0) .nil))) [(.ite (.not (.v (.call f__law_keeps (.cons (.idx (.var 0) (.var 2)) (.cons (.idx (.var 1) (.var 2)) (.cons (.idx (.var 1) (.bin .add (.var 2) (.cst (.int 1)))) .nil)))))) [(.ret (.cst (.bl false)))] [])]),
    (.ret (.cst (.bl true)))] }
def d__law_run : Fn := { name := "_law_run", arity := 3, slots := ["d", "tables", "last", "rows", "table", "value"], body :=
  [(.asgM 3 (.disp (.cons (.var 2) .nil))),
    (.for_ (.nm 4) (.dyn (.rev (.var 1))) [(.mapp (.var 3) (.lk .tuple (.new (.comp (.bin .add (.var 5) (.call f__law_pick (.cons (.var 0) (.tmp (.disp (.cons (.cst (.int 0)) (.cons (.cst (.int 0)) (.cons (.cst (.int 1)) (.cons (.cst (.int 2)) .nil))))) .nil)))) (.nm 5) (.dyn (.call f__law_ahead (.cons (.var 4) (.cons (.idx (.var 3) (.neg (.cst (.int 1)))) .nil)))) none))))]),
    (.ret (.blt .tuple (.cons (.revL (.var 3)) .nil)))] }
def d__law_run_told : Fn := { name := "_law_run_told", arity := 4, slots := ["d", "many", "tables", "last", "rows", "k", "told", "x"], body :=
  [(.asg (.nm 4) (.call f__law_run (.cons (.var 0) (.cons (.var 2) (.cons (.var 3) .nil))))),
    (.for_ (.nm 5) (.range (.blt .len (.cons (.var 2) .nil))) [(.ite (.not (.v (.call f__law_says (.cons (.call f_keeps (.cons (.idx (.var 2) (.var 5)) (.cons (.idx (.var 4) (.var 5)) (.cons (.idx (.var 4) (.bin .add (.var 5) (.cst (.int 1)))) .nil)))) (.cons (.cst (.bl true)) .nil))))) [(.ret (.cst (.bl false)))] [])]),
    (.ite (.not (.v (.call f__law_says (.cons (.call f_keeps (.cons (.call f_compose_all (.cons (.var 1) (.cons (.var 2) .nil))) (.cons (.idx (.var 4) (.cst (.int 0))) (.cons (.idx (.var 4) (.neg (.cst (.int 1)))) .nil)))) (.cons (.cst (.bl true)) .nil))))) [(.ret (.cst (.bl false)))] []),
    (.asg (.nm 6) (.call f_middles (.cons (.var 2) (.cons (.idx (.var 4) (.cst (.int 0))) (.cons (.idx (.var 4) (.neg (.cst (.int 1)))) .nil))))),
    (.ite (.or (.not (.v (.call f__law_is_rows (.cons (.var 6) (.cons (.var 1) .nil))))) (.v (.cmp .ne (.var 6) (.call f__law_between (.cons (.var 2) (.cons (.idx (.var 4) (.cst (.int 0))) (.cons (.idx (.var 4) (.neg (.cst (.int 1)))) .nil))))))) [(.ret (.cst (.bl false)))] []),
    (.for_ (.nm 5) (.range (.blt .len (.cons (.var 6) .nil))) [(.for_ (.nm 7) (.range (.var 1)) [(.ite (.v (.cmp .gt (.idx (.idx (.var 6) (.var 5)) (.var 7)) (.idx (.idx (.var 4) (.bin .add (.var 5) (.cst (.int 1)))) (.var 7)))) [(.ret (.cst (.bl false)))] [])])]),
    (.ret (.call f__law_walked (.cons (.var 2) (.cons (.bin .add (.bin .add (.tup (.cons (.idx (.var 4) (.cst (.int 0))) .nil)) (.var 6)) (.tup (.cons (.idx (.var 4) (.neg (.cst (.int 1)))) .nil))) .nil))))] }
def d__law_first_row : Fn := { name := "_law_first_row", arity := 4, slots := ["d", "product", "last", "top", "found", "value"], body :=
  [(.ite (.v (.cmp .eq (.call f__law_draw (.cons (.var 0) (.cons (.cst (.int 4)) .nil))) (.cst (.int 0)))) [(.ret (.call f__law_row (.cons (.var 0) (.cons (.blt .len (.cons (.var 2) .nil)) (.cons (.var 3) .nil)))))] []),
    (.asgN 4 (.disp .nil)),
    (.for_ (.nm 5) (.dyn (.call f__law_ahead (.cons (.var 1) (.cons (.var 2) .nil)))) [(.app 4 (.blt .max (.cons (.cst (.int 0)) (.cons (.bin .add (.var 5) (.call f__law_pick (.cons (.var 0) (.tmp (.disp (.cons (.cst (.int 0)) (.cons (.cst (.int 0)) (.cons (.cst (.int 0)) (.cons (.cst (.int 1)) (.cons (.neg (.cst (.int 1))) (.cons (.cst (.int 2)) .nil))))))) .nil)))) .nil))))]),
    (.ret (.lk .tuple (.own 4)))] }
def d__law_scaled : Fn := { name := "_law_scaled", arity := 2, slots := ["row", "many", "value"], body :=
  [(.ret (.lk .tuple (.new (.comp (.bin .add (.bin .mul (.var 1) (.var 2)) (.var 1)) (.nm 2) (.dyn (.var 0)) none))))] }
def d_law : Fn := { name := "law", arity := 1, slots := ["script", "d", "many", "top", "style", "tables", "product", "last", "first", "kept", "count", "above", "below", "due", "k"], body :=
  [(.asg (.nm 1) (.call f__law_begin (.cons (.var 0) .nil))),
    (.asg (.nm 2) (.call f__law_pick (.cons (.var 1) (.tmp (.disp (.cons (.cst (.int 0)) (.cons (.cst (.int 1)) (.cons (.cst (.int 1)) (.cons (.cst (.int 2)) (.cons (.cst (.int 2)) (.cons (.cst (.int 2)) (.cons (.cst (.int 2)) (.cons (.cst (.int 3)) .nil))))))))) .nil)))),
    (.ite (.v (.cmp .eq (.call f__law_draw (.cons (.var 1) (.cons (.cst (.int 8)) .nil))) (.cst (.int 0)))) [(.asg (.nm 2) (.call f__law_pick (.cons (.var 1) (.tmp (.disp (.cons (.cst (.int 5)) (.cons (.cst (.int 9)) .nil))) .nil))))] []),
    (.asg (.nm 3) (.cst (.int 6))),
    (.ite (.v (.cmp .eq (.call f__law_draw (.cons (.var 1) (.cons (.cst (.int 8)) .nil))) (.cst (.int 0)))) [(.asg (.nm 3) (.bin .pow (.cst (.int 10)) (.cst (.int 12))))] []),
    (.asg (.nm 4) (.call f__law_pick (.cons (.var 1) (.tmp (.disp (.cons (.cst (.int 0)) (.cons (.cst (.int 1)) (.cons (.cst (.int 1)) (.cons (.cst (.int 2)) (.cons (.cst (.int 4)) .nil)))))) .nil)))),
    (.asg (.nm 5) (.lk .tuple (.new (.comp (.call f__law_table (.cons (.var 1) (.cons (.var 2) (.cons (.var 4) .nil)))) (.nm 14) (.range (.bin .add (.cst (.int 1)) (.call f__law_draw (.cons (.var 1) (.cons (.cst (.int 4)) .nil))))) none)))),
    (.ite (.not (.v (.call f__law_run_told (.cons (.var 1) (.cons (.var 2) (.cons (.var 5) (.cons (.call f__law_row (.cons (.var 1) (.cons (.var 2) (.cons (.var 3) .nil)))) .nil))))))) [(.ret (.cst (.bl false)))] []),
    (.asg (.nm 6) (.call f__law_product (.cons (.var 5) .nil))),
    (.asg (.nm 7) (.call f__law_row (.cons (.var 1) (.cons (.var 2) (.cons (.var 3) .nil))))),
    (.asg (.nm 8) (.call f__law_first_row (.cons (.var 1) (.cons (.var 6) (.cons (.var 7) (.cons (.var 3) .nil)))))),
    (.asg (.nm 9) (.call f__law_keeps (.cons (.var 6) (.cons (.var 8) (.cons (.var 7) .nil))))),
    (.ite (.not (.v (.call f__law_says (.cons (.call f_keeps (.cons (.call f_compose_all (.cons (.var 2) (.cons (.var 5) .nil))) (.cons (.var 8) (.cons (.var 7) .nil)))) (.cons (.var 9) .nil))))) [(.ret (.cst (.bl false)))] []),
    (.asg (.nm 10) (.blt .len (.cons (.var 5) .nil))),
    (.asg (.nm 11) (.call f__law_scaled (.cons (.var 8) (.cons (.var 10) .nil)))),
    (.asg (.nm 12) (.call f__law_scaled (.cons (.var 7) (.cons (.var 10) .nil)))),
    (.asg (.nm 13) (.call f__law_between (.cons (.var 5) (.cons (.var 11) (.cons (.var 12) .nil))))),
    (.ite (.or (.v (.cmp .ne (.cmp .notN (.var 13) (.cst .non)) (.var 9))) (.not (.v (.call f__law_told (.cons (.var 5) (.cons (.var 11) (.cons (.var 12) (.cons (.var 13) .nil)))))))) [(.ret (.cst (.bl false)))] []),
    (.ite (.and (.v (.var 9)) (.not (.v (.call f__law_walked (.cons (.var 5) (.cons (.bin .add (.bin .add (.tup (.cons (.var 11) .nil)) (.var 13)) (.tup (.cons (.var 12) .nil))) .nil)))))) [(.ret (.cst (.bl false)))] []),
    (.asg (.nm 13) (.call f__law_between (.cons (.var 5) (.cons (.var 8) (.cons (.var 7) .nil))))),
    (.ite (.not (.v (.call f__law_told (.cons (.var 5) (.cons (.var 8) (.cons (.var 7) (.cons (.var 13) .nil))))))) [(.ret (.cst (.bl false)))] []),
    (.ite (.and (.v (.cmp .eq (.var 3) (.cst (.int 6)))) (.or (.v (.cmp .lt (.var 2) (.cst (.int 2)))) (.and (.v (.cmp .eq (.var 2) (.cst (.int 2)))) (.v (.cmp .lt (.var 10) (.cst (.int 3))))))) [(.ret (.cmp .eq (.call f__law_is_way (.cons (.var 5) (.cons (.var 8) (.cons (.var 7) (.cons (.bin .add (.var 10) (.cst (.int 5))) .nil))))) (.cmp .notN (.var 13) (.cst .non))))] []),
    (.ret (.cst (.bl true)))] }
def gl : List (String × D) := []
def P : List Fn := [d_first_broken, d_keeps, d_row_ahead, d_least_along, d_middles, d_identity, d_composed_row, d_compose, d_compose_all, d__law_begin, d__law_draw, d__law_pick, d__law_entry, d__law_table, d__law_row, d__law_compose, d__law_keeps, d__law_is_int, d__law_is_ints, d__law_is_rows, d__law_says, d__law_ahead, d__law_between, d__law_product, d__law_all_rows, d__law_from_some, d__law_is_way, d__law_told, d__law_walked, d__law_run, d__law_run_told, d__law_first_row, d__law_scaled, d_law]
def topS (i : Nat) : PySem.Stmt := PySem.Challenge.pw_dwindleweb_k06_tables_mean_rows.main.body.getD i (.Pass ⟨0,0,0,0⟩)
def T : List (Fn × PySem.Stmt) := [(d_first_broken, topS 1), (d_keeps, topS 2), (d_row_ahead, topS 3), (d_least_along, topS 4), (d_middles, topS 5), (d_identity, topS 7), (d_composed_row, topS 8), (d_compose, topS 9), (d_compose_all, topS 10), (d__law_begin, topS 12), (d__law_draw, topS 13), (d__law_pick, topS 14), (d__law_entry, topS 15), (d__law_table, topS 16), (d__law_row, topS 17), (d__law_compose, topS 18), (d__law_keeps, topS 19), (d__law_is_int, topS 20), (d__law_is_ints, topS 21), (d__law_is_rows, topS 22), (d__law_says, topS 23), (d__law_ahead, topS 24), (d__law_between, topS 25), (d__law_product, topS 26), (d__law_all_rows, topS 27), (d__law_from_some, topS 28), (d__law_is_way, topS 29), (d__law_told, topS 30), (d__law_walked, topS 31), (d__law_run, topS 32), (d__law_run_told, topS 33), (d__law_first_row, topS 34), (d__law_scaled, topS 35), (d_law, topS 36)]
theorem P_first_broken : P[f_first_broken]? = some d_first_broken := rfl
theorem P_keeps : P[f_keeps]? = some d_keeps := rfl
theorem P_row_ahead : P[f_row_ahead]? = some d_row_ahead := rfl
theorem P_least_along : P[f_least_along]? = some d_least_along := rfl
theorem P_middles : P[f_middles]? = some d_middles := rfl
theorem P_identity : P[f_identity]? = some d_identity := rfl
theorem P_composed_row : P[f_composed_row]? = some d_composed_row := rfl
theorem P_compose : P[f_compose]? = some d_compose := rfl
theorem P_compose_all : P[f_compose_all]? = some d_compose_all := rfl
theorem P__law_begin : P[f__law_begin]? = some d__law_begin := rfl
theorem P__law_draw : P[f__law_draw]? = some d__law_draw := rfl
theorem P__law_pick : P[f__law_pick]? = some d__law_pick := rfl
theorem P__law_entry : P[f__law_entry]? = some d__law_entry := rfl
theorem P__law_table : P[f__law_table]? = some d__law_table := rfl
theorem P__law_row : P[f__law_row]? = some d__law_row := rfl
theorem P__law_compose : P[f__law_compose]? = some d__law_compose := rfl
theorem P__law_keeps : P[f__law_keeps]? = some d__law_keeps := rfl
theorem P__law_is_int : P[f__law_is_int]? = some d__law_is_int := rfl
theorem P__law_is_ints : P[f__law_is_ints]? = some d__law_is_ints := rfl
theorem P__law_is_rows : P[f__law_is_rows]? = some d__law_is_rows := rfl
theorem P__law_says : P[f__law_says]? = some d__law_says := rfl
theorem P__law_ahead : P[f__law_ahead]? = some d__law_ahead := rfl
theorem P__law_between : P[f__law_between]? = some d__law_between := rfl
theorem P__law_product : P[f__law_product]? = some d__law_product := rfl
theorem P__law_all_rows : P[f__law_all_rows]? = some d__law_all_rows := rfl
theorem P__law_from_some : P[f__law_from_some]? = some d__law_from_some := rfl
theorem P__law_is_way : P[f__law_is_way]? = some d__law_is_way := rfl
theorem P__law_told : P[f__law_told]? = some d__law_told := rfl
theorem P__law_walked : P[f__law_walked]? = some d__law_walked := rfl
theorem P__law_run : P[f__law_run]? = some d__law_run := rfl
theorem P__law_run_told : P[f__law_run_told]? = some d__law_run_told := rfl
theorem P__law_first_row : P[f__law_first_row]? = some d__law_first_row := rfl
theorem P__law_scaled : P[f__law_scaled]? = some d__law_scaled := rfl
theorem P_law : P[f_law]? = some d_law := rfl
theorem draw {a : Nat} {M : Mem} {many : Int} {Q : QE} {E : QX} {d c : Nat} (h1 : 0 < many) (h2 : many < 1073741824) (h3 : Dst M d c) (h4 : ∀ (k : Nat) M', (k : Int) < many → DrS d c M M' → Q (.int k) M') : wFn P (a + 1) f__law_draw [.ref d, .int many] M Q E :=
  draw_ok P__law_draw h1 (Int.lt_trans h2 (by decide)) h3 fun k M' k0 k1 s => by
    have := h4 k.toNat M' (by omega) s
    rw [show ((k.toNat : Nat) : Int) = k from by omega] at this
    exact this
variable {n : Nat} {M : Mem} {Q : QE} {E : QX}
/-! plain: rows made upwards -/
def cR (m : Nat) : List (Nat → Nat → Int) → (Nat → Int) → Nat → Int
  | [], c => c
  | g :: gs, c => rowA m g (cR m gs c)
def rowsC (m : Nat) : List (Nat → Nat → Int) → (Nat → Int) → List (Nat → Int)
  | [], c => [c]
  | g :: gs, c => cR m (g :: gs) c :: rowsC m gs c
theorem rowsC_len {m : Nat} : ∀ {gs : List (Nat → Nat → Int)} {c : Nat → Int}, (rowsC m gs c).length = gs.length + 1
  | [], _ => rfl
  | g :: gs, c => by rw [rowsC, List.length_cons, rowsC_len, List.length_cons]
theorem rowsC_hd {m : Nat} {gs : List (Nat → Nat → Int)} {c : Nat → Int} : (rowsC m gs c).head? = some (cR m gs c) := by
  cases gs <;> rfl
theorem rowsC_hd' {m : Nat} {gs : List (Nat → Nat → Int)} {c d : Nat → Int} : (rowsC m gs c).getD 0 d = cR m gs c := by
  cases gs <;> rfl
/-- the rows one by one, from the last one -/
theorem rowsC_snoc {m : Nat} : ∀ {gs : List (Nat → Nat → Int)} {c : Nat → Int}, rowsC m gs c = ((List.range (gs.length + 1)).map (lrT m gs c)).reverse := by
  have key : ∀ (gs : List (Nat → Nat → Int)) (c : Nat → Int) (g : Nat → Nat → Int) i, i ≤ gs.length → lrT m (g :: gs) c i = lrT m gs c i := fun gs c g i => by
    induction i with
    | zero => intro _; rfl
    | succ i ih =>
      intro h
      rw [lrT, lrT, ih (by omega)]
      congr 1
      rw [List.length_cons, show gs.length + 1 - 1 - i = (gs.length - 1 - i) + 1 from by omega, List.getD_cons_succ]
  have top : ∀ (gs : List (Nat → Nat → Int)) (c : Nat → Int), lrT m gs c gs.length = cR m gs c := fun gs c => by
    induction gs with
    | nil => rfl
    | cons g gs ih =>
      rw [List.length_cons, lrT, key gs c g _ (Nat.le_refl _), ih, cR]
      congr 1
      rw [List.length_cons, show gs.length + 1 - 1 - gs.length = 0 from by omega]; rfl
  intro gs
  induction gs with
  | nil => intro c; rfl
  | cons g gs ih =>
    intro c
    rw [rowsC, ih, List.length_cons, List.range_succ (n := gs.length + 1), List.map_append, List.reverse_append]
    congr 1
    · rw [← List.length_cons (a := g), top]
    · congr 1
      exact List.map_congr_left fun i hi => (key gs c g i (by have := List.mem_range.mp hi; omega)).symm
/-- what is between two rows -/
def mids (m : Nat) (gs : List (Nat → Nat → Int)) (c : Nat → Int) : List (Nat → Int) := (rowsC m gs c).dropLast
theorem mids_len {m : Nat} {gs : List (Nat → Nat → Int)} {c : Nat → Int} : (mids m gs c).length = gs.length := by
  rw [mids, List.length_dropLast, rowsC_len]; rfl
theorem cut_init {α : Type} {xs : List α} {f : α → D} : cutD (xs.map f) none (some (-1)) = xs.dropLast.map f := by
  unfold cutD
  rw [HT.sIx_none, List.drop_zero, Nat.sub_zero, List.length_map]
  have e : HT.sIx xs.length xs.length (some (-1)) = xs.length - 1 := by
    show (if (-1 : Int) < 0 then (-1 + (xs.length : Int)).toNat else min (-1 : Int).toNat xs.length) = xs.length - 1
    rw [if_pos (by decide)]
    omega
  rw [e, ← List.map_take, List.dropLast_eq_take]
theorem middles_ok {m : Nat} (hm : m < 900) {g : Nat → Nat → Int} {gs : List (Nat → Nat → Int)} (hl : gs.length < 900) {a c : Nat → Int} (q : Q (if KpT m g a (cR m gs c) then RwD m (mids m gs c) else .non) M) : wFn P (n + 3) f_middles [TL m (g :: gs), RD m a, RD m c] M Q E := by
  refine enter rfl rfl ?_
  simp only [d_middles]
  rw [ss_cons]
  simp only [TL, wS, wE, wEs, wO, wAs, wL, wN, wI, wT, wTs, setAll, Tg.slots, wipeE, cmp_eq_int, cmp_ne_int, cmp_eq_str, cmp_ne_str, cmp_eq_tup, cmp_ne_tup, cmp_eq_bl, cmp_lt, cmp_le, cmp_gt, cmp_ge, Kt0_rt, Kt0_nx, List.getElem?_cons_zero, List.getElem?_cons_succ, List.set_cons_zero, List.set_cons_succ, Option.some.injEq, Slot.val.injEq, Slot.own.injEq, MO.lst.injEq, D.int.injEq, D.ref.injEq, D.bl.injEq, D.tup.injEq, D.str.injEq, exists_eq_left', exists_eq_left, exists_and_left, exists_and_right, and_assoc, true_and, and_true, atI_0, atI_1, atI_2, atI_3, atI_4, backs, drps, List.map_cons, List.map_nil, List.length_cons, List.length_nil, List.cons_append, List.nil_append, List.replicate, Nat.reduceAdd, Nat.reduceSub, decide_eq_true_eq, upd_at, aug_add_int, aug_sub_int, aug_mul_int, aug_add_str, ixN5_1, ixN5_2, ixN5_3, Int.toNat_natCast, List.length_map, List.length_range, tg_nm, tg_tp, tru_non, tru_bl, tru_int, tru_str, tru_tup, tru_ref, bin_add_int, bin_add_str, bin_add_tup, bin_sub, bin_mul, bin_fdiv, bin_mod, bin_pow, bin_shl, bin_shr, bin_band, bin_bor, idx_tup, idx_ref, idx_str, blt_len_tup, blt_len_str, blt_len_ref, blt_int_int, blt_int_bl, blt_bool_bl, blt_bool_int, blt_abs, blt_max2, blt_max3, blt_min2, blt_tuple_tup, blt_tuple_ref, blt_isa_non, blt_isa_bl, blt_isa_int, blt_isa_str, blt_isa_tup, isa_int_int, isa_int_bool, isa_bl_bool, isa_tup, isa_str, lk_tuple, lk_len, lk_all, lk_any, lk_sum, it_tup, it_rl, it_ref, zip_tup, enum_tup, enum_ref, eq_self_iff_true, if_true, Bool.false_eq_true, if_false, reduceIte, ss_nil, rev_tup, rev_ref, ty_split, ty_join, ty_append, ty_pop, ty_popAt, ty_reverse, ty_extend, ty_insert, mth_append, mth_pop, mth_popAt, mth_reverse, mth_extend, mth_insert, mth_split, mth_join, cmp_eq_ref, cmp_ne_ref, slc_tup, slc_str, slc_ref, lk_max, lk_min, cmp_lt_str, cmp_is_bl, cmp_not_bl, cmp_is_non, cmp_not_non, cmp_is_tup, cmp_not_tup, cmp_is_int, cmp_not_int, blt_str, blt_maxt, blt_mint, tg_np]
  rw [show (1 : Int) = ((1 : Nat) : Int) from rfl, cut_from, List.drop_succ_cons, List.drop_zero]
  intro p hp
  refine least_along_ok rfl rfl (by omega) (by omega) upd_at ?_
  rw [← rowsC_snoc]
  (try walk_at "wp")
  rw [drp_upd hp]
  rw [ss_cons]
  walk_at "wp"
  have h0 : 0 < (rowsC m gs c).length := by rw [rowsC_len]; omega
  rw [show (0 : Int) = ((0 : Nat) : Int) from rfl, idx_Rw h0, rowsC_hd']
  refine keeps_ok rfl rfl ?_
  by_cases h : KpT m g a (cR m gs c)
  · rw [if_pos h] at q
    rw [decide_eq_true h]
    (try walk_at "wp")
    rw [if_neg (by decide), ss_cons]
    simp only [RwD, wS, wE, wEs, wO, wAs, wL, wN, wI, wT, wTs, setAll, Tg.slots, wipeE, cmp_eq_int, cmp_ne_int, cmp_eq_str, cmp_ne_str, cmp_eq_tup, cmp_ne_tup, cmp_eq_bl, cmp_lt, cmp_le, cmp_gt, cmp_ge, Kt0_rt, Kt0_nx, List.getElem?_cons_zero, List.getElem?_cons_succ, List.set_cons_zero, List.set_cons_succ, Option.some.injEq, Slot.val.injEq, Slot.own.injEq, MO.lst.injEq, D.int.injEq, D.ref.injEq, D.bl.injEq, D.tup.injEq, D.str.injEq, exists_eq_left', exists_eq_left, exists_and_left, exists_and_right, and_assoc, true_and, and_true, atI_0, atI_1, atI_2, atI_3, atI_4, backs, drps, List.map_cons, List.map_nil, List.length_cons, List.length_nil, List.cons_append, List.nil_append, List.replicate, Nat.reduceAdd, Nat.reduceSub, decide_eq_true_eq, upd_at, aug_add_int, aug_sub_int, aug_mul_int, aug_add_str, ixN5_1, ixN5_2, ixN5_3, Int.toNat_natCast, List.length_map, List.length_range, tg_nm, tg_tp, tru_non, tru_bl, tru_int, tru_str, tru_tup, tru_ref, bin_add_int, bin_add_str, bin_add_tup, bin_sub, bin_mul, bin_fdiv, bin_mod, bin_pow, bin_shl, bin_shr, bin_band, bin_bor, idx_tup, idx_ref, idx_str, blt_len_tup, blt_len_str, blt_len_ref, blt_int_int, blt_int_bl, blt_bool_bl, blt_bool_int, blt_abs, blt_max2, blt_max3, blt_min2, blt_tuple_tup, blt_tuple_ref, blt_isa_non, blt_isa_bl, blt_isa_int, blt_isa_str, blt_isa_tup, isa_int_int, isa_int_bool, isa_bl_bool, isa_tup, isa_str, lk_tuple, lk_len, lk_all, lk_any, lk_sum, it_tup, it_rl, it_ref, zip_tup, enum_tup, enum_ref, eq_self_iff_true, if_true, Bool.false_eq_true, if_false, reduceIte, ss_nil, rev_tup, rev_ref, ty_split, ty_join, ty_append, ty_pop, ty_popAt, ty_reverse, ty_extend, ty_insert, mth_append, mth_pop, mth_popAt, mth_reverse, mth_extend, mth_insert, mth_split, mth_join, cmp_eq_ref, cmp_ne_ref, slc_tup, slc_str, slc_ref, lk_max, lk_min, cmp_lt_str, cmp_is_bl, cmp_not_bl, cmp_is_non, cmp_not_non, cmp_is_tup, cmp_not_tup, cmp_is_int, cmp_not_int, blt_str, blt_maxt, blt_mint, tg_np]
    rw [show (-((1 : Nat) : Int)) = -1 from rfl, cut_init]
    exact leave q
  · rw [if_neg h] at q
    rw [decide_eq_false h]
    (try walk_at "wp")
    rw [if_pos (by rfl)]
    (rw [ss_cons]; walk_at "wp")
    exact leave q
theorem ahead_ok {m : Nat} (hm : m < 900) {g : Nat → Nat → Int} {b : Nat → Int} (q : Q (RD m (rowA m g b)) M) : wFn P (n + 1) f__law_ahead [TD m g, RD m b] M Q E := by
  refine enter rfl rfl ?_
  simp only [d__law_ahead]
  (rw [ss_cons]; walk_at "wp")
  refine ⟨by decide, fun p hp => ?_⟩
  rw [ss_cons]
  simp! only [len_TD]
  refine ⟨by omega, by omega, ?_⟩
  refine for_range (n := m) mF (fun x e M' => M' = M ∧ x ≤ m ∧ ∃ s3 s4 s5, e = [.val (TD m g), .val (RD m b), .own p (.lst ((List.range x).map fun y => .int (rowA m g b y))), s3, s4, s5]) ⟨rfl, Nat.zero_le _, _, _, _, rfl⟩ (fun _ _ _ _ => trivial) (fun e M' hI => ?_) (fun x e M' hx hI => ?_)
  · obtain ⟨rfl, _, s3, s4, s5, rfl⟩ := hI
    (try walk_at "wp")
    (rw [ss_cons]; walk_at "wp")
    exact leave q
  · obtain ⟨rfl, _, s3, s4, s5, rfl⟩ := hI
    (try walk_at "wp")
    (rw [ss_cons]; walk_at "wp")
    rw [ss_cons]
    simp! only [len_TD]
    refine ⟨by omega, by omega, ?_⟩
    refine for_range (n := m) mF (fun y e M2 => M2 = M' ∧ ∃ s5, e = [.val (TD m g), .val (RD m b), .own p (.lst ((List.range x).map fun y => .int (rowA m g b y))), .val (.int x), .val (.int (lstN (g x) b y)), s5]) ⟨rfl, _, rfl⟩ (fun _ _ _ _ => trivial) (fun e M2 hI => ?_) (fun y e M2 hy hI => ?_)
    · obtain ⟨rfl, s5, rfl⟩ := hI
      (try walk_at "wp")
      (rw [ss_cons]; walk_at "wp")
      rw [show lstN (g x) b m = rowA m g b x from rfl, range_snoc (g := fun y => D.int (rowA m g b y))]
      exact ⟨Nat.lt_of_lt_of_le (show x < 1000 by omega) (by decide), hx, _, _, _, rfl⟩
    · obtain ⟨rfl, s5, rfl⟩ := hI
      (try walk_at "wp")
      rw [ss_cons]
      simp! only [idx_TD hx, idx_RD hy]
      split
      · rename_i h0
        rw [ss_cons]
        simp! only [idx_TD hx, idx_RD hy]
        rw [show lstN (g x) b (y + 1) = max (lstN (g x) b y) (b y + g x y - 1) from by rw [lstN, if_pos h0]]
        exact ⟨_, rfl⟩
      · rename_i h0
        rw [show lstN (g x) b (y + 1) = lstN (g x) b y from by rw [lstN, if_neg h0]]
        exact ⟨_, rfl⟩
theorem between_ok {m : Nat} (hm : m < 900) {g : Nat → Nat → Int} {gs : List (Nat → Nat → Int)} (hl : gs.length < 900) {a c : Nat → Int} (q : Q (if KpT m g a (cR m gs c) then RwD m (mids m gs c) else .non) M) : wFn P (n + 2) f__law_between [TL m (g :: gs), RD m a, RD m c] M Q E := by
  refine enter rfl rfl ?_
  simp only [d__law_between]
  rw [ss_cons]
  walk_at "wp"
  refine ⟨by decide, fun p3 hp3 => ?_⟩
  rw [ss_cons]
  simp only [TL, wS, wE, wEs, wO, wAs, wL, wN, wI, wT, wTs, setAll, Tg.slots, wipeE, cmp_eq_int, cmp_ne_int, cmp_eq_str, cmp_ne_str, cmp_eq_tup, cmp_ne_tup, cmp_eq_bl, cmp_lt, cmp_le, cmp_gt, cmp_ge, Kt0_rt, Kt0_nx, List.getElem?_cons_zero, List.getElem?_cons_succ, List.set_cons_zero, List.set_cons_succ, Option.some.injEq, Slot.val.injEq, Slot.own.injEq, MO.lst.injEq, D.int.injEq, D.ref.injEq, D.bl.injEq, D.tup.injEq, D.str.injEq, exists_eq_left', exists_eq_left, exists_and_left, exists_and_right, and_assoc, true_and, and_true, atI_0, atI_1, atI_2, atI_3, atI_4, backs, drps, List.map_cons, List.map_nil, List.length_cons, List.length_nil, List.cons_append, List.nil_append, List.replicate, Nat.reduceAdd, Nat.reduceSub, decide_eq_true_eq, upd_at, aug_add_int, aug_sub_int, aug_mul_int, aug_add_str, ixN5_1, ixN5_2, ixN5_3, Int.toNat_natCast, List.length_map, List.length_range, tg_nm, tg_tp, tru_non, tru_bl, tru_int, tru_str, tru_tup, tru_ref, bin_add_int, bin_add_str, bin_add_tup, bin_sub, bin_mul, bin_fdiv, bin_mod, bin_pow, bin_shl, bin_shr, bin_band, bin_bor, idx_tup, idx_ref, idx_str, blt_len_tup, blt_len_str, blt_len_ref, blt_int_int, blt_int_bl, blt_bool_bl, blt_bool_int, blt_abs, blt_max2, blt_max3, blt_min2, blt_tuple_tup, blt_tuple_ref, blt_isa_non, blt_isa_bl, blt_isa_int, blt_isa_str, blt_isa_tup, isa_int_int, isa_int_bool, isa_bl_bool, isa_tup, isa_str, lk_tuple, lk_len, lk_all, lk_any, lk_sum, it_tup, it_rl, it_ref, zip_tup, enum_tup, enum_ref, eq_self_iff_true, if_true, Bool.false_eq_true, if_false, reduceIte, ss_nil, rev_tup, rev_ref, ty_split, ty_join, ty_append, ty_pop, ty_popAt, ty_reverse, ty_extend, ty_insert, mth_append, mth_pop, mth_popAt, mth_reverse, mth_extend, mth_insert, mth_split, mth_join, cmp_eq_ref, cmp_ne_ref, slc_tup, slc_str, slc_ref, lk_max, lk_min, cmp_lt_str, cmp_is_bl, cmp_not_bl, cmp_is_non, cmp_not_non, cmp_is_tup, cmp_not_tup, cmp_is_int, cmp_not_int, blt_str, blt_maxt, blt_mint, tg_np]
  rw [List.drop_succ_cons, List.drop_zero, ← List.map_reverse]
  refine for_at mF (fun i e M' => (∀ b, b ≠ p3 → M' b = M b) ∧ M' p3 = some (.lst (((List.range (i + 1)).map (lrT m gs c)).map (RD m))) ∧ ∃ s4, e = [.val (TL m (g :: gs)), .val (RD m a), .val (RD m c), .val (.ref p3), s4])
    ⟨fun b hb => upd_no hb, upd_at, _, rfl⟩ (fun _ _ _ _ => trivial) (fun e M' hI => ?_) (fun i x e M' hx hI => ?_)
  · obtain ⟨hk, hM, s4, rfl⟩ := hI
    rw [List.length_map, List.length_reverse] at hM
    (try walk_at "wp")
    rw [ss_cons]
    walk_at "wp"
    refine ⟨_, hM, fun p hp => ?_⟩
    rw [lists_rev, ← rowsC_snoc]
    have hpM : M p = Option.none ∨ p = p3 := by
      by_cases z : p = p3
      · exact .inr z
      · exact .inl (by rw [← hk p z]; exact hp)
    have hp' : p ≠ p3 := fun z => by rw [z, hM] at hp; cases hp
    have e0 : L2.atI ((rowsC m gs c).map (RD m)) 0 = some (RD m (cR m gs c)) := by
      cases gs <;> (simp only [rowsC, List.map_cons]; exact atI_0)
    have lv : ∀ {v : D} {M1 : Mem}, (∀ b, M b ≠ Option.none → M1 b = M b) → Q v M → ∃ M'', Sub M'' M1 ∧ Q v M'' := fun {v M1} h q => ⟨M, fun b o e => by rw [h b (by rw [e]; simp)]; exact e, q⟩
    have keep : ∀ b, M b ≠ Option.none → upd M' p (.lst ((rowsC m gs c).map (RD m))) b = M b := fun b hb => by
      have h3 : b ≠ p3 := fun z => hb (by rw [z]; exact hp3)
      have h4 : b ≠ p := fun z => hb (by rw [← hk b h3, z]; exact hp)
      rw [upd_no h4, hk b h3]
    rw [ss_cons]
    simp only [TL, wS, wE, wEs, wO, wAs, wL, wN, wI, wT, wTs, setAll, Tg.slots, wipeE, cmp_eq_int, cmp_ne_int, cmp_eq_str, cmp_ne_str, cmp_eq_tup, cmp_ne_tup, cmp_eq_bl, cmp_lt, cmp_le, cmp_gt, cmp_ge, Kt0_rt, Kt0_nx, List.getElem?_cons_zero, List.getElem?_cons_succ, List.set_cons_zero, List.set_cons_succ, Option.some.injEq, Slot.val.injEq, Slot.own.injEq, MO.lst.injEq, D.int.injEq, D.ref.injEq, D.bl.injEq, D.tup.injEq, D.str.injEq, exists_eq_left', exists_eq_left, exists_and_left, exists_and_right, and_assoc, true_and, and_true, atI_0, atI_1, atI_2, atI_3, atI_4, backs, drps, List.map_cons, List.map_nil, List.length_cons, List.length_nil, List.cons_append, List.nil_append, List.replicate, Nat.reduceAdd, Nat.reduceSub, decide_eq_true_eq, upd_at, aug_add_int, aug_sub_int, aug_mul_int, aug_add_str, ixN5_1, ixN5_2, ixN5_3, Int.toNat_natCast, List.length_map, List.length_range, tg_nm, tg_tp, tru_non, tru_bl, tru_int, tru_str, tru_tup, tru_ref, bin_add_int, bin_add_str, bin_add_tup, bin_sub, bin_mul, bin_fdiv, bin_mod, bin_pow, bin_shl, bin_shr, bin_band, bin_bor, idx_tup, idx_ref, idx_str, blt_len_tup, blt_len_str, blt_len_ref, blt_int_int, blt_int_bl, blt_bool_bl, blt_bool_int, blt_abs, blt_max2, blt_max3, blt_min2, blt_tuple_tup, blt_tuple_ref, blt_isa_non, blt_isa_bl, blt_isa_int, blt_isa_str, blt_isa_tup, isa_int_int, isa_int_bool, isa_bl_bool, isa_tup, isa_str, lk_tuple, lk_len, lk_all, lk_any, lk_sum, it_tup, it_rl, it_ref, zip_tup, enum_tup, enum_ref, eq_self_iff_true, if_true, Bool.false_eq_true, if_false, reduceIte, ss_nil, rev_tup, rev_ref, ty_split, ty_join, ty_append, ty_pop, ty_popAt, ty_reverse, ty_extend, ty_insert, mth_append, mth_pop, mth_popAt, mth_reverse, mth_extend, mth_insert, mth_split, mth_join, cmp_eq_ref, cmp_ne_ref, slc_tup, slc_str, slc_ref, lk_max, lk_min, cmp_lt_str, cmp_is_bl, cmp_not_bl, cmp_is_non, cmp_not_non, cmp_is_tup, cmp_not_tup, cmp_is_int, cmp_not_int, blt_str, blt_maxt, blt_mint, tg_np, e0]
    refine law_keeps_ok P__law_keeps (by omega) ?_
    by_cases h : KpT m g a (cR m gs c)
    · rw [if_pos h] at q
      rw [decide_eq_true h]
      (try walk_at "wp")
      rw [if_neg (by decide), ss_cons]
      walk_at "wp"
      intro p2 hp2
      rw [cut_init]
      refine lv (fun b hb => ?_) q
      have h4 : b ≠ p2 := fun z => by
        have := keep b hb
        rw [z, hp2] at this
        rw [z] at hb
        exact hb this.symm
      rw [upd_no h4, keep b hb]
    · rw [if_neg h] at q
      rw [decide_eq_false h]
      (try walk_at "wp")
      rw [if_pos (by rfl)]
      (rw [ss_cons]; walk_at "wp")
      exact lv keep q
  · obtain ⟨hk, hM, s4, rfl⟩ := hI
    rw [List.getElem?_map] at hx
    obtain ⟨u, hu, rfl⟩ := Option.map_eq_some_iff.mp hx
    have hi : i < gs.length := by
      have := (List.getElem?_eq_some_iff.mp hu).1
      simpa using this
    have eu : gs.getD (gs.length - 1 - i) (fun _ _ => 0) = u := by
      rw [List.getElem?_reverse hi] at hu
      rw [List.getD_eq_getElem?_getD, hu]; rfl
    have hlast : L2.atI (((List.range (i + 1)).map (lrT m gs c)).map (RD m)) (-1) = some (RD m (lrT m gs c i)) := own_last last_range
    (try walk_at "wp")
    rw [ss_cons]
    simp! only [hM]
    refine ⟨⟨_, rfl⟩, _, hlast, ahead_ok (by omega) ?_⟩
    refine ⟨_, hM, Nat.lt_of_lt_of_le (show _ < 2000 by simp; omega) (by decide), fun b hb => by rw [upd_no hb, hk b hb], ?_, _, rfl⟩
    rw [map_snoc]
    congr 1
    rw [List.range_succ (n := i + 1), List.map_append, List.map_singleton, lrT, eu]
theorem product_ok {m : Nat} (hm : m < 900) {g : Nat → Nat → Int} {gs : List (Nat → Nat → Int)} (q : Q (TD m (gs.foldl (comp m) g)) M) : wFn P (n + 2) f__law_product [TL m (g :: gs)] M Q E := by
  refine enter rfl rfl ?_
  simp only [d__law_product, TL, List.map_cons]
  (rw [ss_cons]; walk_at "wp")
  rw [ss_cons]
  walk_at "wp"
  rw [show (1 : Int) = ((1 : Nat) : Int) from rfl, cut_from, List.drop_succ_cons, List.drop_zero]
  refine for_at mF (fun i e M' => M' = M ∧ ∃ s2, e = [.val (TL m (g :: gs)), .val (TD m ((gs.take i).foldl (comp m) g)), s2]) ⟨rfl, _, rfl⟩ (fun _ _ _ _ => trivial) (fun e M' hI => ?_) (fun i x e M' hx hI => ?_)
  · obtain ⟨rfl, s2, rfl⟩ := hI
    rw [List.length_map, List.take_length]
    (try walk_at "wp")
    (rw [ss_cons]; walk_at "wp")
    exact leave q
  · obtain ⟨rfl, s2, rfl⟩ := hI
    rw [List.getElem?_map] at hx
    obtain ⟨u, hu, rfl⟩ := Option.map_eq_some_iff.mp hx
    (try walk_at "wp")
    rw [ss_cons]
    walk_at "wp"
    refine law_compose_ok P__law_compose (by omega) ?_
    rw [List.take_add_one, hu]
    simp only [Option.toList, List.foldl_append, List.foldl_cons, List.foldl_nil]
    (try walk_at "wp")
    exact ⟨_, rfl⟩
theorem says_ok {a b : Bool} (q : Q (.bl (a == b)) M) : wFn P (n + 1) f__law_says [.bl a, .bl b] M Q E := by
  refine enter rfl rfl ?_
  simp only [d__law_says]
  rw [ss_cons]
  walk_at "wp"
  exact leave q
/-- rows along tables keep them -/
def Wlk (m : Nat) (gs : List (Nat → Nat → Int)) (rows : List (Nat → Int)) : Prop := ∀ k, k < gs.length → KpT m (gs.getD k fun _ _ => 0) (rows.getD k fun _ => 0) (rows.getD (k + 1) fun _ => 0)
theorem walked_ok {m : Nat} (hm : m < 900) {gs : List (Nat → Nat → Int)} (hl : gs.length < 900) {rows : List (Nat → Int)} (hr : rows.length = gs.length + 1) (h : Wlk m gs rows) (q : Q (.bl true) M) : wFn P (n + 2) f__law_walked [TL m gs, RwD m rows] M Q E := by
  refine enter rfl rfl ?_
  simp only [d__law_walked]
  rw [ss_cons]
  simp only [TL, wS, wE, wEs, wO, wAs, wL, wN, wI, wT, wTs, setAll, Tg.slots, wipeE, cmp_eq_int, cmp_ne_int, cmp_eq_str, cmp_ne_str, cmp_eq_tup, cmp_ne_tup, cmp_eq_bl, cmp_lt, cmp_le, cmp_gt, cmp_ge, Kt0_rt, Kt0_nx, List.getElem?_cons_zero, List.getElem?_cons_succ, List.set_cons_zero, List.set_cons_succ, Option.some.injEq, Slot.val.injEq, Slot.own.injEq, MO.lst.injEq, D.int.injEq, D.ref.injEq, D.bl.injEq, D.tup.injEq, D.str.injEq, exists_eq_left', exists_eq_left, exists_and_left, exists_and_right, and_assoc, true_and, and_true, atI_0, atI_1, atI_2, atI_3, atI_4, backs, drps, List.map_cons, List.map_nil, List.length_cons, List.length_nil, List.cons_append, List.nil_append, List.replicate, Nat.reduceAdd, Nat.reduceSub, decide_eq_true_eq, upd_at, aug_add_int, aug_sub_int, aug_mul_int, aug_add_str, ixN5_1, ixN5_2, ixN5_3, Int.toNat_natCast, List.length_map, List.length_range, tg_nm, tg_tp, tru_non, tru_bl, tru_int, tru_str, tru_tup, tru_ref, bin_add_int, bin_add_str, bin_add_tup, bin_sub, bin_mul, bin_fdiv, bin_mod, bin_pow, bin_shl, bin_shr, bin_band, bin_bor, idx_tup, idx_ref, idx_str, blt_len_tup, blt_len_str, blt_len_ref, blt_int_int, blt_int_bl, blt_bool_bl, blt_bool_int, blt_abs, blt_max2, blt_max3, blt_min2, blt_tuple_tup, blt_tuple_ref, blt_isa_non, blt_isa_bl, blt_isa_int, blt_isa_str, blt_isa_tup, isa_int_int, isa_int_bool, isa_bl_bool, isa_tup, isa_str, lk_tuple, lk_len, lk_all, lk_any, lk_sum, it_tup, it_rl, it_ref, zip_tup, enum_tup, enum_ref, eq_self_iff_true, if_true, Bool.false_eq_true, if_false, reduceIte, ss_nil, rev_tup, rev_ref, ty_split, ty_join, ty_append, ty_pop, ty_popAt, ty_reverse, ty_extend, ty_insert, mth_append, mth_pop, mth_popAt, mth_reverse, mth_extend, mth_insert, mth_split, mth_join, cmp_eq_ref, cmp_ne_ref, slc_tup, slc_str, slc_ref, lk_max, lk_min, cmp_lt_str, cmp_is_bl, cmp_not_bl, cmp_is_non, cmp_not_non, cmp_is_tup, cmp_not_tup, cmp_is_int, cmp_not_int, blt_str, blt_maxt, blt_mint, tg_np]
  refine ⟨by omega, by omega, ?_⟩
  refine for_range (n := gs.length) mF (fun k e M' => M' = M ∧ ∃ s2, e = [.val (TL m gs), .val (RwD m rows), s2]) ⟨rfl, _, rfl⟩ (fun _ _ _ _ => trivial) (fun e M' hI => ?_) (fun k e M' hk hI => ?_)
  · obtain ⟨rfl, s2, rfl⟩ := hI
    (try walk_at "wp")
    (rw [ss_cons]; walk_at "wp")
    exact leave q
  · obtain ⟨rfl, s2, rfl⟩ := hI
    have e1 : L2.atI (gs.map (TD m)) (k : Int) = some (TD m (gs.getD k fun _ _ => 0)) := atI_cast (by rw [List.getElem?_map, List.getElem?_eq_getElem hk, List.getD_eq_getElem?_getD, List.getElem?_eq_getElem hk]; rfl)
    (try walk_at "wp")
    rw [ss_cons]
    simp only [TL, wS, wE, wEs, wO, wAs, wL, wN, wI, wT, wTs, setAll, Tg.slots, wipeE, cmp_eq_int, cmp_ne_int, cmp_eq_str, cmp_ne_str, cmp_eq_tup, cmp_ne_tup, cmp_eq_bl, cmp_lt, cmp_le, cmp_gt, cmp_ge, Kt0_rt, Kt0_nx, List.getElem?_cons_zero, List.getElem?_cons_succ, List.set_cons_zero, List.set_cons_succ, Option.some.injEq, Slot.val.injEq, Slot.own.injEq, MO.lst.injEq, D.int.injEq, D.ref.injEq, D.bl.injEq, D.tup.injEq, D.str.injEq, exists_eq_left', exists_eq_left, exists_and_left, exists_and_right, and_assoc, true_and, and_true, atI_0, atI_1, atI_2, atI_3, atI_4, backs, drps, List.map_cons, List.map_nil, List.length_cons, List.length_nil, List.cons_append, List.nil_append, List.replicate, Nat.reduceAdd, Nat.reduceSub, decide_eq_true_eq, upd_at, aug_add_int, aug_sub_int, aug_mul_int, aug_add_str, ixN5_1, ixN5_2, ixN5_3, Int.toNat_natCast, List.length_map, List.length_range, tg_nm, tg_tp, tru_non, tru_bl, tru_int, tru_str, tru_tup, tru_ref, bin_add_int, bin_add_str, bin_add_tup, bin_sub, bin_mul, bin_fdiv, bin_mod, bin_pow, bin_shl, bin_shr, bin_band, bin_bor, idx_tup, idx_ref, idx_str, blt_len_tup, blt_len_str, blt_len_ref, blt_int_int, blt_int_bl, blt_bool_bl, blt_bool_int, blt_abs, blt_max2, blt_max3, blt_min2, blt_tuple_tup, blt_tuple_ref, blt_isa_non, blt_isa_bl, blt_isa_int, blt_isa_str, blt_isa_tup, isa_int_int, isa_int_bool, isa_bl_bool, isa_tup, isa_str, lk_tuple, lk_len, lk_all, lk_any, lk_sum, it_tup, it_rl, it_ref, zip_tup, enum_tup, enum_ref, eq_self_iff_true, if_true, Bool.false_eq_true, if_false, reduceIte, ss_nil, rev_tup, rev_ref, ty_split, ty_join, ty_append, ty_pop, ty_popAt, ty_reverse, ty_extend, ty_insert, mth_append, mth_pop, mth_popAt, mth_reverse, mth_extend, mth_insert, mth_split, mth_join, cmp_eq_ref, cmp_ne_ref, slc_tup, slc_str, slc_ref, lk_max, lk_min, cmp_lt_str, cmp_is_bl, cmp_not_bl, cmp_is_non, cmp_not_non, cmp_is_tup, cmp_not_tup, cmp_is_int, cmp_not_int, blt_str, blt_maxt, blt_mint, tg_np, e1, idx_Rw (show k < rows.length by omega), idx_Rw1 (show k + 1 < rows.length by omega)]
    refine law_keeps_ok P__law_keeps (by omega) ?_
    rw [decide_eq_true (h k hk)]
    (try walk_at "wp")
    exact ⟨_, rfl⟩
/-- the middles, or nothing -/
def midV (m : Nat) (g : Nat → Nat → Int) (gs : List (Nat → Nat → Int)) (a c : Nat → Int) : D := if KpT m g a (cR m gs c) then RwD m (mids m gs c) else .non
theorem told_ok {m : Nat} (hm : m < 900) {g : Nat → Nat → Int} {gs : List (Nat → Nat → Int)} (hl : gs.length < 900) {a c : Nat → Int} (q : Q (.bl true) M) : wFn P (n + 4) f__law_told [TL m (g :: gs), RD m a, RD m c, midV m g gs a c] M Q E := by
  refine enter rfl rfl ?_
  simp only [d__law_told]
  (rw [ss_cons]; walk_at "wp")
  refine middles_ok hm hl ?_
  rw [show (if KpT m g a (cR m gs c) then RwD m (mids m gs c) else D.non) = midV m g gs a c from rfl]
  by_cases h : KpT m g a (cR m gs c)
  · rw [show midV m g gs a c = RwD m (mids m gs c) from if_pos h]
    (try walk_at "wp")
    rw [ss_cons]
    simp! only [is_RwD]
    rw [ss_cons]
    simp! only [len_RD]
    refine is_rows_ok rfl rfl rfl (by omega) (by rw [mids_len]; omega) ?_
    (try walk_at "wp")
    rw [eq_RwD]
    exact leave q
  · rw [show midV m g gs a c = .non from if_neg h]
    (try walk_at "wp")
    rw [ss_cons]
    walk_at "wp"
    (rw [ss_cons]; walk_at "wp")
    exact leave q
theorem rev_TL {m : Nat} {gs : List (Nat → Nat → Int)} {K : D → Prop} : K (.tup (gs.map (TD m)).reverse) = K (.tup (gs.reverse.map (TD m))) := by rw [List.map_reverse]
theorem kp_lst {m : Nat} {g : Nat → Nat → Int} {a b : Nat → Int} (h : ∀ x, x < m → lstN (g x) b m ≤ a x) : KpT m g a b := fun x hx y hy z => by
  have h1 := h x hx
  rcases z with ⟨e, z⟩ | ⟨e, z⟩
  · have := lstN_ge (gx := g x) (b := b) hy (by omega)
    omega
  · have := lstN_ge (gx := g x) (b := b) hy (by omega)
    omega
theorem run_ok {d c : Nat} {m : Nat} (hm : m < 900) {gs : List (Nat → Nat → Int)} (hl : gs.length < 900) {b0 : Nat → Int} (hb0 : ∀ x, x < m → 0 ≤ b0 x) (h : Dst M d c) (q : ∀ rows M', rows.length = gs.length + 1 → Wlk m gs rows → (∀ r ∈ rows, ∀ x, x < m → 0 ≤ r x) → DrS d c M M' → Q (RwD m rows) M') : wFn P (n + 3) f__law_run [.ref d, TL m gs, RD m b0] M Q E := by
  refine enter rfl rfl ?_
  simp only [d__law_run]
  rw [ss_cons]
  walk_at "wp"
  refine ⟨by decide, fun p3 hp3 => ?_⟩
  have h3d := h.none hp3
  rw [ss_cons]
  simp only [TL, wS, wE, wEs, wO, wAs, wL, wN, wI, wT, wTs, setAll, Tg.slots, wipeE, cmp_eq_int, cmp_ne_int, cmp_eq_str, cmp_ne_str, cmp_eq_tup, cmp_ne_tup, cmp_eq_bl, cmp_lt, cmp_le, cmp_gt, cmp_ge, Kt0_rt, Kt0_nx, List.getElem?_cons_zero, List.getElem?_cons_succ, List.set_cons_zero, List.set_cons_succ, Option.some.injEq, Slot.val.injEq, Slot.own.injEq, MO.lst.injEq, D.int.injEq, D.ref.injEq, D.bl.injEq, D.tup.injEq, D.str.injEq, exists_eq_left', exists_eq_left, exists_and_left, exists_and_right, and_assoc, true_and, and_true, atI_0, atI_1, atI_2, atI_3, atI_4, backs, drps, List.map_cons, List.map_nil, List.length_cons, List.length_nil, List.cons_append, List.nil_append, List.replicate, Nat.reduceAdd, Nat.reduceSub, decide_eq_true_eq, upd_at, aug_add_int, aug_sub_int, aug_mul_int, aug_add_str, ixN5_1, ixN5_2, ixN5_3, Int.toNat_natCast, List.length_map, List.length_range, tg_nm, tg_tp, tru_non, tru_bl, tru_int, tru_str, tru_tup, tru_ref, bin_add_int, bin_add_str, bin_add_tup, bin_sub, bin_mul, bin_fdiv, bin_mod, bin_pow, bin_shl, bin_shr, bin_band, bin_bor, idx_tup, idx_ref, idx_str, blt_len_tup, blt_len_str, blt_len_ref, blt_int_int, blt_int_bl, blt_bool_bl, blt_bool_int, blt_abs, blt_max2, blt_max3, blt_min2, blt_tuple_tup, blt_tuple_ref, blt_isa_non, blt_isa_bl, blt_isa_int, blt_isa_str, blt_isa_tup, isa_int_int, isa_int_bool, isa_bl_bool, isa_tup, isa_str, lk_tuple, lk_len, lk_all, lk_any, lk_sum, it_tup, it_rl, it_ref, zip_tup, enum_tup, enum_ref, eq_self_iff_true, if_true, Bool.false_eq_true, if_false, reduceIte, ss_nil, rev_tup, rev_ref, ty_split, ty_join, ty_append, ty_pop, ty_popAt, ty_reverse, ty_extend, ty_insert, mth_append, mth_pop, mth_popAt, mth_reverse, mth_extend, mth_insert, mth_split, mth_join, cmp_eq_ref, cmp_ne_ref, slc_tup, slc_str, slc_ref, lk_max, lk_min, cmp_lt_str, cmp_is_bl, cmp_not_bl, cmp_is_non, cmp_not_non, cmp_is_tup, cmp_not_tup, cmp_is_int, cmp_not_int, blt_str, blt_maxt, blt_mint, tg_np]
  rw [← List.map_reverse]
  refine for_at mF (fun i e M' => Dst M' d c ∧ (∀ b, M b ≠ Option.none → b ≠ d → M' b = M b) ∧ ∃ rs : List (Nat → Int), rs.length = i + 1 ∧ (∀ t, t < i → KpT m (gs.getD (gs.length - 1 - t) fun _ _ => 0) (rs.getD (t + 1) fun _ => 0) (rs.getD t fun _ => 0)) ∧ (∀ r ∈ rs, ∀ x, x < m → 0 ≤ r x) ∧ M' p3 = some (.lst (rs.map (RD m))) ∧ ∃ s4 s5, e = [.val (.ref d), .val (TL m gs), .val (RD m b0), .val (.ref p3), s4, s5])
    ⟨h.upd hp3, (fun b hb _ => upd_no fun z => hb (by rw [z]; exact hp3)), [b0], rfl, (fun t ht => absurd ht (by omega)), (fun r hr x hx => by rw [List.mem_singleton.mp hr]; exact hb0 x hx), upd_at, _, _, rfl⟩ (fun _ _ _ _ => trivial) (fun e M' hI => ?_) (fun i x e M' hx hI => ?_)
  · obtain ⟨hd, hk, rs, hrl, hkp, hnn, hM, s4, s5, rfl⟩ := hI
    rw [List.length_map, List.length_reverse] at hrl hkp
    (try walk_at "wp")
    rw [ss_cons]
    simp! only [hM]
    intro p hp
    rw [lists_rev]
    refine leaveD h (hd.upd hp) (fun b hb hbd => ?_) fun M'' s => q rs.reverse M'' (by simp [hrl]) (fun k hk' => ?_) (fun r hr => hnn r (by simpa using hr)) s
    · rw [upd_no (fun z => by rw [z] at hb hbd; rw [hk p hb hbd] at hp; exact hb hp), hk b hb hbd]
    · have hrev : ∀ j, j < rs.length → rs.reverse.getD j (fun _ => 0) = rs.getD (rs.length - 1 - j) fun _ => 0 := fun j hj => by
        rw [List.getD_eq_getElem?_getD, List.getElem?_reverse hj, ← List.getD_eq_getElem?_getD]
      rw [hrev k (by omega), hrev (k + 1) (by omega), hrl]
      have := hkp (gs.length - 1 - k) (by omega)
      rw [show gs.length - 1 - (gs.length - 1 - k) = k from by omega, show gs.length - 1 - k + 1 = gs.length + 1 - 1 - k from by omega] at this
      rw [show gs.length + 1 - 1 - (k + 1) = gs.length - 1 - k from by omega]
      exact this
  · obtain ⟨hd, hk, rs, hrl, hkp, hnn, hM, s4, s5, rfl⟩ := hI
    rw [List.getElem?_map] at hx
    obtain ⟨u, hu, rfl⟩ := Option.map_eq_some_iff.mp hx
    have hi : i < gs.length := by
      have := (List.getElem?_eq_some_iff.mp hu).1
      simpa using this
    have eu : gs.getD (gs.length - 1 - i) (fun _ _ => 0) = u := by
      rw [List.getElem?_reverse hi] at hu
      rw [List.getD_eq_getElem?_getD, hu]; rfl
    obtain ⟨b, hb⟩ : ∃ b, rs.getLast? = some b := by
      cases rs with
      | nil => simp at hrl
      | cons x xs => exact ⟨_, List.getLast?_cons⟩
    have hbi : rs.getD i (fun _ => 0) = b := by
      have e1 : rs.getLast? = rs[i]? := by rw [List.getLast?_eq_getElem?, hrl]; rfl
      rw [e1] at hb
      rw [List.getD_eq_getElem?_getD, hb]; rfl
    (try walk_at "wp")
    rw [ss_cons]
    simp! only [hM]
    refine ⟨⟨_, rfl⟩, _, own_last hb, ahead_ok (by omega) ?_⟩
    simp! only [it_RD]
    refine ⟨small_line (by omega), cmpr_acc (fun j ys M2 => DrS d c M' M2 ∧ ∃ r : Nat → Int, ys = (List.range j).map (fun y => .int (r y)) ∧ ∀ y, y < j → rowA m u b y ≤ r y) (fun _ _ _ _ => trivial) (fun j x ys M2 hx hI R hR => ?_) ⟨DrS.refl hd, fun _ => 0, rfl, fun y hy => absurd hy (by omega)⟩ fun ys M2 hI => ?_⟩
    · obtain ⟨hj, rfl⟩ := get_range hx
      obtain ⟨s2, r, rfl, hr⟩ := hI
      refine ⟨by decide, fun p hp => pick_ns (lo := 0) (hi := 2) rfl rfl [0, 0, 1, 2] rfl (by decide) (by decide) (by decide) s2.1 hp fun k M4 k0 k1 s4' => ?_⟩
      walk_at "wp"
      refine hR _ _ ⟨s2.trans s4', fun y => if y = j then rowA m u b j + (k : Int) else r y, ?_, fun y hy => ?_⟩
      · rw [← range_snoc]
        dsimp only
        rw [if_pos rfl]
        congr 1
        exact map_range_congr fun y hy => by rw [if_neg (by omega)]
      · dsimp only
        by_cases z : y = j
        · subst z; rw [if_pos rfl]; omega
        · rw [if_neg z]; exact hr y (by omega)
    · simp only [List.length_map, List.length_range] at hI
      obtain ⟨s2, r, rfl, hr⟩ := hI
      have h3 : M2 p3 = some (.lst (rs.map (RD m))) := by rw [s2.2 p3 h3d.1]; exact hM
      rw [show D.tup ((List.range m).map fun y => D.int (r y)) = RD m r from rfl]
      have hpd : p3 ≠ d := h3d.1
      refine ⟨_, h3, Nat.lt_of_lt_of_le (show _ < 2000 by rw [List.length_map, hrl]; omega) (by decide), ?_, fun b' hb' hbd' => ?_, rs ++ [r], by simp [hrl], fun t ht => ?_, fun r' hr' x hx' => ?_, by rw [List.map_append]; rfl, _, _, rfl⟩
      · obtain ⟨cells, a1, r1, g1, e1, hc1, e2⟩ := s2.1
        have hM1 : M2 p3 ≠ Option.none := by rw [h3]; simp
        refine ⟨cells, a1, r1, g1, ?_, hc1, ?_⟩
        · rw [upd_no (fun z => hpd z.symm)]; exact e1
        · rw [upd_no (fun z => h3d.2 z.symm)]; exact e2
      · rw [upd_no (fun z => hb' (by rw [z]; exact hp3)), s2.2 b' hbd', hk b' hb' hbd']
      · by_cases z : t = i
        · subst z
          rw [eu]
          rw [show (rs ++ [r]).getD (t + 1) (fun _ => 0) = r from by rw [List.getD_eq_getElem?_getD, List.getElem?_append_right (by omega), hrl]; simp]
          rw [show (rs ++ [r]).getD t (fun _ => 0) = b from by rw [List.getD_eq_getElem?_getD, List.getElem?_append_left (by omega), ← List.getD_eq_getElem?_getD, hbi]]
          exact kp_lst hr
        · rw [show (rs ++ [r]).getD (t + 1) (fun _ => 0) = rs.getD (t + 1) (fun _ => 0) from by rw [List.getD_eq_getElem?_getD, List.getElem?_append_left (by omega), ← List.getD_eq_getElem?_getD]]
          rw [show (rs ++ [r]).getD t (fun _ => 0) = rs.getD t (fun _ => 0) from by rw [List.getD_eq_getElem?_getD, List.getElem?_append_left (by omega), ← List.getD_eq_getElem?_getD]]
          exact hkp t (by omega)
      · rcases List.mem_append.mp hr' with z | z
        · exact hnn r' z x hx'
        · rw [List.mem_singleton.mp z]
          exact Int.le_trans lstN_nonneg (hr x hx')
/-! plain: least rows -/
theorem rowA_le {m : Nat} {g : Nat → Nat → Int} (hg : Ent m g) {a b : Nat → Int} (h : KpT m g a b) {x : Nat} (hx : x < m) (h0 : 0 ≤ a x) : rowA m g b x ≤ a x := lstN_le h0 fun y hy hp => by
  have h1 := h x hx y hy
  have h2 := hg x y hx hy
  unfold BadP at h1
  have : g x y = 1 ∨ g x y = 2 := by omega
  rcases this with e | e <;> omega
theorem kp_rowA {m : Nat} {g : Nat → Nat → Int} {b : Nat → Int} : KpT m g (rowA m g b) b := kp_lst fun _ _ => Int.le_refl _
theorem kpT_dn {m : Nat} {g : Nat → Nat → Int} {a b b' : Nat → Int} (h : KpT m g a b) (hb : ∀ y, y < m → b' y ≤ b y) : KpT m g a b' := fun x hx y hy z => h x hx y hy (by
  have := hb y hy
  unfold BadP at z ⊢
  omega)
theorem rowsC_get {m : Nat} : ∀ {gs : List (Nat → Nat → Int)} {c d : Nat → Int} {k : Nat}, k ≤ gs.length → (rowsC m gs c).getD k d = cR m (gs.drop k) c
  | [], c, d, k, h => by
    have : k = 0 := by simpa using h
    subst this; rfl
  | g :: gs, c, d, 0, _ => rfl
  | g :: gs, c, d, k + 1, h => by
    rw [rowsC, List.getD_cons_succ, rowsC_get (by simpa using h), List.drop_succ_cons]
def AllE (m : Nat) (gs : List (Nat → Nat → Int)) : Prop := ∀ g ∈ gs, Ent m g
theorem cR_nonneg {m : Nat} {gs : List (Nat → Nat → Int)} {c : Nat → Int} (hc : ∀ x, x < m → 0 ≤ c x) {x : Nat} (hx : x < m) : 0 ≤ cR m gs c x := by
  cases gs with
  | nil => exact hc x hx
  | cons g gs => exact lstN_nonneg
/-- no run lies under the least rows -/
theorem least_le {m : Nat} {gs : List (Nat → Nat → Int)} (hE : AllE m gs) {rows : List (Nat → Int)} (hl : rows.length = gs.length + 1) (hw : Wlk m gs rows) (hn : ∀ r ∈ rows, ∀ x, x < m → 0 ≤ r x) : ∀ i j, j + i = gs.length → ∀ x, x < m → cR m (gs.drop j) (rows.getD gs.length fun _ => 0) x ≤ rows.getD j (fun _ => 0) x := by
  intro i
  induction i with
  | zero =>
    intro j hj x hx
    rw [List.drop_of_length_le (by omega), show j = gs.length from by omega]
    exact Int.le_refl _
  | succ i ih =>
    intro j hj x hx
    have hj' : j < gs.length := by omega
    rw [List.drop_eq_getElem_cons hj', cR]
    have e : gs[j] = gs.getD j (fun _ _ => 0) := by rw [List.getD_eq_getElem?_getD, List.getElem?_eq_getElem hj']; rfl
    have h1 := hw j hj'
    rw [← e] at h1
    have hmem : rows.getD j (fun _ => 0) ∈ rows := by
      rw [List.getD_eq_getElem?_getD, List.getElem?_eq_getElem (by omega)]
      exact List.getElem_mem _
    exact rowA_le (hE _ (List.getElem_mem hj')) (kpT_dn h1 fun y hy => ih (j + 1) (by omega) y hy) hx (hn _ hmem x hx)
/-- the least rows behind a row that keeps the first table with them -/
theorem walk_mids {m : Nat} {g : Nat → Nat → Int} {gs : List (Nat → Nat → Int)} {a c : Nat → Int} (h : KpT m g a (cR m gs c)) : Wlk m (g :: gs) (a :: rowsC m gs c) := fun k hk => by
  cases k with
  | zero =>
    rw [List.getD_cons_zero, List.getD_cons_zero, List.getD_cons_succ, rowsC_hd']
    exact h
  | succ k =>
    have hk' : k < gs.length := by simpa using hk
    rw [List.getD_cons_succ, List.getD_cons_succ, List.getD_cons_succ, rowsC_get (by omega), rowsC_get (by omega), List.drop_eq_getElem_cons hk', cR]
    rw [show gs.getD k (fun _ _ => 0) = gs[k] from by rw [List.getD_eq_getElem?_getD, List.getElem?_eq_getElem hk']; rfl]
    exact kp_rowA
theorem mids_c {m : Nat} {gs : List (Nat → Nat → Int)} {c : Nat → Int} : mids m gs c ++ [c] = rowsC m gs c := by
  have hne : rowsC m gs c ≠ [] := fun z => by
    have := congrArg List.length z
    rw [rowsC_len] at this
    simp at this
  have hlast : (rowsC m gs c).getLast hne = c := by
    have : ∀ gs : List (Nat → Nat → Int), ∀ h : rowsC m gs c ≠ [], (rowsC m gs c).getLast h = c := fun gs => by
      induction gs with
      | nil => intro _; rfl
      | cons g gs ih =>
        intro h
        have h2 : rowsC m gs c ≠ [] := fun z => by
          have := congrArg List.length z
          rw [rowsC_len] at this
          simp at this
        simp only [rowsC]
        rw [List.getLast_cons h2]
        exact ih h2
    exact this gs hne
  have := List.dropLast_concat_getLast hne
  rw [hlast] at this
  exact this
/-! plain: the product and scaled rows -/
def PR (m : Nat) (gs : List (Nat → Nat → Int)) : Nat → Nat → Int := gs.foldr (comp m) idm
theorem idm_ent {m : Nat} : Ent m idm := fun x y _ _ => by unfold idm; split <;> omega
theorem PR_ent {m : Nat} : ∀ {gs : List (Nat → Nat → Int)}, AllE m gs → Ent m (PR m gs)
  | [], _ => idm_ent
  | g :: gs, h => comp_ent (h g List.mem_cons_self) (PR_ent fun u hu => h u (List.mem_cons_of_mem _ hu))
theorem idm_kp {m : Nat} {a : Nat → Int} : KpT m idm a a := fun x hx y hy z => by
  unfold BadP idm at z
  by_cases e : x = y
  · subst e; rw [if_pos rfl] at z; omega
  · rw [if_neg e] at z; omega
/-- a run keeps the product with its ends -/
theorem run_PR {m : Nat} {gs : List (Nat → Nat → Int)} (hE : AllE m gs) {rows : List (Nat → Int)} (hw : Wlk m gs rows) : ∀ i j, j + i = gs.length → KpT m (PR m (gs.drop j)) (rows.getD j fun _ => 0) (rows.getD gs.length fun _ => 0) := by
  intro i
  induction i with
  | zero =>
    intro j hj
    rw [List.drop_of_length_le (by omega), show j = gs.length from by omega]
    exact idm_kp
  | succ i ih =>
    intro j hj
    have hj' : j < gs.length := by omega
    rw [List.drop_eq_getElem_cons hj']
    have e : gs[j] = gs.getD j (fun _ _ => 0) := by rw [List.getD_eq_getElem?_getD, List.getElem?_eq_getElem hj']; rfl
    have h1 := hw j hj'
    rw [← e] at h1
    exact KpT.comp (hE _ (List.getElem_mem hj')) (PR_ent fun u hu => hE u (List.mem_of_mem_drop hu)) h1 (ih (j + 1) (by omega))
/-- the least rows are no less than what the product asks -/
theorem PR_lo {m : Nat} : ∀ {gs : List (Nat → Nat → Int)}, AllE m gs → ∀ {b : Nat → Int} {x z : Nat}, x < m → z < m → 0 < PR m gs x z → b z + (PR m gs x z - 1) ≤ cR m gs b x
  | [], _, b, x, z, hx, hz, h => by
    have e : x = z := by
      by_cases e : x = z
      · exact e
      · rw [show PR m [] x z = 0 from if_neg e] at h; omega
    subst e
    rw [show PR m [] x x = 1 from if_pos rfl]
    show b x + (1 - 1) ≤ b x
    omega
  | g :: gs, hE, b, x, z, hx, hz, h => by
    have hg := hE g List.mem_cons_self
    have hE' : AllE m gs := fun u hu => hE u (List.mem_cons_of_mem _ hu)
    have le := (PR_ent hE x z hx hz).2
    have key : ∀ y, y < m → 0 < g x y → 0 < PR m gs y z → b z + (PR m gs y z - 1) + g x y - 1 ≤ cR m (g :: gs) b x := fun y hy h1 h2 => by
      have ih := PR_lo hE' (b := b) hy hz h2
      have := lstN_ge (gx := g x) (b := cR m gs b) hy h1
      show _ ≤ lstN (g x) (cR m gs b) m
      omega
    by_cases e : 2 ≤ PR m (g :: gs) x z
    · obtain ⟨y, hy, h1, h2, h3⟩ := (le_comp (by decide)).mp (show 2 ≤ DL.comp m g (PR m gs) x z from e)
      have := key y hy h1 h2
      rcases h3 with h3 | h3 <;> omega
    · obtain ⟨y, hy, h1, h2⟩ := pos_comp.mp (show 0 < DL.comp m g (PR m gs) x z from h)
      have := key y hy h1 h2
      omega
/-- and no more than it lets, but for the strict arcs -/
theorem PR_hi {m : Nat} : ∀ {gs : List (Nat → Nat → Int)}, AllE m gs → ∀ {b : Nat → Int} {x : Nat}, x < m → cR m gs b x ≤ gs.length ∨ ∃ z, z < m ∧ ((PR m gs x z = 1 ∧ cR m gs b x ≤ b z) ∨ (PR m gs x z = 2 ∧ cR m gs b x ≤ b z + gs.length))
  | [], _, b, x, hx => .inr ⟨x, hx, .inl ⟨if_pos rfl, Int.le_refl _⟩⟩
  | g :: gs, hE, b, x, hx => by
    have hg := hE g List.mem_cons_self
    have hE' : AllE m gs := fun u hu => hE u (List.mem_cons_of_mem _ hu)
    by_cases h0 : 0 < cR m (g :: gs) b x
    rotate_left
    · exact .inl (by rw [List.length_cons]; omega)
    obtain ⟨y, hy, h1, h2⟩ := lstN_pick (gx := g x) (b := cR m gs b) (n := m) h0
    have h2 : cR m (g :: gs) b x = cR m gs b y + g x y - 1 := h2
    have h3 := hg x y hx hy
    rw [List.length_cons]
    rcases PR_hi hE' (b := b) hy with ih | ⟨z, hz, ih⟩
    · exact .inl (by omega)
    · have le := (PR_ent hE x z hx hz).2
      have pz : 0 < PR m gs y z := by rcases ih with ih | ih <;> omega
      have pos : 0 < PR m (g :: gs) x z := pos_comp.mpr ⟨y, hy, h1, pz⟩
      have two : (g x y = 2 ∨ PR m gs y z = 2) → PR m (g :: gs) x z = 2 := fun h => by
        have : 2 ≤ DL.comp m g (PR m gs) x z := (le_comp (by decide)).mpr ⟨y, hy, h1, pz, by omega⟩
        have e : PR m (g :: gs) x z = DL.comp m g (PR m gs) x z := rfl
        omega
      refine .inr ⟨z, hz, ?_⟩
      by_cases e : PR m (g :: gs) x z = 2
      · refine .inr ⟨e, ?_⟩
        rcases ih with ih | ih <;> omega
      · have n1 : ¬ (g x y = 2 ∨ PR m gs y z = 2) := fun h => e (two h)
        refine .inl ⟨by omega, ?_⟩
        rcases ih with ih | ih <;> omega
/-- scaled rows tell the product -/
theorem sc_iff {m : Nat} {g : Nat → Nat → Int} {gs : List (Nat → Nat → Int)} (hE : AllE m (g :: gs)) {a c : Nat → Int} (ha : ∀ x, x < m → 0 ≤ a x) {k : Int} (hk : k = gs.length + 1) : KpT m (PR m (g :: gs)) a c ↔ KpT m g (fun x => k * a x + k) (cR m gs fun x => k * c x + k) := by
  have k0 : 0 < k := by omega
  constructor
  · intro h
    refine kp_lst fun x hx => ?_
    show cR m (g :: gs) (fun x => k * c x + k) x ≤ k * a x + k
    have hka : 0 ≤ k * a x := Int.mul_nonneg (by omega) (ha x hx)
    rcases PR_hi hE (b := fun x => k * c x + k) hx with h1 | ⟨z, hz, ⟨e, h1⟩ | ⟨e, h1⟩⟩
    · rw [List.length_cons] at h1
      omega
    · have h2 := kp_ahd (PR_ent hE) h x hx z hz (by omega)
      rw [e] at h2
      have : k * c z ≤ k * a x := Int.mul_le_mul_of_nonneg_left (by omega) (by omega)
      omega
    · have h2 := kp_ahd (PR_ent hE) h x hx z hz (by omega)
      rw [e] at h2
      have : k * (c z + 1) ≤ k * a x := Int.mul_le_mul_of_nonneg_left (by omega) (by omega)
      rw [Int.mul_add, Int.mul_one] at this
      rw [List.length_cons] at h1
      omega
  · intro h
    have hg := hE g List.mem_cons_self
    refine Ahd.kp fun x hx z hz h0 => ?_
    have h1 := PR_lo hE (b := fun x => k * c x + k) hx hz h0
    have hka : 0 ≤ k * a x := Int.mul_nonneg (by omega) (ha x hx)
    have h2 : cR m (g :: gs) (fun x => k * c x + k) x ≤ k * a x + k := rowA_le hg h hx (show 0 ≤ k * a x + k by omega)
    have h3 := (PR_ent hE x z hx hz).2
    have h4 : k * c z + k + (PR m (g :: gs) x z - 1) ≤ k * a x + k := by
      omega
    by_cases e : PR m (g :: gs) x z = 2
    · rw [e] at h4 ⊢
      have : k * c z < k * a x := by omega
      have := Int.lt_of_mul_lt_mul_left this (by omega)
      omega
    · have e1 : PR m (g :: gs) x z = 1 := by omega
      rw [e1] at h4 ⊢
      have : k * c z ≤ k * a x := by omega
      have := Int.le_of_mul_le_mul_left this k0
      omega
theorem from_some_ok {m : Nat} (hm : m < 900) {g : Nat → Nat → Int} {p : Nat} {rs : List (Nat → Int)} (hp : M p = some (.lst (rs.map (RD m)))) {b : Nat → Int} (q : Q (.bl (decide (∃ r ∈ rs, KpT m g r b))) M) : wFn P (n + 2) f__law_from_some [TD m g, .ref p, RD m b] M Q E := by
  refine enter rfl rfl ?_
  simp only [d__law_from_some]
  rw [ss_cons]
  simp! only [hp]
  refine for_at mF (fun i e M' => M' = M ∧ (∀ j r, j < i → rs[j]? = some r → ¬ KpT m g r b) ∧ ∃ s3, e = [.val (TD m g), .val (.ref p), .val (RD m b), s3]) ⟨rfl, (fun j r h => absurd h (by omega)), _, rfl⟩ (fun i e M' h => by rw [h.1]; exact hp) (fun e M' hI => ?_) (fun i x e M' hx hI => ?_)
  · obtain ⟨rfl, hno, s3, rfl⟩ := hI
    rw [List.length_map] at hno
    (try walk_at "wp")
    (rw [ss_cons]; walk_at "wp")
    rw [decide_eq_false (fun z => by
      obtain ⟨r, hr, hk⟩ := z
      obtain ⟨j, hj⟩ := List.getElem?_of_mem hr
      exact hno j r (List.getElem?_eq_some_iff.mp hj).1 hj hk)] at q
    exact leave q
  · obtain ⟨rfl, hno, s3, rfl⟩ := hI
    rw [List.getElem?_map] at hx
    obtain ⟨r, hr, rfl⟩ := Option.map_eq_some_iff.mp hx
    (try walk_at "wp")
    rw [ss_cons]
    walk_at "wp"
    refine law_keeps_ok P__law_keeps (by omega) ?_
    by_cases h : KpT m g r b
    · rw [decide_eq_true h]
      rw [decide_eq_true (⟨r, List.mem_of_getElem? hr, h⟩ : ∃ r ∈ rs, KpT m g r b)] at q
      (try walk_at "wp")
      (rw [ss_cons]; walk_at "wp")
      exact leave q
    · rw [decide_eq_false h]
      (try walk_at "wp")
      refine ⟨fun j r' hj hr' => ?_, _, rfl⟩
      by_cases z : j = i
      · subst z
        rw [hr] at hr'
        cases hr'
        exact h
      · exact hno j r' (by omega) hr'
theorem scaled_ok {m : Nat} (hm : m < 900) {a : Nat → Int} {k : Int} (hc : ∀ i, CMulD k i) (q : Q (RD m fun x => k * a x + k) M) : wFn P (n + 1) f__law_scaled [RD m a, .int k] M Q E := by
  refine enter rfl rfl ?_
  simp only [d__law_scaled]
  rw [ss_cons]
  simp! only [it_RD]
  refine ⟨small_line (by omega), cmpr_range (fun x => .int (a x)) (fun x => .int (k * a x + k)) trivial (fun x hx R hR => ?_) ?_⟩
  · (try walk_at "wp")
    exact ⟨hc _, hR⟩
  · (try walk_at "wp")
    exact leave q
theorem first_row_ok {d c : Nat} {m : Nat} (hm : m < 900) {g : Nat → Nat → Int} {b : Nat → Int} {top : Int} (h0 : 0 ≤ top) (h1 : top < 2 ^ 99) (h : Dst M d c) (q : ∀ r M', (∀ x, x < m → 0 ≤ r x) → DrS d c M M' → Q (RD m r) M') : wFn P (n + 3) f__law_first_row [.ref d, TD m g, RD m b, .int top] M Q E := by
  refine enter rfl rfl ?_
  simp only [d__law_first_row]
  rw [ss_cons]
  walk_at "wp"
  refine draw (by decide) (by decide) h fun k M1 hk s1 => ?_
  (try walk_at "wp")
  split
  · rw [ss_cons]
    simp! only [len_RD]
    refine row_ok rfl rfl (by omega) h0 h1 s1.1 fun r M2 hr s2 => ?_
    (try walk_at "wp")
    exact leave (q r M2 (fun x hx => (hr x hx).1) (s1.trans s2))
  · rw [ss_cons]
    walk_at "wp"
    refine ⟨by decide, fun p4 hp4 => ?_⟩
    rw [ss_cons]
    walk_at "wp"
    refine ahead_ok (by omega) ?_
    simp! only [it_RD]
    refine for_rangeU mF (fun i e M' => DrS d c M M' ∧ i ≤ m ∧ ∃ r : Nat → Int, (∀ x, x < i → 0 ≤ r x) ∧ ∃ s5, e = [.val (.ref d), .val (TD m g), .val (RD m b), .val (.int top), .own p4 (.lst ((List.range i).map fun x => .int (r x))), s5])
      ⟨s1, Nat.zero_le _, fun _ => 0, (fun x hx => absurd hx (by omega)), _, rfl⟩ (fun _ _ _ _ => trivial) (fun e M' hI => ?_) (fun i e M' hi hI => ?_)
    · obtain ⟨s2, _, r, hr, s5, rfl⟩ := hI
      (try walk_at "wp")
      (rw [ss_cons]; walk_at "wp")
      exact leave (q r M' hr s2)
    · obtain ⟨s2, _, r, hr, s5, rfl⟩ := hI
      (try walk_at "wp")
      rw [ss_cons]
      walk_at "wp"
      refine ⟨by decide, fun p hp => pick_tmp rfl rfl s2.1 hp (by simp) (by decide) fun x M2 hx s3 => ?_⟩
      obtain ⟨v, rfl⟩ : ∃ v : Int, x = .int v := by
        simp only [List.mem_cons, List.not_mem_nil, or_false] at hx
        rcases hx with rfl | rfl | rfl | rfl | rfl | rfl <;> exact ⟨_, rfl⟩
      walk_at "wp"
      refine ⟨Nat.lt_of_lt_of_le (show i < 1000 by omega) (by decide), s2.trans s3, hi, fun x => if x = i then max 0 (rowA m g b i + v) else r x, fun x hx => ?_, .val (.int (rowA m g b i)), ?_⟩
      · dsimp only
        by_cases z : x = i
        · rw [if_pos z]; exact Int.le_max_left _ _
        · rw [if_neg z]; exact hr x (by omega)
      · have es : (List.range i).map (fun x => D.int (r x)) ++ [D.int (max 0 (rowA m g b i + v))] = (List.range (i + 1)).map fun x => D.int (if x = i then max 0 (rowA m g b i + v) else r x) := by
          rw [← range_snoc, if_pos rfl]
          congr 1
          exact map_range_congr fun y hy => by rw [if_neg (by omega)]
        rw [es]
theorem all_PR {m : Nat} {gs : List (Nat → Nat → Int)} (hE : AllE m gs) : EqT m (gs.foldl (comp m) idm) (PR m gs) := fun x z hx hz => by
  rw [fold_eq (fun g hg x y hx hy => (hE g hg x y hx hy).1) (fun x y hx hy => (idm_ent x y hx hy).1) x z hx hz]
  exact comp_idl (fun x y hx hy => (PR_ent hE x y hx hy).1) hx hz
theorem prod_PR {m : Nat} {g : Nat → Nat → Int} {gs : List (Nat → Nat → Int)} (hE : AllE m (g :: gs)) : EqT m (gs.foldl (comp m) g) (PR m (g :: gs)) := fun x z hx hz =>
  fold_eq (fun g' hg x y hx hy => (hE g' (List.mem_cons_of_mem _ hg) x y hx hy).1) (fun x y hx hy => (hE g List.mem_cons_self x y hx hy).1) x z hx hz
theorem kpT_eq {m : Nat} {g h : Nat → Nat → Int} (e : EqT m g h) {a b : Nat → Int} : KpT m g a b ↔ KpT m h a b :=
  ⟨fun k x hx y hy z => k x hx y hy (by unfold BadP at z ⊢; rw [e x y hx hy]; exact z), fun k x hx y hy z => k x hx y hy (by unfold BadP at z ⊢; rw [← e x y hx hy]; exact z)⟩
theorem last_getD {α : Type} {xs : List α} {N : Nat} {d : α} (h : xs.length = N + 1) : xs.getLast? = some (xs.getD N d) := by
  rw [List.getLast?_eq_getElem?, h, List.getD_eq_getElem?_getD]
  rw [List.getElem?_eq_getElem (show N + 1 - 1 < xs.length by omega)]
  simp [List.getElem?_eq_getElem (show N < xs.length by omega)]
theorem add_hd {m : Nat} {a : Nat → Int} {ms : List (Nat → Int)} {K : D → Prop} : wBin .add (.tup [RD m a]) (RwD m ms) K = (1 + ms.length ≤ sizeLine ∧ K (RwD m (a :: ms))) := by
  rw [RwD, bin_add_tup, List.length_map]; rfl
theorem add_tl {m : Nat} {c : Nat → Int} {ms : List (Nat → Int)} {K : D → Prop} : wBin .add (RwD m ms) (.tup [RD m c]) K = (ms.length + 1 ≤ sizeLine ∧ K (RwD m (ms ++ [c]))) := by
  rw [RwD, bin_add_tup, List.length_map, RwD, List.map_append]; rfl
theorem mids_get {m : Nat} {gs : List (Nat → Nat → Int)} {c d : Nat → Int} {k : Nat} (h : k < gs.length) : (mids m gs c).getD k d = cR m (gs.drop k) c := by
  rw [← rowsC_get (c := c) (d := d) (Nat.le_of_lt h), mids, List.getD_eq_getElem?_getD, List.getD_eq_getElem?_getD, List.getElem?_dropLast, if_pos (by rw [rowsC_len]; omega)]
theorem run_told_ok {d c : Nat} {m : Nat} (hm : m < 900) {g : Nat → Nat → Int} {gs : List (Nat → Nat → Int)} (hl : gs.length < 800) (hE : AllE m (g :: gs)) {b0 : Nat → Int} (hb0 : ∀ x, x < m → 0 ≤ b0 x) (h : Dst M d c) (q : ∀ M', DrS d c M M' → Q (.bl true) M') : wFn P (n + 5) f__law_run_told [.ref d, .int m, TL m (g :: gs), RD m b0] M Q E := by
  refine enter rfl rfl ?_
  simp only [d__law_run_told]
  (rw [ss_cons]; walk_at "wp")
  refine run_ok hm (by simp; omega) hb0 h fun rows M1 hrl hw hn s1 => ?_
  have hN : (g :: gs).length = gs.length + 1 := rfl
  rw [hN] at hrl
  have hlast := last_getD (d := fun _ => 0) hrl
  have k0 : KpT m g (rows.getD 0 fun _ => 0) (rows.getD 1 fun _ => 0) := hw 0 (by simp)
  have hle : ∀ j, j ≤ gs.length → ∀ x, x < m → cR m (gs.drop j) (rows.getD (gs.length + 1) fun _ => 0) x ≤ rows.getD (j + 1) (fun _ => 0) x := fun j hj x hx => by
    have := least_le hE (by rw [hN]; exact hrl) hw hn (gs.length - j) (j + 1) (by rw [hN]; omega) x hx
    rw [hN, List.drop_succ_cons] at this
    exact this
  have hK : KpT m g (rows.getD 0 fun _ => 0) (cR m gs (rows.getD (gs.length + 1) fun _ => 0)) := kpT_dn k0 fun y hy => by
    have := hle 0 (Nat.zero_le _) y hy
    rw [List.drop_zero] at this
    exact this
  have hP : KpT m ((g :: gs).foldl (comp m) idm) (rows.getD 0 fun _ => 0) (rows.getD (gs.length + 1) fun _ => 0) := (kpT_eq (all_PR hE)).mpr (by
    have := run_PR hE hw (gs.length + 1) 0 (by rw [hN]; omega)
    rw [hN, List.drop_zero] at this
    exact this)
  obtain ⟨rN, hrN⟩ : ∃ rN, rows.getD (gs.length + 1) (fun _ => 0) = rN := ⟨_, rfl⟩
  rw [hrN] at hlast hle hK hP
  (try walk_at "wp")
  rw [ss_cons]
  simp only [TL, wS, wE, wEs, wO, wAs, wL, wN, wI, wT, wTs, setAll, Tg.slots, wipeE, cmp_eq_int, cmp_ne_int, cmp_eq_str, cmp_ne_str, cmp_eq_tup, cmp_ne_tup, cmp_eq_bl, cmp_lt, cmp_le, cmp_gt, cmp_ge, Kt0_rt, Kt0_nx, List.getElem?_cons_zero, List.getElem?_cons_succ, List.set_cons_zero, List.set_cons_succ, Option.some.injEq, Slot.val.injEq, Slot.own.injEq, MO.lst.injEq, D.int.injEq, D.ref.injEq, D.bl.injEq, D.tup.injEq, D.str.injEq, exists_eq_left', exists_eq_left, exists_and_left, exists_and_right, and_assoc, true_and, and_true, atI_0, atI_1, atI_2, atI_3, atI_4, backs, drps, List.map_cons, List.map_nil, List.length_cons, List.length_nil, List.cons_append, List.nil_append, List.replicate, Nat.reduceAdd, Nat.reduceSub, decide_eq_true_eq, upd_at, aug_add_int, aug_sub_int, aug_mul_int, aug_add_str, ixN5_1, ixN5_2, ixN5_3, Int.toNat_natCast, List.length_map, List.length_range, tg_nm, tg_tp, tru_non, tru_bl, tru_int, tru_str, tru_tup, tru_ref, bin_add_int, bin_add_str, bin_add_tup, bin_sub, bin_mul, bin_fdiv, bin_mod, bin_pow, bin_shl, bin_shr, bin_band, bin_bor, idx_tup, idx_ref, idx_str, blt_len_tup, blt_len_str, blt_len_ref, blt_int_int, blt_int_bl, blt_bool_bl, blt_bool_int, blt_abs, blt_max2, blt_max3, blt_min2, blt_tuple_tup, blt_tuple_ref, blt_isa_non, blt_isa_bl, blt_isa_int, blt_isa_str, blt_isa_tup, isa_int_int, isa_int_bool, isa_bl_bool, isa_tup, isa_str, lk_tuple, lk_len, lk_all, lk_any, lk_sum, it_tup, it_rl, it_ref, zip_tup, enum_tup, enum_ref, eq_self_iff_true, if_true, Bool.false_eq_true, if_false, reduceIte, ss_nil, rev_tup, rev_ref, ty_split, ty_join, ty_append, ty_pop, ty_popAt, ty_reverse, ty_extend, ty_insert, mth_append, mth_pop, mth_popAt, mth_reverse, mth_extend, mth_insert, mth_split, mth_join, cmp_eq_ref, cmp_ne_ref, slc_tup, slc_str, slc_ref, lk_max, lk_min, cmp_lt_str, cmp_is_bl, cmp_not_bl, cmp_is_non, cmp_not_non, cmp_is_tup, cmp_not_tup, cmp_is_int, cmp_not_int, blt_str, blt_maxt, blt_mint, tg_np]
  refine ⟨by omega, by omega, ?_⟩
  refine for_range (n := gs.length + 1) mF (fun k e M' => M' = M1 ∧ ∃ s5, e = [.val (.ref d), .val (.int m), .val (TL m (g :: gs)), .val (RD m b0), .val (RwD m rows), s5, .no, .no]) ⟨rfl, _, rfl⟩ (fun _ _ _ _ => trivial) (fun e M' hI => ?_) (fun k e M' hk hI => ?_)
  rotate_left
  · obtain ⟨rfl, s5, rfl⟩ := hI
    have e1 : L2.atI (TD m g :: gs.map (TD m)) (k : Int) = some (TD m ((g :: gs).getD k fun _ _ => 0)) := by
      rw [← List.map_cons (f := TD m)]
      exact atI_cast (by rw [List.getElem?_map, List.getElem?_eq_getElem (by rw [hN]; omega), List.getD_eq_getElem?_getD, List.getElem?_eq_getElem (by rw [hN]; omega)]; rfl)
    (try walk_at "wp")
    rw [ss_cons]
    simp only [TL, wS, wE, wEs, wO, wAs, wL, wN, wI, wT, wTs, setAll, Tg.slots, wipeE, cmp_eq_int, cmp_ne_int, cmp_eq_str, cmp_ne_str, cmp_eq_tup, cmp_ne_tup, cmp_eq_bl, cmp_lt, cmp_le, cmp_gt, cmp_ge, Kt0_rt, Kt0_nx, List.getElem?_cons_zero, List.getElem?_cons_succ, List.set_cons_zero, List.set_cons_succ, Option.some.injEq, Slot.val.injEq, Slot.own.injEq, MO.lst.injEq, D.int.injEq, D.ref.injEq, D.bl.injEq, D.tup.injEq, D.str.injEq, exists_eq_left', exists_eq_left, exists_and_left, exists_and_right, and_assoc, true_and, and_true, atI_0, atI_1, atI_2, atI_3, atI_4, backs, drps, List.map_cons, List.map_nil, List.length_cons, List.length_nil, List.cons_append, List.nil_append, List.replicate, Nat.reduceAdd, Nat.reduceSub, decide_eq_true_eq, upd_at, aug_add_int, aug_sub_int, aug_mul_int, aug_add_str, ixN5_1, ixN5_2, ixN5_3, Int.toNat_natCast, List.length_map, List.length_range, tg_nm, tg_tp, tru_non, tru_bl, tru_int, tru_str, tru_tup, tru_ref, bin_add_int, bin_add_str, bin_add_tup, bin_sub, bin_mul, bin_fdiv, bin_mod, bin_pow, bin_shl, bin_shr, bin_band, bin_bor, idx_tup, idx_ref, idx_str, blt_len_tup, blt_len_str, blt_len_ref, blt_int_int, blt_int_bl, blt_bool_bl, blt_bool_int, blt_abs, blt_max2, blt_max3, blt_min2, blt_tuple_tup, blt_tuple_ref, blt_isa_non, blt_isa_bl, blt_isa_int, blt_isa_str, blt_isa_tup, isa_int_int, isa_int_bool, isa_bl_bool, isa_tup, isa_str, lk_tuple, lk_len, lk_all, lk_any, lk_sum, it_tup, it_rl, it_ref, zip_tup, enum_tup, enum_ref, eq_self_iff_true, if_true, Bool.false_eq_true, if_false, reduceIte, ss_nil, rev_tup, rev_ref, ty_split, ty_join, ty_append, ty_pop, ty_popAt, ty_reverse, ty_extend, ty_insert, mth_append, mth_pop, mth_popAt, mth_reverse, mth_extend, mth_insert, mth_split, mth_join, cmp_eq_ref, cmp_ne_ref, slc_tup, slc_str, slc_ref, lk_max, lk_min, cmp_lt_str, cmp_is_bl, cmp_not_bl, cmp_is_non, cmp_not_non, cmp_is_tup, cmp_not_tup, cmp_is_int, cmp_not_int, blt_str, blt_maxt, blt_mint, tg_np, e1, idx_Rw (show k < rows.length by omega), idx_Rw1 (show k + 1 < rows.length by omega)]
    refine keeps_ok rfl rfl ?_
    rw [decide_eq_true (hw k (by rw [hN]; omega))]
    refine says_ok ?_
    (try walk_at "wp")
    exact ⟨_, rfl⟩
  obtain ⟨rfl, s5, rfl⟩ := hI
  (try walk_at "wp")
  rw [ss_cons]
  walk_at "wp"
  refine compose_all_ok (n := n + 1) rfl rfl rfl rfl (by omega) ?_
  have idx0 : ∀ {M' : Mem} {K : D → Prop}, wIdx (RwD m rows) (.int 0) M' K = K (RD m (rows.getD 0 fun _ => 0)) := fun {M' K} => idx_Rw (k := 0) (by omega)
  simp only [idx0, idx_RwL hlast, wS, wE, wEs, wO, wAs, wL, wN, wI, wT, wTs, setAll, Tg.slots, wipeE, cmp_eq_int, cmp_ne_int, cmp_eq_str, cmp_ne_str, cmp_eq_tup, cmp_ne_tup, cmp_eq_bl, cmp_lt, cmp_le, cmp_gt, cmp_ge, Kt0_rt, Kt0_nx, List.getElem?_cons_zero, List.getElem?_cons_succ, List.set_cons_zero, List.set_cons_succ, Option.some.injEq, Slot.val.injEq, Slot.own.injEq, MO.lst.injEq, D.int.injEq, D.ref.injEq, D.bl.injEq, D.tup.injEq, D.str.injEq, exists_eq_left', exists_eq_left, exists_and_left, exists_and_right, and_assoc, true_and, and_true, atI_0, atI_1, atI_2, atI_3, atI_4, backs, drps, List.map_cons, List.map_nil, List.length_cons, List.length_nil, List.cons_append, List.nil_append, List.replicate, Nat.reduceAdd, Nat.reduceSub, decide_eq_true_eq, upd_at, aug_add_int, aug_sub_int, aug_mul_int, aug_add_str, ixN5_1, ixN5_2, ixN5_3, Int.toNat_natCast, List.length_map, List.length_range, tg_nm, tg_tp, tru_non, tru_bl, tru_int, tru_str, tru_tup, tru_ref, bin_add_int, bin_add_str, bin_add_tup, bin_sub, bin_mul, bin_fdiv, bin_mod, bin_pow, bin_shl, bin_shr, bin_band, bin_bor, idx_tup, idx_ref, idx_str, blt_len_tup, blt_len_str, blt_len_ref, blt_int_int, blt_int_bl, blt_bool_bl, blt_bool_int, blt_abs, blt_max2, blt_max3, blt_min2, blt_tuple_tup, blt_tuple_ref, blt_isa_non, blt_isa_bl, blt_isa_int, blt_isa_str, blt_isa_tup, isa_int_int, isa_int_bool, isa_bl_bool, isa_tup, isa_str, lk_tuple, lk_len, lk_all, lk_any, lk_sum, it_tup, it_rl, it_ref, zip_tup, enum_tup, enum_ref, eq_self_iff_true, if_true, Bool.false_eq_true, if_false, reduceIte, ss_nil, rev_tup, rev_ref, ty_split, ty_join, ty_append, ty_pop, ty_popAt, ty_reverse, ty_extend, ty_insert, mth_append, mth_pop, mth_popAt, mth_reverse, mth_extend, mth_insert, mth_split, mth_join, cmp_eq_ref, cmp_ne_ref, slc_tup, slc_str, slc_ref, lk_max, lk_min, cmp_lt_str, cmp_is_bl, cmp_not_bl, cmp_is_non, cmp_not_non, cmp_is_tup, cmp_not_tup, cmp_is_int, cmp_not_int, blt_str, blt_maxt, blt_mint, tg_np]
  refine keeps_ok rfl rfl ?_
  rw [decide_eq_true hP]
  refine says_ok ?_
  simp! only [beq_self_eq_true]
  rw [if_neg (by decide)]
  rw [ss_cons]
  simp only [idx0, idx_RwL hlast, wS, wE, wEs, wO, wAs, wL, wN, wI, wT, wTs, setAll, Tg.slots, wipeE, cmp_eq_int, cmp_ne_int, cmp_eq_str, cmp_ne_str, cmp_eq_tup, cmp_ne_tup, cmp_eq_bl, cmp_lt, cmp_le, cmp_gt, cmp_ge, Kt0_rt, Kt0_nx, List.getElem?_cons_zero, List.getElem?_cons_succ, List.set_cons_zero, List.set_cons_succ, Option.some.injEq, Slot.val.injEq, Slot.own.injEq, MO.lst.injEq, D.int.injEq, D.ref.injEq, D.bl.injEq, D.tup.injEq, D.str.injEq, exists_eq_left', exists_eq_left, exists_and_left, exists_and_right, and_assoc, true_and, and_true, atI_0, atI_1, atI_2, atI_3, atI_4, backs, drps, List.map_cons, List.map_nil, List.length_cons, List.length_nil, List.cons_append, List.nil_append, List.replicate, Nat.reduceAdd, Nat.reduceSub, decide_eq_true_eq, upd_at, aug_add_int, aug_sub_int, aug_mul_int, aug_add_str, ixN5_1, ixN5_2, ixN5_3, Int.toNat_natCast, List.length_map, List.length_range, tg_nm, tg_tp, tru_non, tru_bl, tru_int, tru_str, tru_tup, tru_ref, bin_add_int, bin_add_str, bin_add_tup, bin_sub, bin_mul, bin_fdiv, bin_mod, bin_pow, bin_shl, bin_shr, bin_band, bin_bor, idx_tup, idx_ref, idx_str, blt_len_tup, blt_len_str, blt_len_ref, blt_int_int, blt_int_bl, blt_bool_bl, blt_bool_int, blt_abs, blt_max2, blt_max3, blt_min2, blt_tuple_tup, blt_tuple_ref, blt_isa_non, blt_isa_bl, blt_isa_int, blt_isa_str, blt_isa_tup, isa_int_int, isa_int_bool, isa_bl_bool, isa_tup, isa_str, lk_tuple, lk_len, lk_all, lk_any, lk_sum, it_tup, it_rl, it_ref, zip_tup, enum_tup, enum_ref, eq_self_iff_true, if_true, Bool.false_eq_true, if_false, reduceIte, ss_nil, rev_tup, rev_ref, ty_split, ty_join, ty_append, ty_pop, ty_popAt, ty_reverse, ty_extend, ty_insert, mth_append, mth_pop, mth_popAt, mth_reverse, mth_extend, mth_insert, mth_split, mth_join, cmp_eq_ref, cmp_ne_ref, slc_tup, slc_str, slc_ref, lk_max, lk_min, cmp_lt_str, cmp_is_bl, cmp_not_bl, cmp_is_non, cmp_not_non, cmp_is_tup, cmp_not_tup, cmp_is_int, cmp_not_int, blt_str, blt_maxt, blt_mint, tg_np]
  refine middles_ok (n := n + 1) (gs := gs) hm (by omega) ?_
  rw [if_pos hK]
  (try walk_at "wp")
  rw [ss_cons]
  walk_at "wp"
  refine is_rows_ok rfl rfl rfl (by omega) (by rw [mids_len]; omega) ?_
  simp only [idx0, idx_RwL hlast, wS, wE, wEs, wO, wAs, wL, wN, wI, wT, wTs, setAll, Tg.slots, wipeE, cmp_eq_int, cmp_ne_int, cmp_eq_str, cmp_ne_str, cmp_eq_tup, cmp_ne_tup, cmp_eq_bl, cmp_lt, cmp_le, cmp_gt, cmp_ge, Kt0_rt, Kt0_nx, List.getElem?_cons_zero, List.getElem?_cons_succ, List.set_cons_zero, List.set_cons_succ, Option.some.injEq, Slot.val.injEq, Slot.own.injEq, MO.lst.injEq, D.int.injEq, D.ref.injEq, D.bl.injEq, D.tup.injEq, D.str.injEq, exists_eq_left', exists_eq_left, exists_and_left, exists_and_right, and_assoc, true_and, and_true, atI_0, atI_1, atI_2, atI_3, atI_4, backs, drps, List.map_cons, List.map_nil, List.length_cons, List.length_nil, List.cons_append, List.nil_append, List.replicate, Nat.reduceAdd, Nat.reduceSub, decide_eq_true_eq, upd_at, aug_add_int, aug_sub_int, aug_mul_int, aug_add_str, ixN5_1, ixN5_2, ixN5_3, Int.toNat_natCast, List.length_map, List.length_range, tg_nm, tg_tp, tru_non, tru_bl, tru_int, tru_str, tru_tup, tru_ref, bin_add_int, bin_add_str, bin_add_tup, bin_sub, bin_mul, bin_fdiv, bin_mod, bin_pow, bin_shl, bin_shr, bin_band, bin_bor, idx_tup, idx_ref, idx_str, blt_len_tup, blt_len_str, blt_len_ref, blt_int_int, blt_int_bl, blt_bool_bl, blt_bool_int, blt_abs, blt_max2, blt_max3, blt_min2, blt_tuple_tup, blt_tuple_ref, blt_isa_non, blt_isa_bl, blt_isa_int, blt_isa_str, blt_isa_tup, isa_int_int, isa_int_bool, isa_bl_bool, isa_tup, isa_str, lk_tuple, lk_len, lk_all, lk_any, lk_sum, it_tup, it_rl, it_ref, zip_tup, enum_tup, enum_ref, eq_self_iff_true, if_true, Bool.false_eq_true, if_false, reduceIte, ss_nil, rev_tup, rev_ref, ty_split, ty_join, ty_append, ty_pop, ty_popAt, ty_reverse, ty_extend, ty_insert, mth_append, mth_pop, mth_popAt, mth_reverse, mth_extend, mth_insert, mth_split, mth_join, cmp_eq_ref, cmp_ne_ref, slc_tup, slc_str, slc_ref, lk_max, lk_min, cmp_lt_str, cmp_is_bl, cmp_not_bl, cmp_is_non, cmp_not_non, cmp_is_tup, cmp_not_tup, cmp_is_int, cmp_not_int, blt_str, blt_maxt, blt_mint, tg_np]
  rw [if_neg (by decide)]
  refine between_ok (n := n + 2) (gs := gs) hm (by omega) ?_
  rw [if_pos hK, ne_RwD]
  (try walk_at "wp")
  rw [ss_cons]
  simp only [len_Rw, mids_len, wS, wE, wEs, wO, wAs, wL, wN, wI, wT, wTs, setAll, Tg.slots, wipeE, cmp_eq_int, cmp_ne_int, cmp_eq_str, cmp_ne_str, cmp_eq_tup, cmp_ne_tup, cmp_eq_bl, cmp_lt, cmp_le, cmp_gt, cmp_ge, Kt0_rt, Kt0_nx, List.getElem?_cons_zero, List.getElem?_cons_succ, List.set_cons_zero, List.set_cons_succ, Option.some.injEq, Slot.val.injEq, Slot.own.injEq, MO.lst.injEq, D.int.injEq, D.ref.injEq, D.bl.injEq, D.tup.injEq, D.str.injEq, exists_eq_left', exists_eq_left, exists_and_left, exists_and_right, and_assoc, true_and, and_true, atI_0, atI_1, atI_2, atI_3, atI_4, backs, drps, List.map_cons, List.map_nil, List.length_cons, List.length_nil, List.cons_append, List.nil_append, List.replicate, Nat.reduceAdd, Nat.reduceSub, decide_eq_true_eq, upd_at, aug_add_int, aug_sub_int, aug_mul_int, aug_add_str, ixN5_1, ixN5_2, ixN5_3, Int.toNat_natCast, List.length_map, List.length_range, tg_nm, tg_tp, tru_non, tru_bl, tru_int, tru_str, tru_tup, tru_ref, bin_add_int, bin_add_str, bin_add_tup, bin_sub, bin_mul, bin_fdiv, bin_mod, bin_pow, bin_shl, bin_shr, bin_band, bin_bor, idx_tup, idx_ref, idx_str, blt_len_tup, blt_len_str, blt_len_ref, blt_int_int, blt_int_bl, blt_bool_bl, blt_bool_int, blt_abs, blt_max2, blt_max3, blt_min2, blt_tuple_tup, blt_tuple_ref, blt_isa_non, blt_isa_bl, blt_isa_int, blt_isa_str, blt_isa_tup, isa_int_int, isa_int_bool, isa_bl_bool, isa_tup, isa_str, lk_tuple, lk_len, lk_all, lk_any, lk_sum, it_tup, it_rl, it_ref, zip_tup, enum_tup, enum_ref, eq_self_iff_true, if_true, Bool.false_eq_true, if_false, reduceIte, ss_nil, rev_tup, rev_ref, ty_split, ty_join, ty_append, ty_pop, ty_popAt, ty_reverse, ty_extend, ty_insert, mth_append, mth_pop, mth_popAt, mth_reverse, mth_extend, mth_insert, mth_split, mth_join, cmp_eq_ref, cmp_ne_ref, slc_tup, slc_str, slc_ref, lk_max, lk_min, cmp_lt_str, cmp_is_bl, cmp_not_bl, cmp_is_non, cmp_not_non, cmp_is_tup, cmp_not_tup, cmp_is_int, cmp_not_int, blt_str, blt_maxt, blt_mint, tg_np]
  refine ⟨by omega, by omega, ?_⟩
  refine for_range (n := gs.length) mF (fun k e M2 => M2 = M' ∧ ∃ s5 s7, e = [.val (.ref d), .val (.int m), .val (TL m (g :: gs)), .val (RD m b0), .val (RwD m rows), s5, .val (RwD m (mids m gs rN)), s7]) ⟨rfl, _, _, rfl⟩ (fun _ _ _ _ => trivial) (fun e M2 hI => ?_) (fun k e M2 hk hI => ?_)
  rotate_left
  · obtain ⟨rfl, s5, s7, rfl⟩ := hI
    (try walk_at "wp")
    rw [ss_cons]
    walk_at "wp"
    refine ⟨by omega, by omega, ?_⟩
    refine for_range (n := m) mF (fun x e M3 => M3 = M2 ∧ ∃ s7, e = [.val (.ref d), .val (.int m), .val (TL m (g :: gs)), .val (RD m b0), .val (RwD m rows), .val (.int k), .val (RwD m (mids m gs rN)), s7]) ⟨rfl, _, rfl⟩ (fun _ _ _ _ => trivial) (fun e M3 hI => ?_) (fun x e M3 hx hI => ?_)
    · obtain ⟨rfl, s7, rfl⟩ := hI
      (try walk_at "wp")
      exact ⟨_, _, rfl⟩
    · obtain ⟨rfl, s7, rfl⟩ := hI
      have := hle k (by omega) x hx
      (try walk_at "wp")
      rw [ss_cons]
      simp only [idx_Rw (show k < (mids m gs rN).length by rw [mids_len]; exact hk), mids_get hk, idx_Rw1 (show k + 1 < rows.length by omega), idx_RD hx, wS, wE, wEs, wO, wAs, wL, wN, wI, wT, wTs, setAll, Tg.slots, wipeE, cmp_eq_int, cmp_ne_int, cmp_eq_str, cmp_ne_str, cmp_eq_tup, cmp_ne_tup, cmp_eq_bl, cmp_lt, cmp_le, cmp_gt, cmp_ge, Kt0_rt, Kt0_nx, List.getElem?_cons_zero, List.getElem?_cons_succ, List.set_cons_zero, List.set_cons_succ, Option.some.injEq, Slot.val.injEq, Slot.own.injEq, MO.lst.injEq, D.int.injEq, D.ref.injEq, D.bl.injEq, D.tup.injEq, D.str.injEq, exists_eq_left', exists_eq_left, exists_and_left, exists_and_right, and_assoc, true_and, and_true, atI_0, atI_1, atI_2, atI_3, atI_4, backs, drps, List.map_cons, List.map_nil, List.length_cons, List.length_nil, List.cons_append, List.nil_append, List.replicate, Nat.reduceAdd, Nat.reduceSub, decide_eq_true_eq, upd_at, aug_add_int, aug_sub_int, aug_mul_int, aug_add_str, ixN5_1, ixN5_2, ixN5_3, Int.toNat_natCast, List.length_map, List.length_range, tg_nm, tg_tp, tru_non, tru_bl, tru_int, tru_str, tru_tup, tru_ref, bin_add_int, bin_add_str, bin_add_tup, bin_sub, bin_mul, bin_fdiv, bin_mod, bin_pow, bin_shl, bin_shr, bin_band, bin_bor, idx_tup, idx_ref, idx_str, blt_len_tup, blt_len_str, blt_len_ref, blt_int_int, blt_int_bl, blt_bool_bl, blt_bool_int, blt_abs, blt_max2, blt_max3, blt_min2, blt_tuple_tup, blt_tuple_ref, blt_isa_non, blt_isa_bl, blt_isa_int, blt_isa_str, blt_isa_tup, isa_int_int, isa_int_bool, isa_bl_bool, isa_tup, isa_str, lk_tuple, lk_len, lk_all, lk_any, lk_sum, it_tup, it_rl, it_ref, zip_tup, enum_tup, enum_ref, eq_self_iff_true, if_true, Bool.false_eq_true, if_false, reduceIte, ss_nil, rev_tup, rev_ref, ty_split, ty_join, ty_append, ty_pop, ty_popAt, ty_reverse, ty_extend, ty_insert, mth_append, mth_pop, mth_popAt, mth_reverse, mth_extend, mth_insert, mth_split, mth_join, cmp_eq_ref, cmp_ne_ref, slc_tup, slc_str, slc_ref, lk_max, lk_min, cmp_lt_str, cmp_is_bl, cmp_not_bl, cmp_is_non, cmp_not_non, cmp_is_tup, cmp_not_tup, cmp_is_int, cmp_not_int, blt_str, blt_maxt, blt_mint, tg_np]
      rw [if_neg (by omega)]
      exact ⟨_, rfl⟩
  obtain ⟨rfl, s5, s7, rfl⟩ := hI
  (try walk_at "wp")
  rw [ss_cons]
  simp only [idx0, idx_RwL hlast, wS, wE, wEs, wO, wAs, wL, wN, wI, wT, wTs, setAll, Tg.slots, wipeE, cmp_eq_int, cmp_ne_int, cmp_eq_str, cmp_ne_str, cmp_eq_tup, cmp_ne_tup, cmp_eq_bl, cmp_lt, cmp_le, cmp_gt, cmp_ge, Kt0_rt, Kt0_nx, List.getElem?_cons_zero, List.getElem?_cons_succ, List.set_cons_zero, List.set_cons_succ, Option.some.injEq, Slot.val.injEq, Slot.own.injEq, MO.lst.injEq, D.int.injEq, D.ref.injEq, D.bl.injEq, D.tup.injEq, D.str.injEq, exists_eq_left', exists_eq_left, exists_and_left, exists_and_right, and_assoc, true_and, and_true, atI_0, atI_1, atI_2, atI_3, atI_4, backs, drps, List.map_cons, List.map_nil, List.length_cons, List.length_nil, List.cons_append, List.nil_append, List.replicate, Nat.reduceAdd, Nat.reduceSub, decide_eq_true_eq, upd_at, aug_add_int, aug_sub_int, aug_mul_int, aug_add_str, ixN5_1, ixN5_2, ixN5_3, Int.toNat_natCast, List.length_map, List.length_range, tg_nm, tg_tp, tru_non, tru_bl, tru_int, tru_str, tru_tup, tru_ref, bin_add_int, bin_add_str, bin_add_tup, bin_sub, bin_mul, bin_fdiv, bin_mod, bin_pow, bin_shl, bin_shr, bin_band, bin_bor, idx_tup, idx_ref, idx_str, blt_len_tup, blt_len_str, blt_len_ref, blt_int_int, blt_int_bl, blt_bool_bl, blt_bool_int, blt_abs, blt_max2, blt_max3, blt_min2, blt_tuple_tup, blt_tuple_ref, blt_isa_non, blt_isa_bl, blt_isa_int, blt_isa_str, blt_isa_tup, isa_int_int, isa_int_bool, isa_bl_bool, isa_tup, isa_str, lk_tuple, lk_len, lk_all, lk_any, lk_sum, it_tup, it_rl, it_ref, zip_tup, enum_tup, enum_ref, eq_self_iff_true, if_true, Bool.false_eq_true, if_false, reduceIte, ss_nil, rev_tup, rev_ref, ty_split, ty_join, ty_append, ty_pop, ty_popAt, ty_reverse, ty_extend, ty_insert, mth_append, mth_pop, mth_popAt, mth_reverse, mth_extend, mth_insert, mth_split, mth_join, cmp_eq_ref, cmp_ne_ref, slc_tup, slc_str, slc_ref, lk_max, lk_min, cmp_lt_str, cmp_is_bl, cmp_not_bl, cmp_is_non, cmp_not_non, cmp_is_tup, cmp_not_tup, cmp_is_int, cmp_not_int, blt_str, blt_maxt, blt_mint, tg_np]
  have lml : (mids m gs rN).length = gs.length := mids_len
  rw [add_hd]
  refine ⟨by decide, Nat.le_trans (show _ ≤ 2000 by omega) (by decide), by decide, ?_⟩
  rw [add_tl]
  refine ⟨Nat.le_trans (show _ ≤ 2000 by rw [List.length_cons]; omega) (by decide), ?_⟩
  rw [List.cons_append, mids_c]
  refine walked_ok (n := n + 2) hm (by rw [hN]; omega) (by rw [List.length_cons, rowsC_len, hN]) (walk_mids hK) ?_
  (try walk_at "wp")
  exact leave (q M2 s1)
/-! all rows -/
def allR (t : Nat) : Nat → List (List Int)
  | 0 => [[]]
  | i + 1 => (allR t i).flatMap fun row => (List.range t).map fun (v : Nat) => row ++ [(v : Int)]
theorem allR_len {t : Nat} : ∀ {i : Nat}, (allR t i).length = t ^ i
  | 0 => rfl
  | i + 1 => by
    rw [allR, List.length_flatMap]
    have : ∀ l : List (List Int), (l.map fun row => ((List.range t).map fun (v : Nat) => row ++ [(v : Int)]).length).sum = l.length * t := fun l => by
      induction l with
      | nil => simp
      | cons a l ih => rw [List.map_cons, List.sum_cons, ih, List.length_cons, Nat.succ_mul]; simp; omega
    rw [this, allR_len, Nat.pow_succ]
theorem allR_mem {t : Nat} : ∀ {i : Nat} {row : List Int}, row ∈ allR t i ↔ row.length = i ∧ ∀ v ∈ row, 0 ≤ v ∧ v < t
  | 0, row => by
    rw [allR, List.mem_singleton]
    constructor
    · rintro rfl; exact ⟨rfl, fun _ h => nomatch h⟩
    · rintro ⟨h, _⟩; exact List.length_eq_zero_iff.mp h
  | i + 1, row => by
    rw [allR, List.mem_flatMap]
    constructor
    · rintro ⟨r, hr, h⟩
      obtain ⟨v, hv, rfl⟩ := List.mem_map.mp h
      obtain ⟨h1, h2⟩ := allR_mem.mp hr
      have hv := List.mem_range.mp hv
      refine ⟨by simp [h1], fun u hu => ?_⟩
      rcases List.mem_append.mp hu with z | z
      · exact h2 u z
      · rw [List.mem_singleton.mp z]; omega
    · rintro ⟨h1, h2⟩
      have hne : row ≠ [] := fun z => by rw [z] at h1; simp at h1
      have e := List.dropLast_concat_getLast hne
      refine ⟨row.dropLast, allR_mem.mpr ⟨by rw [List.length_dropLast, h1]; rfl, fun v hv => h2 v (List.dropLast_subset _ hv)⟩, ?_⟩
      have := h2 _ (List.getLast_mem hne)
      exact List.mem_map.mpr ⟨(row.getLast hne).toNat, List.mem_range.mpr (by omega), by rw [show (((row.getLast hne).toNat : Nat) : Int) = row.getLast hne from by omega]; exact e⟩
theorem all_rows_ok {many t : Nat} (ht : 1 ≤ t ∧ t ≤ 30) (hmn : many ≤ 3) (q : ∀ p, M p = Option.none → ∀ M', Sub M M' → M' p = some (.lst ((allR t many).map fun row => .tup (row.map .int))) → Q (.ref p) M') : wFn P (n + 1) f__law_all_rows [.int many, .int ((t : Int) - 1)] M Q E := by
  have big : ∀ i, i ≤ 3 → (allR t i).length ≤ 27000 := fun i hi => by
    rw [allR_len]
    exact Nat.le_trans (Nat.pow_le_pow_left ht.2 i) (Nat.le_trans (Nat.pow_le_pow_right (by decide) hi) (by decide))
  refine enter rfl rfl ?_
  simp only [d__law_all_rows]
  rw [ss_cons]
  walk_at "wp"
  refine ⟨by decide, by decide, fun p2 hp2 => ?_⟩
  rw [ss_cons]
  walk_at "wp"
  refine ⟨by omega, by omega, ?_⟩
  refine for_range (n := many) mF (fun i e M' => Sub M M' ∧ ∃ p, M p = Option.none ∧ M' p = some (.lst ((allR t i).map fun row => .tup (row.map .int))) ∧ ∃ s3 s4 s5 s6, e = [.val (.int many), .val (.int ((t : Int) - 1)), .val (.ref p), s3, s4, s5, s6]) ⟨(Sub.rf M).upd2 hp2, p2, hp2, upd_at, _, _, _, _, rfl⟩ (fun _ _ _ _ => trivial) (fun e M' hI => ?_) (fun i e M' hi hI => ?_)
  · obtain ⟨sb, p, hp, hM, s3, s4, s5, s6, rfl⟩ := hI
    (try walk_at "wp")
    (rw [ss_cons]; walk_at "wp")
    exact ⟨M', fun _ _ h => h, q p hp M' sb hM⟩
  · obtain ⟨sb, p, hp, hM, s3, s4, s5, s6, rfl⟩ := hI
    (try walk_at "wp")
    (rw [ss_cons]; walk_at "wp")
    refine ⟨by decide, fun p4 hp4 => ?_⟩
    have h4M : M p4 = Option.none := sb.noneL hp4
    have hpp : p ≠ p4 := fun z => by rw [← z, hM] at hp4; cases hp4
    rw [ss_cons]
    simp! only [upd_no hpp, hM]
    obtain ⟨X, hX⟩ : ∃ X : List Int → List (List Int), X = fun row => (List.range t).map fun (v : Nat) => row ++ [(v : Int)] := ⟨_, rfl⟩
    have hnext : (allR t i).flatMap X = allR t (i + 1) := by rw [hX]; rfl
    have hlen : ∀ j, (((allR t i).take j).flatMap X).length ≤ 27000 := fun j => by
      have h1 := big (i + 1) (by omega)
      rw [← hnext] at h1
      refine Nat.le_trans ?_ h1
      conv => rhs; rw [← List.take_append_drop j (allR t i), List.flatMap_append, List.length_append]
      exact Nat.le_add_right _ _
    refine for_at mF (fun j e M2 => (∀ b, b ≠ p4 → M2 b = M' b) ∧ M2 p4 = some (.lst ((((allR t i).take j).flatMap X).map fun row => .tup (row.map .int))) ∧ ∃ s5 s6, e = [.val (.int many), .val (.int ((t : Int) - 1)), .val (.ref p), .val (.int i), .val (.ref p4), s5, s6])
      ⟨fun b hb => upd_no hb, upd_at, _, _, rfl⟩ (fun j e M2 h => by rw [h.1 p hpp]; exact hM) (fun e M2 hI => ?_) (fun j x e M2 hx hI => ?_)
    · obtain ⟨hk, h4, s5, s6, rfl⟩ := hI
      rw [List.length_map, List.take_length, hnext] at h4
      (try walk_at "wp")
      (rw [ss_cons]; walk_at "wp")
      refine ⟨fun b o e => ?_, p4, h4M, h4, _, _, _, _, rfl⟩
      rw [hk b (fun z => by rw [z, h4M] at e; cases e)]
      exact sb b o e
    · obtain ⟨hk, h4, s5, s6, rfl⟩ := hI
      rw [List.getElem?_map] at hx
      obtain ⟨row, hrow, rfl⟩ := Option.map_eq_some_iff.mp hx
      have hj := (List.getElem?_eq_some_iff.mp hrow).1
      have hrl : row.length = i := (allR_mem.mp (List.mem_of_getElem? hrow)).1
      have htk : ((allR t i).take (j + 1)).flatMap X = ((allR t i).take j).flatMap X ++ X row := by
        rw [List.take_add_one, hrow, Option.toList_some, List.flatMap_append]; simp
      (try walk_at "wp")
      rw [ss_cons]
      walk_at "wp"
      rw [show ((t : Int) - 1 + 1) = (t : Int) from by omega]
      refine ⟨by omega, by omega, ?_⟩
      rw [Int.toNat_natCast]
      refine for_range (n := t) mF (fun v e M3 => v ≤ t ∧ (∀ b, b ≠ p4 → M3 b = M' b) ∧ M3 p4 = some (.lst ((((allR t i).take j).flatMap X ++ (List.range v).map fun (v : Nat) => row ++ [(v : Int)]).map fun row => .tup (row.map .int))) ∧ ∃ s6, e = [.val (.int many), .val (.int ((t : Int) - 1)), .val (.ref p), .val (.int i), .val (.ref p4), .val (.tup (row.map .int)), s6])
        ⟨Nat.zero_le _, hk, by rw [List.range_zero, List.map_nil, List.append_nil]; exact h4, _, rfl⟩ (fun _ _ _ _ => trivial) (fun e M3 hI => ?_) (fun v e M3 hv hI => ?_)
      · obtain ⟨_, hk3, h43, s6, rfl⟩ := hI
        (try walk_at "wp")
        refine ⟨hk3, ?_, _, _, rfl⟩
        rw [htk, hX]
        rw [hX] at h43
        exact h43
      · obtain ⟨_, hk3, h43, s6, rfl⟩ := hI
        have hl2 := hlen j
        (try walk_at "wp")
        rw [ss_cons]
        walk_at "wp"
        refine ⟨⟨_, h43⟩, by decide, Nat.le_trans (show _ ≤ 10 by omega) (by decide), _, h43, Nat.lt_of_lt_of_le (show _ < 30000 by rw [List.length_map, List.length_append, List.length_map, List.length_range]; omega) (by decide), hv, fun b hb => by rw [upd_no hb, hk3 b hb], ?_, _, rfl⟩
        rw [show D.tup (row.map D.int ++ [D.int (v : Int)]) = .tup ((row ++ [(v : Int)]).map .int) from by rw [List.map_append]; rfl]
        rw [show (List.range (v + 1)).map (fun (v : Nat) => row ++ [(v : Int)]) = (List.range v).map (fun (v : Nat) => row ++ [(v : Int)]) ++ [row ++ [(v : Int)]] from by rw [List.range_succ, List.map_append]; rfl]
        rw [← List.append_assoc, List.map_append (l₂ := [row ++ [(v : Int)]])]
        rfl
/-! reached rows -/
/-- what stands behind j tables -/
def Pre (m : Nat) (T : List (Nat → Nat → Int)) (a : Nat → Int) : Nat → (Nat → Int) → Prop
  | 0, r => r = a
  | j + 1, r => (∀ x, x < m → 0 ≤ r x) ∧ ∃ r', Pre m T a j r' ∧ KpT m (T.getD j fun _ _ => 0) r' r
theorem pre_nonneg {m : Nat} {T : List (Nat → Nat → Int)} {a : Nat → Int} (ha : ∀ x, x < m → 0 ≤ a x) : ∀ {j : Nat} {r : Nat → Int}, Pre m T a j r → ∀ x, x < m → 0 ≤ r x
  | 0, r, h => by rw [show r = a from h]; exact ha
  | j + 1, r, h => h.1
theorem pre_least {m : Nat} {g : Nat → Nat → Int} {gs : List (Nat → Nat → Int)} (hE : AllE m (g :: gs)) {a c : Nat → Int} (ha : ∀ x, x < m → 0 ≤ a x) : ∀ {j : Nat} {r : Nat → Int}, j ≤ gs.length → Pre m (g :: gs) a (j + 1) r → (∀ x, x < m → cR m (gs.drop j) c x ≤ r x) → KpT m g a (cR m gs c)
  | 0, r, _, ⟨_, r', e, hk⟩, hle => by
    rw [show r' = a from e] at hk
    rw [List.drop_zero] at hle
    exact kpT_dn hk hle
  | j + 1, r, hj, ⟨_, r', hp, hk⟩, hle => by
    have hj' : j < gs.length := by omega
    have hk : KpT m (gs.getD j fun _ _ => 0) r' r := hk
    rw [show gs.getD j (fun _ _ => 0) = gs[j] from by rw [List.getD_eq_getElem?_getD, List.getElem?_eq_getElem hj']; rfl] at hk
    refine pre_least hE ha (by omega) hp fun x hx => ?_
    rw [List.drop_eq_getElem_cons hj', cR]
    exact rowA_le (hE _ (List.mem_cons_of_mem _ (List.getElem_mem hj'))) (kpT_dn hk hle) hx (pre_nonneg ha hp x hx)
theorem cR_top {m : Nat} : ∀ {gs : List (Nat → Nat → Int)}, AllE m gs → ∀ {c : Nat → Int} {B : Int}, 0 ≤ B → (∀ x, x < m → c x ≤ B) → ∀ x, x < m → cR m gs c x ≤ B + gs.length
  | [], _, c, B, _, hc, x, hx => by
    have := hc x hx
    show c x ≤ B + ((0 : Nat) : Int)
    omega
  | g :: gs, hE, c, B, hB, hc, x, hx => by
    refine lstN_le (by omega) fun y hy h => ?_
    have h1 := cR_top (fun u hu => hE u (List.mem_cons_of_mem _ hu)) hB hc y hy
    have h2 := (hE g List.mem_cons_self x y hx hy).2
    rw [List.length_cons]
    omega
/-- the least row behind j tables -/
def wJ (m : Nat) (gs : List (Nat → Nat → Int)) (a c : Nat → Int) : Nat → Nat → Int
  | 0 => a
  | j + 1 => cR m (gs.drop j) c
theorem wJ_kp {m : Nat} {g : Nat → Nat → Int} {gs : List (Nat → Nat → Int)} {a c : Nat → Int} (h : KpT m g a (cR m gs c)) {j : Nat} (hj : j ≤ gs.length) : KpT m ((g :: gs).getD j fun _ _ => 0) (wJ m gs a c j) (cR m (gs.drop j) c) := by
  cases j with
  | zero => exact h
  | succ j =>
    have hj' : j < gs.length := by omega
    show KpT m (gs.getD j fun _ _ => 0) (cR m (gs.drop j) c) (cR m (gs.drop (j + 1)) c)
    rw [List.drop_eq_getElem_cons hj', cR, show gs.getD j (fun _ _ => 0) = gs[j] from by rw [List.getD_eq_getElem?_getD, List.getElem?_eq_getElem hj']; rfl]
    exact kp_rowA
theorem row_RD {m : Nat} {row : List Int} (h : row.length = m) : D.tup (row.map .int) = RD m fun x => row.getD x 0 := by
  unfold RD
  congr 1
  refine List.ext_getElem (by simp [h]) fun i h1 h2 => ?_
  have hi : i < row.length := by simpa using h1
  simp [List.getElem?_eq_getElem hi]
theorem kpT_cg {m : Nat} {g : Nat → Nat → Int} {a a' b b' : Nat → Int} (h : KpT m g a b) (ha : ∀ x, x < m → a' x = a x) (hb : ∀ x, x < m → b' x = b x) : KpT m g a' b' := fun x hx y hy z => h x hx y hy (by
  have h1 := ha x hx
  have h2 := hb y hy
  unfold BadP at z ⊢
  omega)
theorem is_way_ok {m : Nat} (hm : m ≤ 3) {g : Nat → Nat → Int} {gs : List (Nat → Nat → Int)} (hl : gs.length < 10) (hE : AllE m (g :: gs)) {a c : Nat → Int} (ha : ∀ x, x < m → 0 ≤ a x) {t : Nat} (ht : 1 ≤ t ∧ t ≤ 30) (hc : ∀ x, x < m → 0 ≤ c x ∧ c x + gs.length + 1 ≤ t) (q : Q (.bl (decide (KpT m g a (cR m gs c)))) M) : wFn P (n + 3) f__law_is_way [TL m (g :: gs), RD m a, RD m c, .int ((t : Int) - 1)] M Q E := by
  refine enter rfl rfl ?_
  simp only [d__law_is_way]
  rw [ss_cons]
  simp! only [len_RD]
  refine all_rows_ok (n := n + 1) ht hm fun pe hpe M1 sb1 he => ?_
  rw [show (allR t m).map (fun row => D.tup (row.map .int)) = ((allR t m).map fun row x => row.getD x 0).map (RD m) from by
    rw [List.map_map]
    exact List.map_congr_left fun row hr => row_RD (allR_mem.mp hr).1] at he
  obtain ⟨ev, hev⟩ : ∃ ev, (allR t m).map (fun row (x : Nat) => row.getD x (0 : Int)) = ev := ⟨_, rfl⟩
  rw [hev] at he
  have evn : ∀ r ∈ ev, ∀ x, x < m → 0 ≤ r x := fun r hr x hx => by
    rw [← hev] at hr
    obtain ⟨row, hrow, rfl⟩ := List.mem_map.mp hr
    obtain ⟨h1, h2⟩ := allR_mem.mp hrow
    have hx' : x < row.length := by omega
    have := h2 row[x] (List.getElem_mem hx')
    dsimp only
    rw [List.getD_eq_getElem?_getD, List.getElem?_eq_getElem hx']
    exact this.1
  have eva : ∀ w : Nat → Int, (∀ x, x < m → 0 ≤ w x ∧ w x < t) → ∃ r ∈ ev, ∀ x, x < m → r x = w x := fun w hw => by
    refine ⟨fun x => ((List.range m).map w).getD x 0, ?_, fun x hx => ?_⟩
    · rw [← hev]
      exact List.mem_map.mpr ⟨(List.range m).map w, allR_mem.mpr ⟨by simp, fun v hv => by
        obtain ⟨x, hx, rfl⟩ := List.mem_map.mp hv
        exact hw x (List.mem_range.mp hx)⟩, rfl⟩
    · dsimp only
      rw [List.getD_eq_getElem?_getD, List.getElem?_map, List.getElem?_range hx]; rfl
  have evl : ev.length ≤ 27000 := by
    rw [← hev, List.length_map, allR_len]
    exact Nat.le_trans (Nat.pow_le_pow_left ht.2 m) (Nat.le_trans (Nat.pow_le_pow_right (by decide) hm) (by decide))
  (try walk_at "wp")
  (rw [ss_cons]; walk_at "wp")
  refine ⟨by decide, fun p5 hp5 => ?_⟩
  have hpe5 : pe ≠ p5 := fun z => by rw [← z, he] at hp5; cases hp5
  rw [ss_cons]
  simp only [TL, wS, wE, wEs, wO, wAs, wL, wN, wI, wT, wTs, setAll, Tg.slots, wipeE, cmp_eq_int, cmp_ne_int, cmp_eq_str, cmp_ne_str, cmp_eq_tup, cmp_ne_tup, cmp_eq_bl, cmp_lt, cmp_le, cmp_gt, cmp_ge, Kt0_rt, Kt0_nx, List.getElem?_cons_zero, List.getElem?_cons_succ, List.set_cons_zero, List.set_cons_succ, Option.some.injEq, Slot.val.injEq, Slot.own.injEq, MO.lst.injEq, D.int.injEq, D.ref.injEq, D.bl.injEq, D.tup.injEq, D.str.injEq, exists_eq_left', exists_eq_left, exists_and_left, exists_and_right, and_assoc, true_and, and_true, atI_0, atI_1, atI_2, atI_3, atI_4, backs, drps, List.map_cons, List.map_nil, List.length_cons, List.length_nil, List.cons_append, List.nil_append, List.replicate, Nat.reduceAdd, Nat.reduceSub, decide_eq_true_eq, upd_at, aug_add_int, aug_sub_int, aug_mul_int, aug_add_str, ixN5_1, ixN5_2, ixN5_3, Int.toNat_natCast, List.length_map, List.length_range, tg_nm, tg_tp, tru_non, tru_bl, tru_int, tru_str, tru_tup, tru_ref, bin_add_int, bin_add_str, bin_add_tup, bin_sub, bin_mul, bin_fdiv, bin_mod, bin_pow, bin_shl, bin_shr, bin_band, bin_bor, idx_tup, idx_ref, idx_str, blt_len_tup, blt_len_str, blt_len_ref, blt_int_int, blt_int_bl, blt_bool_bl, blt_bool_int, blt_abs, blt_max2, blt_max3, blt_min2, blt_tuple_tup, blt_tuple_ref, blt_isa_non, blt_isa_bl, blt_isa_int, blt_isa_str, blt_isa_tup, isa_int_int, isa_int_bool, isa_bl_bool, isa_tup, isa_str, lk_tuple, lk_len, lk_all, lk_any, lk_sum, it_tup, it_rl, it_ref, zip_tup, enum_tup, enum_ref, eq_self_iff_true, if_true, Bool.false_eq_true, if_false, reduceIte, ss_nil, rev_tup, rev_ref, ty_split, ty_join, ty_append, ty_pop, ty_popAt, ty_reverse, ty_extend, ty_insert, mth_append, mth_pop, mth_popAt, mth_reverse, mth_extend, mth_insert, mth_split, mth_join, cmp_eq_ref, cmp_ne_ref, slc_tup, slc_str, slc_ref, lk_max, lk_min, cmp_lt_str, cmp_is_bl, cmp_not_bl, cmp_is_non, cmp_not_non, cmp_is_tup, cmp_not_tup, cmp_is_int, cmp_not_int, blt_str, blt_maxt, blt_mint, tg_np]
  rw [← List.map_cons (f := TD m), cut_init]
  have hTl : ((g :: gs).dropLast).length = gs.length := by rw [List.length_dropLast]; rfl
  refine for_at mF (fun j e M' => j ≤ gs.length ∧ Sub M M' ∧ M' pe = some (.lst (ev.map (RD m))) ∧ ∃ (rs : List (Nat → Int)) (pr : Nat), pr ≠ pe ∧ M' pr = some (.lst (rs.map (RD m))) ∧ (∀ r ∈ rs, Pre m (g :: gs) a j r) ∧ (KpT m g a (cR m gs c) → ∃ r ∈ rs, ∀ x, x < m → r x = wJ m gs a c j x) ∧ ∃ s6 s7 s8, e = [.val (TL m (g :: gs)), .val (RD m a), .val (RD m c), .val (.int ((t : Int) - 1)), .val (.ref pe), .val (.ref pr), s6, s7, s8])
    ⟨Nat.zero_le _, sb1.upd2 (sb1.noneL hp5), by rw [upd_no hpe5]; exact he, [a], p5, hpe5.symm, upd_at, (fun r hr => List.mem_singleton.mp hr), (fun _ => ⟨a, List.mem_singleton.mpr rfl, fun _ _ => rfl⟩), _, _, _, rfl⟩ (fun _ _ _ _ => trivial) (fun e M' hI => ?_) (fun j x e M' hx hI => ?_)
  · obtain ⟨hj, sb, he', rs, pr, hpr, hM, hS, hC, s6, s7, s8, rfl⟩ := hI
    rw [List.length_map, hTl] at hS hC
    have hlast : L2.atI ((g :: gs).map (TD m)) (-1) = some (TD m ((g :: gs).getD gs.length fun _ _ => 0)) := atI_neg1 (by
      rw [List.getLast?_map, last_getD (d := fun _ _ => 0) (show (g :: gs).length = gs.length + 1 from rfl)]; rfl)
    (try walk_at "wp")
    rw [ss_cons]
    simp only [TL, wS, wE, wEs, wO, wAs, wL, wN, wI, wT, wTs, setAll, Tg.slots, wipeE, cmp_eq_int, cmp_ne_int, cmp_eq_str, cmp_ne_str, cmp_eq_tup, cmp_ne_tup, cmp_eq_bl, cmp_lt, cmp_le, cmp_gt, cmp_ge, Kt0_rt, Kt0_nx, List.getElem?_cons_zero, List.getElem?_cons_succ, List.set_cons_zero, List.set_cons_succ, Option.some.injEq, Slot.val.injEq, Slot.own.injEq, MO.lst.injEq, D.int.injEq, D.ref.injEq, D.bl.injEq, D.tup.injEq, D.str.injEq, exists_eq_left', exists_eq_left, exists_and_left, exists_and_right, and_assoc, true_and, and_true, atI_0, atI_1, atI_2, atI_3, atI_4, backs, drps, List.map_cons, List.map_nil, List.length_cons, List.length_nil, List.cons_append, List.nil_append, List.replicate, Nat.reduceAdd, Nat.reduceSub, decide_eq_true_eq, upd_at, aug_add_int, aug_sub_int, aug_mul_int, aug_add_str, ixN5_1, ixN5_2, ixN5_3, Int.toNat_natCast, List.length_map, List.length_range, tg_nm, tg_tp, tru_non, tru_bl, tru_int, tru_str, tru_tup, tru_ref, bin_add_int, bin_add_str, bin_add_tup, bin_sub, bin_mul, bin_fdiv, bin_mod, bin_pow, bin_shl, bin_shr, bin_band, bin_bor, idx_tup, idx_ref, idx_str, blt_len_tup, blt_len_str, blt_len_ref, blt_int_int, blt_int_bl, blt_bool_bl, blt_bool_int, blt_abs, blt_max2, blt_max3, blt_min2, blt_tuple_tup, blt_tuple_ref, blt_isa_non, blt_isa_bl, blt_isa_int, blt_isa_str, blt_isa_tup, isa_int_int, isa_int_bool, isa_bl_bool, isa_tup, isa_str, lk_tuple, lk_len, lk_all, lk_any, lk_sum, it_tup, it_rl, it_ref, zip_tup, enum_tup, enum_ref, eq_self_iff_true, if_true, Bool.false_eq_true, if_false, reduceIte, ss_nil, rev_tup, rev_ref, ty_split, ty_join, ty_append, ty_pop, ty_popAt, ty_reverse, ty_extend, ty_insert, mth_append, mth_pop, mth_popAt, mth_reverse, mth_extend, mth_insert, mth_split, mth_join, cmp_eq_ref, cmp_ne_ref, slc_tup, slc_str, slc_ref, lk_max, lk_min, cmp_lt_str, cmp_is_bl, cmp_not_bl, cmp_is_non, cmp_not_non, cmp_is_tup, cmp_not_tup, cmp_is_int, cmp_not_int, blt_str, blt_maxt, blt_mint, tg_np]
    rw [← List.map_cons (f := TD m)]
    refine ⟨_, hlast, from_some_ok (n := n) (by omega) hM ?_⟩
    (try walk_at "wp")
    refine ⟨M, sb, ?_⟩
    have hcc : ∀ x, x < m → 0 ≤ c x := fun x hx => (hc x hx).1
    have key : (∃ r ∈ rs, KpT m ((g :: gs).getD gs.length fun _ _ => 0) r c) ↔ KpT m g a (cR m gs c) := by
      constructor
      · rintro ⟨r, hr, hk⟩
        refine pre_least hE ha (Nat.le_refl _) (r := c) ⟨hcc, r, hS r hr, hk⟩ fun x hx => ?_
        rw [List.drop_length]
        exact Int.le_refl _
      · intro h
        obtain ⟨r, hr, e⟩ := hC h
        have := wJ_kp h (Nat.le_refl gs.length)
        rw [List.drop_length] at this
        exact ⟨r, hr, kpT_cg this e fun _ _ => rfl⟩
    rw [show decide (KpT m g a (cR m gs c)) = decide (∃ r ∈ rs, KpT m ((g :: gs).getD gs.length fun _ _ => 0) r c) from by
      by_cases z : KpT m g a (cR m gs c)
      · rw [decide_eq_true z, decide_eq_true (key.mpr z)]
      · rw [decide_eq_false z, decide_eq_false (fun y => z (key.mp y))]] at q
    exact q
  · obtain ⟨hj, sb, he', rs, pr, hpr, hM, hS, hC, s6, s7, s8, rfl⟩ := hI
    rw [List.getElem?_map] at hx
    obtain ⟨u, hu, rfl⟩ := Option.map_eq_some_iff.mp hx
    have hj' : j < gs.length := by
      have := (List.getElem?_eq_some_iff.mp hu).1
      rw [hTl] at this
      exact this
    have eu : (g :: gs).getD j (fun _ _ => 0) = u := by
      rw [List.getElem?_dropLast, if_pos (by show j < gs.length + 1 - 1; omega)] at hu
      rw [List.getD_eq_getElem?_getD, hu]; rfl
    (try walk_at "wp")
    (rw [ss_cons]; walk_at "wp")
    rw [ss_cons]
    simp! only [he']
    refine ⟨Nat.le_trans evl (by decide), cmpr_filtG (fun r => decide (∃ r' ∈ rs, KpT m u r' r)) (RD m) (RD m) he' (fun r hr R hR => ?_) fun p' hp' => ?_⟩
    · refine from_some_ok (n := n) (by omega) hM ?_
      (try walk_at "wp")
      by_cases z : ∃ r' ∈ rs, KpT m u r' r
      · rw [decide_eq_true z] at hR
        rw [if_pos z]; exact hR
      · rw [decide_eq_false z] at hR
        rw [if_neg z]; exact hR
    · have hp'M : M p' = Option.none := sb.noneL hp'
      have hpe' : pe ≠ p' := fun z => by rw [← z, he'] at hp'; cases hp'
      refine ⟨hj', sb.upd2 hp'M, by rw [upd_no hpe']; exact he', ev.filter fun r => decide (∃ r' ∈ rs, KpT m u r' r), p', hpe'.symm, upd_at, fun r hr => ?_, fun h => ?_, _, _, _, rfl⟩
      · obtain ⟨h1, h2⟩ := List.mem_filter.mp hr
        obtain ⟨r', hr', hk⟩ := of_decide_eq_true h2
        exact ⟨evn r h1, r', hS r' hr', by rw [eu]; exact hk⟩
      · obtain ⟨r', hr', e'⟩ := hC h
        have hcn : ∀ x, x < m → 0 ≤ c x := fun x hx => (hc x hx).1
        obtain ⟨r, hr, e⟩ := eva (cR m (gs.drop j) c) fun x hx => by
          refine ⟨cR_nonneg hcn hx, ?_⟩
          have h1 := cR_top (gs := gs.drop j) (fun u hu => hE u (List.mem_cons_of_mem _ (List.mem_of_mem_drop hu))) (c := c) (B := (t : Int) - gs.length - 1) (by have := hc x hx; omega) (fun y hy => by have := hc y hy; omega) x hx
          rw [List.length_drop] at h1
          omega
        refine ⟨r, List.mem_filter.mpr ⟨hr, decide_eq_true ⟨r', hr', ?_⟩⟩, e⟩
        have := wJ_kp h (Nat.le_of_lt hj')
        rw [eu] at this
        exact kpT_cg this e' e
theorem law_ok (ns : List Int) (hl : ns.length ≤ 63) {Q : QE} {E : QX} (q : ∀ M, Q (.bl true) M) : wFn P 20 f_law [.rl (ns.map D.int)] (fun _ => none) Q E := by
  have rest : ∀ (d c m : Nat) (top : Int) (M : Mem), m ≤ 9 → (top = 6 ∨ (7 ≤ top ∧ top < 2 ^ 99)) → Dst M d c → ∀ s4 s5 s6 s7 s8 s9 s10 s11 s12 s13 s14, wSs (wFn P 19) (d_law.body.drop 5) [.val (.rl (ns.map D.int)), .val (.ref d), .val (.int m), .val (.int top), s4, s5, s6, s7, s8, s9, s10, s11, s12, s13, s14] M (Kt0 Q E) := by
    intro d c m top M hm htop hd s4 s5 s6 s7 s8 s9 s10 s11 s12 s13 s14
    simp only [d_law, List.drop]
    rw [ss_cons]
    walk_at "wp"
    refine ⟨by decide, fun p hp => pick_ns (lo := 0) (hi := 4) rfl rfl [0, 1, 1, 2, 4] rfl (by decide) (by decide) (by decide) hd hp fun st M2 st0 st1 s2 => ?_⟩
    (try walk_at "wp")
    rw [ss_cons]
    walk_at "wp"
    refine draw (by decide) (by decide) s2.1 fun k M3 hk s3 => ?_
    (try walk_at "wp")
    rw [show (1 : Int) + (k : Int) = ((1 + k : Nat) : Int) from by omega]
    refine ⟨by omega, by omega, small_line (by omega), cmpr_acc (fun i ys M' => DrS d c M3 M' ∧ ∃ T : List (Nat → Nat → Int), T.length = i ∧ AllE m T ∧ ys = T.map (TD m)) (fun _ _ _ _ => trivial) (fun i x ys M' hx hI R hR => ?_) ⟨DrS.refl s3.1, [], rfl, (fun _ h => nomatch h), rfl⟩ fun ys M4 hI => ?_⟩
    · obtain ⟨s4, T, hT, hE, rfl⟩ := hI
      refine table_ok rfl rfl rfl rfl (by omega) s4.1 fun g M5 hg s5 => ?_
      exact hR _ _ ⟨s4.trans s5, T ++ [g], by simp [hT], fun u hu => by
        rcases List.mem_append.mp hu with z | z
        · exact hE u z
        · rw [List.mem_singleton.mp z]; exact hg, by rw [List.map_append]; rfl⟩
    obtain ⟨s4, T, hT, hE, rfl⟩ := hI
    rw [List.length_map, List.length_range, Int.toNat_natCast] at hT
    obtain ⟨g, gs, rfl⟩ : ∃ g gs, T = g :: gs := by
      cases T with
      | nil => simp at hT; omega
      | cons g gs => exact ⟨g, gs, rfl⟩
    rw [List.length_cons] at hT
    have hgl : gs.length ≤ 3 := by omega
    have ht0 : 0 ≤ top := by rcases htop with h | h <;> omega
    have ht1 : top < 2 ^ 99 := by
      rcases htop with h | h
      · rw [h]; decide
      · exact h.2
    rw [ss_cons]
    walk_at "wp"
    refine row_ok rfl rfl (by omega) ht0 ht1 s4.1 fun b0 M5 hb0 s5 => ?_
    refine run_told_ok (n := 14) (m := m) (g := g) (gs := gs) (by omega) (by omega) hE (fun x hx => (hb0 x hx).1) s5.1 fun M6 s6 => ?_
    walk_at "wp"
    rw [if_neg (by decide)]
    (rw [ss_cons]; walk_at "wp")
    refine product_ok (n := 17) (m := m) (g := g) (gs := gs) (by omega) ?_
    (try walk_at "wp")
    (rw [ss_cons]; walk_at "wp")
    refine row_ok rfl rfl (by omega) ht0 ht1 s6.1 fun lc M7 hlc s7 => ?_
    (try walk_at "wp")
    (rw [ss_cons]; walk_at "wp")
    refine first_row_ok (n := 16) (m := m) (by omega) ht0 ht1 s7.1 fun fa M8 hfa s8 => ?_
    (try walk_at "wp")
    (rw [ss_cons]; walk_at "wp")
    refine law_keeps_ok P__law_keeps (by omega) ?_
    have hPk : decide (KpT m (gs.foldl (comp m) g) fa lc) = decide (KpT m (PR m (g :: gs)) fa lc) := by
      by_cases z : KpT m (PR m (g :: gs)) fa lc
      · rw [decide_eq_true z, decide_eq_true ((kpT_eq (prod_PR hE)).mpr z)]
      · rw [decide_eq_false z, decide_eq_false fun y => z ((kpT_eq (prod_PR hE)).mp y)]
    have hPa : decide (KpT m ((g :: gs).foldl (comp m) idm) fa lc) = decide (KpT m (PR m (g :: gs)) fa lc) := by
      by_cases z : KpT m (PR m (g :: gs)) fa lc
      · rw [decide_eq_true z, decide_eq_true ((kpT_eq (all_PR hE)).mpr z)]
      · rw [decide_eq_false z, decide_eq_false fun y => z ((kpT_eq (all_PR hE)).mp y)]
    rw [hPk]
    (try walk_at "wp")
    rw [ss_cons]
    walk_at "wp"
    refine compose_all_ok (n := 16) (m := m) (gs := g :: gs) rfl rfl rfl rfl (by omega) ?_
    refine keeps_ok rfl rfl ?_
    rw [hPa]
    refine says_ok ?_
    simp! only [beq_self_eq_true]
    rw [if_neg (by decide)]
    rw [ss_cons]
    simp only [TL, wS, wE, wEs, wO, wAs, wL, wN, wI, wT, wTs, setAll, Tg.slots, wipeE, cmp_eq_int, cmp_ne_int, cmp_eq_str, cmp_ne_str, cmp_eq_tup, cmp_ne_tup, cmp_eq_bl, cmp_lt, cmp_le, cmp_gt, cmp_ge, Kt0_rt, Kt0_nx, List.getElem?_cons_zero, List.getElem?_cons_succ, List.set_cons_zero, List.set_cons_succ, Option.some.injEq, Slot.val.injEq, Slot.own.injEq, MO.lst.injEq, D.int.injEq, D.ref.injEq, D.bl.injEq, D.tup.injEq, D.str.injEq, exists_eq_left', exists_eq_left, exists_and_left, exists_and_right, and_assoc, true_and, and_true, atI_0, atI_1, atI_2, atI_3, atI_4, backs, drps, List.map_cons, List.map_nil, List.length_cons, List.length_nil, List.cons_append, List.nil_append, List.replicate, Nat.reduceAdd, Nat.reduceSub, decide_eq_true_eq, upd_at, aug_add_int, aug_sub_int, aug_mul_int, aug_add_str, ixN5_1, ixN5_2, ixN5_3, Int.toNat_natCast, List.length_map, List.length_range, tg_nm, tg_tp, tru_non, tru_bl, tru_int, tru_str, tru_tup, tru_ref, bin_add_int, bin_add_str, bin_add_tup, bin_sub, bin_mul, bin_fdiv, bin_mod, bin_pow, bin_shl, bin_shr, bin_band, bin_bor, idx_tup, idx_ref, idx_str, blt_len_tup, blt_len_str, blt_len_ref, blt_int_int, blt_int_bl, blt_bool_bl, blt_bool_int, blt_abs, blt_max2, blt_max3, blt_min2, blt_tuple_tup, blt_tuple_ref, blt_isa_non, blt_isa_bl, blt_isa_int, blt_isa_str, blt_isa_tup, isa_int_int, isa_int_bool, isa_bl_bool, isa_tup, isa_str, lk_tuple, lk_len, lk_all, lk_any, lk_sum, it_tup, it_rl, it_ref, zip_tup, enum_tup, enum_ref, eq_self_iff_true, if_true, Bool.false_eq_true, if_false, reduceIte, ss_nil, rev_tup, rev_ref, ty_split, ty_join, ty_append, ty_pop, ty_popAt, ty_reverse, ty_extend, ty_insert, mth_append, mth_pop, mth_popAt, mth_reverse, mth_extend, mth_insert, mth_split, mth_join, cmp_eq_ref, cmp_ne_ref, slc_tup, slc_str, slc_ref, lk_max, lk_min, cmp_lt_str, cmp_is_bl, cmp_not_bl, cmp_is_non, cmp_not_non, cmp_is_tup, cmp_not_tup, cmp_is_int, cmp_not_int, blt_str, blt_maxt, blt_mint, tg_np]
    obtain ⟨kk, hkk⟩ : ∃ kk : Int, ((gs.length : Nat) : Int) + 1 = kk := ⟨_, rfl⟩
    have hcm : ∀ i, CMulD kk i := fun i => .inl ⟨by omega, by omega⟩
    rw [show ((gs.length + 1 : Nat) : Int) = kk from by omega]
    (rw [ss_cons]; walk_at "wp")
    refine scaled_ok (m := m) (by omega) hcm ?_
    (try walk_at "wp")
    (rw [ss_cons]; walk_at "wp")
    refine scaled_ok (m := m) (by omega) hcm ?_
    (try walk_at "wp")
    (rw [ss_cons]; walk_at "wp")
    refine between_ok (m := m) (g := g) (gs := gs) (by omega) (by omega) ?_
    have hsc := sc_iff hE (a := fa) (c := lc) hfa (k := kk) (by omega)
    rw [show (if KpT m g (fun x => kk * fa x + kk) (cR m gs fun x => kk * lc x + kk) then RwD m (mids m gs fun x => kk * lc x + kk) else D.non) = midV m g gs (fun x => kk * fa x + kk) (fun x => kk * lc x + kk) from rfl]
    (try walk_at "wp")
    have fin : ∀ (s13 : Slot) (kb : Bool) (ab be : D), wSs (wFn P 19) (d_law.body.drop 19) [.val (.rl (ns.map D.int)), .val (.ref d), .val (.int m), .val (.int top), .val (.int st), .val (TL m (g :: gs)), .val (TD m (gs.foldl (comp m) g)), .val (RD m lc), .val (RD m fa), .val (.bl kb), .val (.int kk), .val ab, .val be, s13, s14] M8 (Kt0 Q E) := by
      intro s13 kb ab be
      simp only [d_law, List.drop]
      (rw [ss_cons]; walk_at "wp")
      refine between_ok (n := 17) (m := m) (g := g) (gs := gs) (by omega) (by omega) ?_
      rw [show (if KpT m g fa (cR m gs lc) then RwD m (mids m gs lc) else D.non) = midV m g gs fa lc from rfl]
      (try walk_at "wp")
      (rw [ss_cons]; walk_at "wp")
      refine told_ok (n := 15) (m := m) (g := g) (gs := gs) (by omega) (by omega) ?_
      (try walk_at "wp")
      rw [if_neg (by decide)]
      have key : m ≤ 3 → top = 6 → ∀ K : Kt, K.rt = (Kt0 Q E).rt → wSs (wFn P 19) [.ret (.cmp .eq (.call f__law_is_way (.cons (.var 5) (.cons (.var 8) (.cons (.var 7) (.cons (.bin .add (.var 10) (.cst (.int 5))) .nil))))) (.cmp .notN (.var 13) (.cst .non)))] [.val (.rl (ns.map D.int)), .val (.ref d), .val (.int m), .val (.int top), .val (.int st), .val (TL m (g :: gs)), .val (TD m (gs.foldl (comp m) g)), .val (RD m lc), .val (RD m fa), .val (.bl kb), .val (.int kk), .val ab, .val be, .val (midV m g gs fa lc), s14] M8 K := by
        intro hm3 ht6 K hK
        rw [ss_cons]
        simp! only [hK]
        rw [show kk + 5 = ((gs.length + 7 : Nat) : Int) - 1 from by omega]
        refine is_way_ok (n := 16) (m := m) (g := g) (gs := gs) hm3 (by omega) hE hfa (by omega) (fun x hx => ?_) ?_
        · have := hlc x hx
          omega
        · by_cases y : KpT m g fa (cR m gs lc)
          · rw [decide_eq_true y, show midV m g gs fa lc = RwD m (mids m gs lc) from if_pos y]
            simp only [RwD, wS, wE, wEs, wO, wAs, wL, wN, wI, wT, wTs, setAll, Tg.slots, wipeE, cmp_eq_int, cmp_ne_int, cmp_eq_str, cmp_ne_str, cmp_eq_tup, cmp_ne_tup, cmp_eq_bl, cmp_lt, cmp_le, cmp_gt, cmp_ge, Kt0_rt, Kt0_nx, List.getElem?_cons_zero, List.getElem?_cons_succ, List.set_cons_zero, List.set_cons_succ, Option.some.injEq, Slot.val.injEq, Slot.own.injEq, MO.lst.injEq, D.int.injEq, D.ref.injEq, D.bl.injEq, D.tup.injEq, D.str.injEq, exists_eq_left', exists_eq_left, exists_and_left, exists_and_right, and_assoc, true_and, and_true, atI_0, atI_1, atI_2, atI_3, atI_4, backs, drps, List.map_cons, List.map_nil, List.length_cons, List.length_nil, List.cons_append, List.nil_append, List.replicate, Nat.reduceAdd, Nat.reduceSub, decide_eq_true_eq, upd_at, aug_add_int, aug_sub_int, aug_mul_int, aug_add_str, ixN5_1, ixN5_2, ixN5_3, Int.toNat_natCast, List.length_map, List.length_range, tg_nm, tg_tp, tru_non, tru_bl, tru_int, tru_str, tru_tup, tru_ref, bin_add_int, bin_add_str, bin_add_tup, bin_sub, bin_mul, bin_fdiv, bin_mod, bin_pow, bin_shl, bin_shr, bin_band, bin_bor, idx_tup, idx_ref, idx_str, blt_len_tup, blt_len_str, blt_len_ref, blt_int_int, blt_int_bl, blt_bool_bl, blt_bool_int, blt_abs, blt_max2, blt_max3, blt_min2, blt_tuple_tup, blt_tuple_ref, blt_isa_non, blt_isa_bl, blt_isa_int, blt_isa_str, blt_isa_tup, isa_int_int, isa_int_bool, isa_bl_bool, isa_tup, isa_str, lk_tuple, lk_len, lk_all, lk_any, lk_sum, it_tup, it_rl, it_ref, zip_tup, enum_tup, enum_ref, eq_self_iff_true, if_true, Bool.false_eq_true, if_false, reduceIte, ss_nil, rev_tup, rev_ref, ty_split, ty_join, ty_append, ty_pop, ty_popAt, ty_reverse, ty_extend, ty_insert, mth_append, mth_pop, mth_popAt, mth_reverse, mth_extend, mth_insert, mth_split, mth_join, cmp_eq_ref, cmp_ne_ref, slc_tup, slc_str, slc_ref, lk_max, lk_min, cmp_lt_str, cmp_is_bl, cmp_not_bl, cmp_is_non, cmp_not_non, cmp_is_tup, cmp_not_tup, cmp_is_int, cmp_not_int, blt_str, blt_maxt, blt_mint, tg_np, beq_self_eq_true]
            exact leave (q _)
          · rw [decide_eq_false y, show midV m g gs fa lc = .non from if_neg y]
            simp! only [beq_self_eq_true]
            exact leave (q _)
      (rw [ss_cons]; walk_at "wp")
      have fl : wSs (wFn P 19) [.ret (.cst (.bl true))] [.val (.rl (ns.map D.int)), .val (.ref d), .val (.int m), .val (.int top), .val (.int st), .val (TL m (g :: gs)), .val (TD m (gs.foldl (comp m) g)), .val (RD m lc), .val (RD m fa), .val (.bl kb), .val (.int kk), .val ab, .val be, .val (midV m g gs fa lc), s14] M8 (Kt0 Q E) := by
        (rw [ss_cons]; walk_at "wp")
        exact leave (q _)
      by_cases t6 : top = 6
      · rw [if_pos t6]
        by_cases m2 : (m : Int) < 2
        · rw [if_pos m2]
          exact key (by omega) t6 _ rfl
        · rw [if_neg m2]
          by_cases m3 : (m : Int) = 2
          · rw [if_pos m3]
            by_cases k3 : kk < 3
            · rw [if_pos k3]
              exact key (by omega) t6 _ rfl
            · rw [if_neg k3]
              (try walk_at "wp")
              exact fl
          · rw [if_neg m3]
            (try walk_at "wp")
            exact fl
      · rw [if_neg t6]
        (try walk_at "wp")
        exact fl
    by_cases z : KpT m (PR m (g :: gs)) fa lc
    · have z2 := hsc.mp z
      rw [decide_eq_true z]
      rw [ss_cons]
      have hk2 : midV m g gs (fun x => kk * fa x + kk) (fun x => kk * lc x + kk) = RwD m (mids m gs fun x => kk * lc x + kk) := if_pos z2
      rw [hk2]
      simp only [RwD, wS, wE, wEs, wO, wAs, wL, wN, wI, wT, wTs, setAll, Tg.slots, wipeE, cmp_eq_int, cmp_ne_int, cmp_eq_str, cmp_ne_str, cmp_eq_tup, cmp_ne_tup, cmp_eq_bl, cmp_lt, cmp_le, cmp_gt, cmp_ge, Kt0_rt, Kt0_nx, List.getElem?_cons_zero, List.getElem?_cons_succ, List.set_cons_zero, List.set_cons_succ, Option.some.injEq, Slot.val.injEq, Slot.own.injEq, MO.lst.injEq, D.int.injEq, D.ref.injEq, D.bl.injEq, D.tup.injEq, D.str.injEq, exists_eq_left', exists_eq_left, exists_and_left, exists_and_right, and_assoc, true_and, and_true, atI_0, atI_1, atI_2, atI_3, atI_4, backs, drps, List.map_cons, List.map_nil, List.length_cons, List.length_nil, List.cons_append, List.nil_append, List.replicate, Nat.reduceAdd, Nat.reduceSub, decide_eq_true_eq, upd_at, aug_add_int, aug_sub_int, aug_mul_int, aug_add_str, ixN5_1, ixN5_2, ixN5_3, Int.toNat_natCast, List.length_map, List.length_range, tg_nm, tg_tp, tru_non, tru_bl, tru_int, tru_str, tru_tup, tru_ref, bin_add_int, bin_add_str, bin_add_tup, bin_sub, bin_mul, bin_fdiv, bin_mod, bin_pow, bin_shl, bin_shr, bin_band, bin_bor, idx_tup, idx_ref, idx_str, blt_len_tup, blt_len_str, blt_len_ref, blt_int_int, blt_int_bl, blt_bool_bl, blt_bool_int, blt_abs, blt_max2, blt_max3, blt_min2, blt_tuple_tup, blt_tuple_ref, blt_isa_non, blt_isa_bl, blt_isa_int, blt_isa_str, blt_isa_tup, isa_int_int, isa_int_bool, isa_bl_bool, isa_tup, isa_str, lk_tuple, lk_len, lk_all, lk_any, lk_sum, it_tup, it_rl, it_ref, zip_tup, enum_tup, enum_ref, eq_self_iff_true, if_true, Bool.false_eq_true, if_false, reduceIte, ss_nil, rev_tup, rev_ref, ty_split, ty_join, ty_append, ty_pop, ty_popAt, ty_reverse, ty_extend, ty_insert, mth_append, mth_pop, mth_popAt, mth_reverse, mth_extend, mth_insert, mth_split, mth_join, cmp_eq_ref, cmp_ne_ref, slc_tup, slc_str, slc_ref, lk_max, lk_min, cmp_lt_str, cmp_is_bl, cmp_not_bl, cmp_is_non, cmp_not_non, cmp_is_tup, cmp_not_tup, cmp_is_int, cmp_not_int, blt_str, blt_maxt, blt_mint, tg_np]
      simp only [wCmp, D.flat, D.eqv, beq_self_eq_true, Bool.not_true, Bool.false_eq_true, if_false, true_and, and_self]
      rw [show D.tup (List.map (RD m) (mids m gs fun x => kk * lc x + kk)) = midV m g gs (fun x => kk * fa x + kk) (fun x => kk * lc x + kk) from hk2.symm]
      refine told_ok (n := 15) (m := m) (g := g) (gs := gs) (by omega) (by omega) ?_
      rw [hk2]
      walk_at "wp"
      rw [if_neg (by decide)]
      (rw [ss_cons]; walk_at "wp")
      have lml : (mids m gs fun x => kk * lc x + kk).length = gs.length := mids_len
      rw [add_hd]
      refine ⟨by decide, Nat.le_trans (show _ ≤ 2000 by omega) (by decide), by decide, ?_⟩
      rw [add_tl]
      refine ⟨Nat.le_trans (show _ ≤ 2000 by rw [List.length_cons]; omega) (by decide), ?_⟩
      rw [List.cons_append, mids_c]
      refine walked_ok (n := 17) (gs := g :: gs) (by omega) (by rw [List.length_cons]; omega) (by rw [List.length_cons, rowsC_len, List.length_cons]) (walk_mids z2) ?_
      (try walk_at "wp")
      exact fin _ _ _ _
    · have z2 := fun y => z (hsc.mpr y)
      rw [decide_eq_false z]
      rw [ss_cons]
      have hk2 : midV m g gs (fun x => kk * fa x + kk) (fun x => kk * lc x + kk) = .non := if_neg z2
      rw [hk2]
      walk_at "wp"
      simp only [wCmp, D.flat, D.eqv, beq_self_eq_true, Bool.not_true, Bool.false_eq_true, if_false, true_and, and_self]
      rw [show D.non = midV m g gs (fun x => kk * fa x + kk) (fun x => kk * lc x + kk) from hk2.symm]
      refine told_ok (n := 15) (m := m) (g := g) (gs := gs) (by omega) (by omega) ?_
      rw [hk2]
      walk_at "wp"
      rw [if_neg (by decide)]
      (rw [ss_cons]; walk_at "wp")
      exact fin _ _ _ _
  refine enter rfl rfl ?_
  simp only [d_law]
  (rw [ss_cons]; walk_at "wp")
  refine begin_ok rfl hl fun d c M0 hd => ?_
  (try walk_at "wp")
  rw [ss_cons]
  walk_at "wp"
  refine ⟨by decide, fun p hp => pick_ns (lo := 0) (hi := 3) rfl rfl [0, 1, 1, 2, 2, 2, 2, 3] rfl (by decide) (by decide) (by decide) hd hp fun m M1 m0 m1 s1 => ?_⟩
  (try walk_at "wp")
  rw [ss_cons]
  walk_at "wp"
  have hd1 : Dst (drp M1 p) d c := s1.1
  have go2 : ∀ (m : Nat) (M : Mem), m ≤ 9 → Dst M d c → ∀ s3 s4 s5 s6 s7 s8 s9 s10 s11 s12 s13 s14, wSs (wFn P 19) (d_law.body.drop 3) [.val (.rl (ns.map D.int)), .val (.ref d), .val (.int m), s3, s4, s5, s6, s7, s8, s9, s10, s11, s12, s13, s14] M (Kt0 Q E) := by
    intro m M hm hd s3 s4 s5 s6 s7 s8 s9 s10 s11 s12 s13 s14
    simp only [d_law, List.drop]
    (rw [ss_cons]; walk_at "wp")
    rw [ss_cons]
    walk_at "wp"
    refine draw (by decide) (by decide) hd fun k M2 hk s2 => ?_
    (try walk_at "wp")
    split
    · (rw [ss_cons]; walk_at "wp")
      refine ⟨by decide, by decide, by decide, rest d c m (10 ^ (12 : Int).toNat) _ hm (.inr ⟨by decide, by decide⟩) s2.1 _ _ _ _ _ _ _ _ _ _ _⟩
    · (try walk_at "wp")
      exact rest d c m _ _ hm (.inl rfl) s2.1 _ _ _ _ _ _ _ _ _ _ _
  refine draw (by decide) (by decide) hd1 fun k M2 hk s2 => ?_
  (try walk_at "wp")
  split
  · rw [ss_cons]
    walk_at "wp"
    refine ⟨by decide, fun p hp => pick_ns (lo := 5) (hi := 9) rfl rfl [5, 9] rfl (by decide) (by decide) (by decide) s2.1 hp fun m M3 m0 m1 s3 => ?_⟩
    (try walk_at "wp")
    exact go2 m _ (by omega) s3.1 _ _ _ _ _ _ _ _ _ _ _ _
  · (try walk_at "wp")
    exact go2 m _ (by omega) s2.1 _ _ _ _ _ _ _ _ _ _ _ _
theorem h_law (ns : List Int) (hl : ns.length ≤ 63) : wFn P 20 f_law [.rl (ns.map D.int)] (fun _ => none) (fun d _ => d = .bl true) (fun _ _ => False) := law_ok ns hl fun _ => rfl
theorem T_P : T.map (·.1) = P := rfl
theorem tx : Tx T gl := ⟨by decide +kernel⟩
end DL.LawText
open PySem PySem.W PyProof.Rows
set_option maxHeartbeats 0 in
theorem PySem.Challenge.cw_dwindleweb_k06_tables_mean_rows_holds : PySem.Challenge.rw_dwindleweb_k06_tables_mean_rows.Holds := by
  w_on; o_law; k_head; (case hw => w_witness2)
  k_fill
  refine L2.walk_of (l := PySem.Challenge.rw_dwindleweb_k06_tables_mean_rows) (n := 63) (k := 20) (x := "script") (CX := fun w => L2.CX PySem.Challenge.rw_dwindleweb_k06_tables_mean_rows.prog w) (sp := fun w => DL.spL _ (fun _ _ _ _ => False) (DL.wFn (DL.LawText.T.map (·.1)) 20 DL.LawText.f_law)) rfl (by decide) rfl ⟨rfl, by decide, by decide⟩ (fun w h Y => PySem.W.kIn_of Y) ?F (fun w H a ns hl hO hS => DL.law_sp (fun ns hl => DL.LawText.h_law ns hl) H a ns hl hO hS) (fun w H s e s' h => DL.law_cx _ w H s e s' h)
  case F =>
    intro w mg fa h KX G hmg
    refine DL.law_F (fn := DL.LawText.d_law) (f := DL.LawText.f_law) KX G DL.LawText.tx rfl hmg rfl ?at_ ?no_ ?gl_ _
    case at_ =>
      refine' DL.Ats.cons' (DL.at_mk (x := "first_broken") rfl KX G ?a ?l ?c ?k) ?_
      (case a => k_is); (case l => k_is); (case c => k_is); (case k => k_is)
      refine' DL.Ats.cons' (DL.at_mk (x := "keeps") rfl KX G ?a ?l ?c ?k) ?_
      (case a => k_is); (case l => k_is); (case c => k_is); (case k => k_is)
      refine' DL.Ats.cons' (DL.at_mk (x := "row_ahead") rfl KX G ?a ?l ?c ?k) ?_
      (case a => k_is); (case l => k_is); (case c => k_is); (case k => k_is)
      refine' DL.Ats.cons' (DL.at_mk (x := "least_along") rfl KX G ?a ?l ?c ?k) ?_
      (case a => k_is); (case l => k_is); (case c => k_is); (case k => k_is)
      refine' DL.Ats.cons' (DL.at_mk (x := "middles") rfl KX G ?a ?l ?c ?k) ?_
      (case a => k_is); (case l => k_is); (case c => k_is); (case k => k_is)
      refine' DL.Ats.cons' (DL.at_mk (x := "identity") rfl KX G ?a ?l ?c ?k) ?_
      (case a => k_is); (case l => k_is); (case c => k_is); (case k => k_is)
      refine' DL.Ats.cons' (DL.at_mk (x := "composed_row") rfl KX G ?a ?l ?c ?k) ?_
      (case a => k_is); (case l => k_is); (case c => k_is); (case k => k_is)
      refine' DL.Ats.cons' (DL.at_mk (x := "compose") rfl KX G ?a ?l ?c ?k) ?_
      (case a => k_is); (case l => k_is); (case c => k_is); (case k => k_is)
      refine' DL.Ats.cons' (DL.at_mk (x := "compose_all") rfl KX G ?a ?l ?c ?k) ?_
      (case a => k_is); (case l => k_is); (case c => k_is); (case k => k_is)
      refine' DL.Ats.cons' (DL.at_mk (x := "_law_begin") rfl KX G ?a ?l ?c ?k) ?_
      (case a => k_is); (case l => k_is); (case c => k_is); (case k => k_is)
      refine' DL.Ats.cons' (DL.at_mk (x := "_law_draw") rfl KX G ?a ?l ?c ?k) ?_
      (case a => k_is); (case l => k_is); (case c => k_is); (case k => k_is)
      refine' DL.Ats.cons' (DL.at_mk (x := "_law_pick") rfl KX G ?a ?l ?c ?k) ?_
      (case a => k_is); (case l => k_is); (case c => k_is); (case k => k_is)
      refine' DL.Ats.cons' (DL.at_mk (x := "_law_entry") rfl KX G ?a ?l ?c ?k) ?_
      (case a => k_is); (case l => k_is); (case c => k_is); (case k => k_is)
      refine' DL.Ats.cons' (DL.at_mk (x := "_law_table") rfl KX G ?a ?l ?c ?k) ?_
      (case a => k_is); (case l => k_is); (case c => k_is); (case k => k_is)
      refine' DL.Ats.cons' (DL.at_mk (x := "_law_row") rfl KX G ?a ?l ?c ?k) ?_
      (case a => k_is); (case l => k_is); (case c => k_is); (case k => k_is)
      refine' DL.Ats.cons' (DL.at_mk (x := "_law_compose") rfl KX G ?a ?l ?c ?k) ?_
      (case a => k_is); (case l => k_is); (case c => k_is); (case k => k_is)
      refine' DL.Ats.cons' (DL.at_mk (x := "_law_keeps") rfl KX G ?a ?l ?c ?k) ?_
      (case a => k_is); (case l => k_is); (case c => k_is); (case k => k_is)
      refine' DL.Ats.cons' (DL.at_mk (x := "_law_is_int") rfl KX G ?a ?l ?c ?k) ?_
      (case a => k_is); (case l => k_is); (case c => k_is); (case k => k_is)
      refine' DL.Ats.cons' (DL.at_mk (x := "_law_is_ints") rfl KX G ?a ?l ?c ?k) ?_
      (case a => k_is); (case l => k_is); (case c => k_is); (case k => k_is)
      refine' DL.Ats.cons' (DL.at_mk (x := "_law_is_rows") rfl KX G ?a ?l ?c ?k) ?_
      (case a => k_is); (case l => k_is); (case c => k_is); (case k => k_is)
      refine' DL.Ats.cons' (DL.at_mk (x := "_law_says") rfl KX G ?a ?l ?c ?k) ?_
      (case a => k_is); (case l => k_is); (case c => k_is); (case k => k_is)
      refine' DL.Ats.cons' (DL.at_mk (x := "_law_ahead") rfl KX G ?a ?l ?c ?k) ?_
      (case a => k_is); (case l => k_is); (case c => k_is); (case k => k_is)
      refine' DL.Ats.cons' (DL.at_mk (x := "_law_between") rfl KX G ?a ?l ?c ?k) ?_
      (case a => k_is); (case l => k_is); (case c => k_is); (case k => k_is)
      refine' DL.Ats.cons' (DL.at_mk (x := "_law_product") rfl KX G ?a ?l ?c ?k) ?_
      (case a => k_is); (case l => k_is); (case c => k_is); (case k => k_is)
      refine' DL.Ats.cons' (DL.at_mk (x := "_law_all_rows") rfl KX G ?a ?l ?c ?k) ?_
      (case a => k_is); (case l => k_is); (case c => k_is); (case k => k_is)
      refine' DL.Ats.cons' (DL.at_mk (x := "_law_from_some") rfl KX G ?a ?l ?c ?k) ?_
      (case a => k_is); (case l => k_is); (case c => k_is); (case k => k_is)
      refine' DL.Ats.cons' (DL.at_mk (x := "_law_is_way") rfl KX G ?a ?l ?c ?k) ?_
      (case a => k_is); (case l => k_is); (case c => k_is); (case k => k_is)
      refine' DL.Ats.cons' (DL.at_mk (x := "_law_told") rfl KX G ?a ?l ?c ?k) ?_
      (case a => k_is); (case l => k_is); (case c => k_is); (case k => k_is)
      refine' DL.Ats.cons' (DL.at_mk (x := "_law_walked") rfl KX G ?a ?l ?c ?k) ?_
      (case a => k_is); (case l => k_is); (case c => k_is); (case k => k_is)
      refine' DL.Ats.cons' (DL.at_mk (x := "_law_run") rfl KX G ?a ?l ?c ?k) ?_
      (case a => k_is); (case l => k_is); (case c => k_is); (case k => k_is)
      refine' DL.Ats.cons' (DL.at_mk (x := "_law_run_told") rfl KX G ?a ?l ?c ?k) ?_
      (case a => k_is); (case l => k_is); (case c => k_is); (case k => k_is)
      refine' DL.Ats.cons' (DL.at_mk (x := "_law_first_row") rfl KX G ?a ?l ?c ?k) ?_
      (case a => k_is); (case l => k_is); (case c => k_is); (case k => k_is)
      refine' DL.Ats.cons' (DL.at_mk (x := "_law_scaled") rfl KX G ?a ?l ?c ?k) ?_
      (case a => k_is); (case l => k_is); (case c => k_is); (case k => k_is)
      refine' DL.Ats.cons' (DL.at_mk (x := "law") rfl KX G ?a ?l ?c ?k) ?_
      (case a => k_is); (case l => k_is); (case c => k_is); (case k => k_is)
      exact DL.Ats.nil'
    case no_ =>
      refine' And.intro ?a ?_; (case a => k_is)
      refine' And.intro ?a ?_; (case a => k_is)
      refine' And.intro ?a ?_; (case a => k_is)
      refine' And.intro ?a ?_; (case a => k_is)
      refine' And.intro ?a ?_; (case a => k_is)
      refine' And.intro ?a ?_; (case a => k_is)
      refine' And.intro ?a ?_; (case a => k_is)
      refine' And.intro ?a ?_; (case a => k_is)
      refine' And.intro ?a ?_; (case a => k_is)
      refine' And.intro ?a ?_; (case a => k_is)
      refine' And.intro ?a ?_; (case a => k_is)
      refine' And.intro ?a ?_; (case a => k_is)
      refine' And.intro ?a ?_; (case a => k_is)
      refine' And.intro ?a ?_; (case a => k_is)
      refine' And.intro ?a ?_; (case a => k_is)
      refine' And.intro ?a ?_; (case a => k_is)
      refine' And.intro ?a ?_; (case a => k_is)
      refine' And.intro ?a ?_; (case a => k_is)
      refine' And.intro ?a ?_; (case a => k_is)
      refine' And.intro ?a ?_; (case a => k_is)
      exact trivial
    case gl_ =>
      exact trivial
