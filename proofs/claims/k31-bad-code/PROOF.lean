import PyProof.Rows.All
import Wide.All
import OpenK.AllK
import Wide.FinOn
import HandS.ForMost
import HandS.TupAny
import HandS.TupMul
import HandS.IsInst
import HandS.Walk
import HandS.Zip
import HandS.Flow
import HandS.Exc
import HandS.ExcOwn
import HandS.Style
import HandS.Text
import HandS.Rev
import HandS.More
import HandS.Wide
import KE.KRevSl
import KE.DataCmp
import KE.DataMinMax
import HandS.RevRange
import HandS.SortKw
import HandS.Dict
import KE.KDictKeyed
import KE.GoesEnum
import KE.GoesMore
import KE.KExcSuper
import KE.KSuper
import HandS.ExcInit
import HandS.ExcIs
import HandS.TryMany
import HandS.ExcCtx
import HandS.HotCalls
import KE.KExcIs
import HandS.RevTup
import HandS.CallSlots
import HandS.SetBool
import HandS.Strs
import HandS.Deep
import HandS.NoneIn
import KE.SortData
import KE.KDictCopyH
import HandS.DictComp
import HandS.WordsExc
import PySem.Challenge.RW_dwindleweb_k31_bad_code
set_option Elab.async false
set_option linter.all false
set_option maxRecDepth 1000000
/-! A small language of pure data and its weakest preconditions. -/
namespace DL
open PySem
/-- data: tuples whole, everything that may change by its address -/
inductive D where
  | non
  | bl (b : Bool)
  | int (i : Int)
  | str (x : Str)
  | tup (xs : List D)
  | ref (a : Nat)
  /-- a list that is only read -/
  | rl (xs : List D)
  deriving Inhabited
/-- what may stand at an address -/
inductive MO where
  | lst (xs : List D)
  /-- a dict -/
  | dct (es : List (D × D))
  /-- an object of a class of the text: its fields -/
  | ins (c : String) (fs : List (String × D))
/-- a field is set -/
def fput (f : String) (v : D) : List (String × D) → List (String × D)
  | [] => [(f, v)]
  | (g, w) :: r => if g = f then (g, v) :: r else (g, w) :: fput f v r
abbrev Mem := Nat → Option MO
def upd (M : Mem) (p : Nat) (o : MO) : Mem := fun a => if a = p then some o else M a
def drp (M : Mem) (p : Nat) : Mem := fun a => if a = p then none else M a
def Sub (M' M : Mem) : Prop := ∀ a o, M' a = some o → M a = some o
/-- an error: its class by name, its own fields -/
structure Xn where
  cls : String
  fs : List (String × D)
inductive Slot where
  | no
  | val (d : D)
  | own (p : Nat) (o : MO)
  /-- a caught error: its address, its class's, its dict's -/
  | exc (a cl : Nat) (d : Option Nat) (x : Xn)
abbrev Env := List Slot
abbrev QE := D → Mem → Prop
abbrev QX := Xn → Mem → Prop
abbrev QL := List D → Mem → Prop
/-- what the defs do, by number; the caught error that is at hand (its address, class, dict) -/
structure FS where
  go : Nat → List D → Mem → QE → QX → Prop
  pin : Nat → Nat → Option Nat → Prop
instance : CoeFun FS fun _ => Nat → List D → Mem → QE → QX → Prop := ⟨FS.go⟩
/-! ### data -/
mutual
def D.py : D → PyData
  | .non => .none
  | .bl b => .bool b
  | .int i => .int i
  | .str x => .str x
  | .tup xs => .tuple (D.pys xs)
  | .ref _ => .none
  | .rl _ => .none
def D.pys : List D → List PyData
  | [] => []
  | x :: xs => x.py :: D.pys xs
end
mutual
/-- no address in it, and at most n deep -/
def D.flat : Nat → D → Bool
  | _, .ref _ => false
  | _, .rl _ => false
  | 0, .tup _ => false
  | n + 1, .tup xs => D.flats n xs
  | _, .str x => PyData.strOk x
  | _, _ => true
def D.flats : Nat → List D → Bool
  | _, [] => true
  | n, x :: xs => D.flat n x && D.flats n xs
end
mutual
/-- Python's == of data without addresses -/
def D.eqv : D → D → Bool
  | .non, .non => true
  | .bl a, .bl b => a == b
  | .bl a, .int j => (if a then 1 else 0) == j
  | .int i, .bl b => i == (if b then 1 else 0)
  | .int i, .int j => decide (i = j)
  | .str x, .str y => decide (x = y)
  | .tup xs, .tup ys => D.eqvs xs ys
  | _, _ => false
def D.eqvs : List D → List D → Bool
  | [], [] => true
  | x :: xs, y :: ys => D.eqv x y && D.eqvs xs ys
  | _, _ => false
end
mutual
def D.beq : D → D → Bool
  | .non, .non => true
  | .bl a, .bl b => a == b
  | .int a, .int b => a == b
  | .str a, .str b => a == b
  | .tup xs, .tup ys => D.beqs xs ys
  | .ref a, .ref b => a == b
  | .rl xs, .rl ys => D.beqs xs ys
  | _, _ => false
def D.beqs : List D → List D → Bool
  | [], [] => true
  | x :: xs, y :: ys => D.beq x y && D.beqs xs ys
  | _, _ => false
end
mutual
theorem D.beq_eq : ∀ {x y : D}, D.beq x y = true → x = y
  | .non, y, h => by cases y <;> simp_all [D.beq]
  | .bl a, y, h => by cases y <;> simp_all [D.beq]
  | .int a, y, h => by cases y <;> simp_all [D.beq]
  | .str a, y, h => by cases y <;> simp_all [D.beq]
  | .ref a, y, h => by cases y <;> simp_all [D.beq]
  | .tup xs, y, h => by
    cases y with
    | tup ys => rw [D.beqs_eq (xs := xs) (ys := ys) (by simpa [D.beq] using h)]
    | _ => simp [D.beq] at h
  | .rl xs, y, h => by
    cases y with
    | rl ys => rw [D.beqs_eq (xs := xs) (ys := ys) (by simpa [D.beq] using h)]
    | _ => simp [D.beq] at h
theorem D.beqs_eq : ∀ {xs ys : List D}, D.beqs xs ys = true → xs = ys
  | [], [], _ => rfl
  | [], _ :: _, h => by simp [D.beqs] at h
  | _ :: _, [], h => by simp [D.beqs] at h
  | x :: xs, y :: ys, h => by
    have h' : D.beq x y = true ∧ D.beqs xs ys = true := by simpa [D.beqs] using h
    rw [D.beq_eq h'.1, D.beqs_eq h'.2]
end
mutual
/-- may stand within a tuple that is a key of a dict -/
def D.kt : Nat → D → Bool
  | _, .non => true
  | _, .int _ => true
  | n + 1, .tup xs => D.kts n xs
  | _, _ => false
def D.kts : Nat → List D → Bool
  | _, [] => true
  | n, x :: xs => D.kt n x && D.kts n xs
end
/-- keys that are no tuples -/
def D.plain : D → Bool
  | .int _ => true | .str _ => true | _ => false
def D.keyOk : D → Bool
  | .int _ => true | .str _ => true | .tup xs => D.kt 8 (.tup xs) | _ => false
/-- the key may be asked of this dict -/
def DkOk (es : List (D × D)) (k : D) : Prop := k.keyOk = true ∧ ∀ p ∈ es, p.1.keyOk = true ∧ p.1.plain = k.plain
def dget (es : List (D × D)) (k : D) : Option D := (es.find? fun p => D.beq p.1 k).map (·.2)
def dput (es : List (D × D)) (k v : D) : List (D × D) := if es.any (fun p => D.beq p.1 k) = true then es.map (fun p => if D.beq p.1 k = true then (p.1, v) else p) else es ++ [(k, v)]
inductive BOp where | add | sub | mul | fdiv | mod | pow | shl | shr | band | bor | bxor
inductive COp where | eq | ne | lt | le | gt | ge | isN | notN | inn | notin
def CMulD (i j : Int) : Prop := (-(2 ^ 64) < i ∧ i < 2 ^ 64) ∨ (-(2 ^ 64) < j ∧ j < 2 ^ 64)
/-- by what // may divide -/
def DivOk (j : Int) : Prop := 0 < j ∧ j.natAbs.log2 < 9000
theorem DivOk.of {j : Int} (h : 0 < j) (h2 : j < 2 ^ 100) : DivOk j := by
  have h3 : j.natAbs < 2 ^ 100 := by omega
  have h4 : j.natAbs.log2 < 100 := PySem.Flt.log2_lt_of (by decide) h3
  exact ⟨h, by omega⟩
def wBin : BOp → D → D → (D → Prop) → Prop
  | .add, .int i, .int j, Q => Q (.int (i + j))
  | .add, .str x, .str y, Q => x.length + y.length ≤ sizeLine ∧ Q (.str (x ++ y))
  | .add, .tup xs, .tup ys, Q => xs.length + ys.length ≤ sizeLine ∧ Q (.tup (xs ++ ys))
  | .sub, .int i, .int j, Q => Q (.int (i - j))
  | .mul, .int i, .int j, Q => CMulD i j ∧ Q (.int (i * j))
  | .mul, .tup xs, .int k, Q => (xs ≠ [] ∧ 2 ≤ k ∧ k ≤ 1000 ∧ xs.length ≤ 1000) ∧ Q (.tup (List.replicate k.toNat xs).flatten)
  | .fdiv, .int i, .int j, Q => DivOk j ∧ Q (.int (i / j))
  | .mod, .int i, .int j, Q => 0 < j ∧ Q (.int (i % j))
  | .pow, .int i, .int j, Q => (0 ≤ j ∧ j ≤ 1000000 ∧ i.natAbs < 2 ^ 64) ∧ Q (.int (i ^ j.toNat))
  | .shl, .int i, .int j, Q => (0 ≤ j ∧ j ≤ 1000000 ∧ i.natAbs < 2 ^ 64) ∧ Q (.int (i * 2 ^ j.toNat))
  | .shr, .int i, .int j, Q => 0 ≤ j ∧ Q (.int (i / 2 ^ j.toNat))
  | .band, .int i, .int j, Q => Q (.int (Builtin.bitAnd i j))
  | .bor, .int i, .int j, Q => Q (.int (Builtin.bitOr i j))
  | .bxor, .int i, .int j, Q => Q (.int (Builtin.bitXor i j))
  | _, _, _, _ => False
/-- x op= y -/
def wAug (o : BOp) (x y : D) (Q : D → Prop) : Prop := match x, o with
  | .int _, .fdiv => (match y with | .int j => j < 1073741824 | _ => False) ∧ wBin o x y Q
  | .int _, .add | .int _, .sub | .int _, .mul | .int _, .mod | .str _, .add => wBin o x y Q
  | _, _ => False
/-- one text stands within another -/
def inStr (x y : Str) : Bool := !(Builtin.Str.occurrences y x 0 y.length 1).isEmpty
def wCmp : COp → D → D → Mem → (Bool → Prop) → Prop
  | .eq, .str x, .str y, _, Q => Q (decide (x = y))
  | .ne, .str x, .str y, _, Q => Q (!decide (x = y))
  | .eq, .ref a, .ref b, M, Q => ∃ xs ys, M a = some (.lst xs) ∧ M b = some (.lst ys) ∧ (D.flats 58 xs = true ∧ D.flats 58 ys = true) ∧ Q (D.eqvs xs ys)
  | .ne, .ref a, .ref b, M, Q => ∃ xs ys, M a = some (.lst xs) ∧ M b = some (.lst ys) ∧ (D.flats 58 xs = true ∧ D.flats 58 ys = true) ∧ Q (!D.eqvs xs ys)
  | .eq, x, y, _, Q => (D.flat 60 x = true ∧ D.flat 60 y = true) ∧ Q (D.eqv x y)
  | .ne, x, y, _, Q => (D.flat 60 x = true ∧ D.flat 60 y = true) ∧ Q (!D.eqv x y)
  | .lt, .int i, .int j, _, Q => Q (decide (i < j))
  | .lt, .str x, .str y, _, Q => Q (decide (x.cps.toList < y.cps.toList))
  | .le, .int i, .int j, _, Q => Q (decide (i ≤ j))
  | .gt, .int i, .int j, _, Q => Q (decide (j < i))
  | .ge, .int i, .int j, _, Q => Q (decide (j ≤ i))
  | .isN, .bl a, .bl b, _, Q => Q (decide (a = b))
  | .notN, .bl a, .bl b, _, Q => Q (!decide (a = b))
  | .isN, .non, .non, _, Q => Q true
  | .isN, _, .non, _, Q => Q false
  | .notN, .non, .non, _, Q => Q false
  | .notN, _, .non, _, Q => Q true
  | .inn, .str x, .str y, _, Q => Q (inStr x y)
  | .notin, .str x, .str y, _, Q => Q (!inStr x y)
  | .inn, x, .tup ys, _, Q => (D.flat 60 x = true ∧ D.flats 60 ys = true) ∧ Q (ys.any fun y => D.eqv y x)
  | .notin, x, .tup ys, _, Q => (D.flat 60 x = true ∧ D.flats 60 ys = true) ∧ Q (!ys.any fun y => D.eqv y x)
  | .inn, x, .ref a, M, Q => ∃ ys, M a = some (.lst ys) ∧ (D.flat 60 x = true ∧ D.flats 60 ys = true) ∧ Q (ys.any fun y => D.eqv y x)
  | .notin, x, .ref a, M, Q => ∃ ys, M a = some (.lst ys) ∧ (D.flat 60 x = true ∧ D.flats 60 ys = true) ∧ Q (!ys.any fun y => D.eqv y x)
  | .lt, .tup xs, .tup ys, _, Q => (D.flat 60 (.tup xs) = true ∧ D.flat 60 (.tup ys) = true ∧ PySem.W.alike (D.py (.tup xs)) (D.py (.tup ys)) = true) ∧ Q (PySem.W.dataLt (D.py (.tup xs)) (D.py (.tup ys)))
  | _, _, _, _, _ => False
/-- truth -/
def wTru : D → Mem → (Bool → Prop) → Prop
  | .non, _, Q => Q false
  | .bl b, _, Q => Q b
  | .int i, _, Q => Q (i != 0)
  | .str x, _, Q => x.length ≤ sizeLine ∧ Q ((x.length : Int) != 0)
  | .tup xs, _, Q => Q (!xs.isEmpty)
  | .ref a, M, Q => ∃ xs, M a = some (.lst xs) ∧ Q (!xs.isEmpty)
  | .rl _, _, _ => False
def wIdx : D → D → Mem → (D → Prop) → Prop
  | .tup xs, .int i, _, Q => ∃ v, L2.atI xs i = some v ∧ Q v
  | .str z, .int i, _, Q => z.length ≤ sizeLine ∧ ∃ c, L2.atI z.cps.toList i = some c ∧ Q (.str ⟨#[c]⟩)
  | .ref a, .int i, M, Q => ∃ xs v, M a = some (.lst xs) ∧ L2.atI xs i = some v ∧ Q v
  | _, _, _, _ => False
def cutD (xs : List D) (lo hi : Option Int) : List D := (xs.drop (HT.sIx xs.length 0 lo)).take (HT.sIx xs.length xs.length hi - HT.sIx xs.length 0 lo)
inductive Ty where | int | bool | str | tuple | list
/-- isinstance(x, T) -/
def D.isa : D → Ty → Bool
  | .bl _, .int => true
  | .bl _, .bool => true
  | .int _, .int => true
  | .str _, .str => true
  | .tup _, .tuple => true
  | _, _ => false
/-- built-ins on values -/
inductive Blt where | len | int | bool | abs | max | min | tuple | isa (t : Ty) | str
def wBlt : Blt → List D → Mem → (D → Prop) → Prop
  | .len, [.tup xs], _, Q => Q (.int xs.length)
  | .len, [.str x], _, Q => x.length ≤ sizeLine ∧ Q (.int x.length)
  | .len, [.ref a], M, Q => ∃ xs, M a = some (.lst xs) ∧ Q (.int xs.length)
  | .int, [.int i], _, Q => Q (.int i)
  | .int, [.bl b], _, Q => Q (.int (if b then 1 else 0))
  | .bool, [.bl b], _, Q => Q (.bl b)
  | .bool, [.int i], _, Q => Q (.bl (i != 0))
  | .abs, [.int i], _, Q => Q (.int (if i < 0 then -i else i))
  | .max, [.int i, .int j], _, Q => Q (.int (max i j))
  | .max, [.int i, .int j, .int k], _, Q => Q (.int (max (max i j) k))
  | .min, [.int i, .int j], _, Q => Q (.int (min i j))
  | .max, [.tup xs], _, Q => ∃ ns : List Int, xs = ns.map D.int ∧ 0 < ns.length ∧ ∀ m, m ∈ ns → (∀ y, y ∈ ns → y ≤ m) → Q (.int m)
  | .min, [.tup xs], _, Q => ∃ ns : List Int, xs = ns.map D.int ∧ 0 < ns.length ∧ ∀ m, m ∈ ns → (∀ y, y ∈ ns → m ≤ y) → Q (.int m)
  | .tuple, [.tup xs], _, Q => Q (.tup xs)
  | .tuple, [.ref a], M, Q => ∃ xs, M a = some (.lst xs) ∧ Q (.tup xs)
  | .isa t, [.ref a], M, Q => (∃ xs, M a = some (.lst xs)) ∧ Q (.bl (match t with | .list => true | _ => false))
  | .isa _, [.rl _], _, _ => False
  | .isa t, [x], _, Q => Q (.bl (x.isa t))
  | .str, [.int i], _, Q => i.natAbs.log2 < 1920 ∧ Q (.str (toString i : String))
  | _, _, _, _ => False
/-- what takes a list at once -/
inductive LK where | tuple | all | any | len | sum | max | min
def allBl : List D → Option Bool
  | [] => some true
  | .bl b :: xs => (allBl xs).map fun c => b && c
  | _ => none
def anyBl : List D → Option Bool
  | [] => some false
  | .bl b :: xs => (anyBl xs).map fun c => b || c
  | _ => none
def sumD : List D → Option Int
  | [] => some 0
  | .int i :: xs => (sumD xs).map fun s => i + s
  | _ => none
def wLK : LK → List D → (D → Prop) → Prop
  | .tuple, xs, Q => Q (.tup xs)
  | .len, xs, Q => Q (.int xs.length)
  | .all, xs, Q => ∃ b, allBl xs = some b ∧ Q (.bl b)
  | .any, xs, Q => ∃ b, anyBl xs = some b ∧ Q (.bl b)
  | .sum, xs, Q => ∃ s, sumD xs = some s ∧ Q (.int s)
  | .max, xs, Q => ∃ ns : List Int, xs = ns.map D.int ∧ 0 < ns.length ∧ ∀ m, m ∈ ns → (∀ y, y ∈ ns → y ≤ m) → Q (.int m)
  | .min, xs, Q => ∃ ns : List Int, xs = ns.map D.int ∧ 0 < ns.length ∧ ∀ m, m ∈ ns → (∀ y, y ∈ ns → m ≤ y) → Q (.int m)
/-- data that sorted() can put in order -/
def srtD (xs : List D) : Prop := D.flats 40 xs = true ∧ (∀ x ∈ xs, ∀ y ∈ xs, PySem.W.alike x.py y.py = true) ∧ ((∀ x ∈ xs, ∃ u us, x = .tup (u :: us)) ∨ ∀ x ∈ xs, (∃ i, x = .int i) ∨ ∃ t, x = .str t)
def wSrtD (xs : List D) (Q : List D → Prop) : Prop := srtD xs ∧ ∀ ys : List D, ys.Perm xs → ys.Pairwise (fun x y => PySem.W.dataLt y.py x.py = false) → Q ys
/-- sorted(xs) -/
def wSorted (xs : List D) (Q : List D → Prop) : Prop :=
  (∃ ns : List Int, xs = ns.map D.int ∧ ns.length < 64 ∧ ∀ ns' : List Int, ns'.Perm ns → ns'.Pairwise (· ≤ ·) → Q (ns'.map D.int)) ∨
  (∃ ns : List Str, xs = ns.map D.str ∧ ns.length < 64 ∧ ∀ ns' : List Str, ns'.Perm ns → PyProof.Rows.sortedS ns' = true → Q (ns'.map D.str)) ∨ wSrtD xs Q
/-- x[lo:hi] -/
def wSlc : D → Option Int → Option Int → Mem → (D → Mem → Prop) → Prop
  | .tup xs, l, h, M, Q => Q (.tup (cutD xs l h)) M
  | .str z, l, h, M, Q => z.length ≤ sizeLine ∧ Q (.str (L2.cutS z l h)) M
  | .ref a, l, h, M, Q => ∃ xs, M a = some (.lst xs) ∧ ∀ p, M p = none → Q (.ref p) (upd M p (.lst (cutD xs l h)))
  | _, _, _, _, _ => False
/-- methods -/
inductive Mth where | append | pop | popAt | reverse | extend | insert | split | join
def Mth.lst : Mth → Bool
  | .split => false
  | .join => false
  | _ => true
def wTy (m : Mth) (x : D) (M : Mem) : Prop := match m.lst with
  | true => ∃ a xs, x = .ref a ∧ M a = some (.lst xs)
  | false => ∃ s, x = .str s
def wMth : Mth → D → List D → Mem → QE → Prop
  | .append, .ref a, [y], M, Q => ∃ xs, M a = some (.lst xs) ∧ xs.length < sizeLine ∧ Q .non (upd M a (.lst (xs ++ [y])))
  | .pop, .ref a, [], M, Q => ∃ xs y, M a = some (.lst xs) ∧ xs.getLast? = some y ∧ Q y (upd M a (.lst xs.dropLast))
  | .popAt, .ref a, [.int i], M, Q => ∃ xs k y, M a = some (.lst xs) ∧ (-(2 ^ 63) ≤ i ∧ i < 2 ^ 63) ∧ L2.ixN xs.length i = some k ∧ xs[k]? = some y ∧ Q y (upd M a (.lst (xs.eraseIdx k)))
  | .reverse, .ref a, [], M, Q => ∃ xs, M a = some (.lst xs) ∧ Q .non (upd M a (.lst xs.reverse))
  | .extend, .ref a, [.ref b], M, Q => ∃ xs ys, M a = some (.lst xs) ∧ M b = some (.lst ys) ∧ xs.length + ys.length ≤ sizeLine ∧ Q .non (upd M a (.lst (xs ++ ys)))
  | .insert, .ref a, [.int i, y], M, Q => ∃ xs, M a = some (.lst xs) ∧ xs.length < sizeLine ∧ (0 ≤ i ∧ i < 2 ^ 63) ∧ Q .non (upd M a (.lst (xs.take i.toNat ++ [y] ++ xs.drop i.toNat)))
  | .split, .str a, [.str b], M, Q => (b.length == 0) = false ∧ a.length + 2 ≤ sizeLine ∧ ∀ p, M p = none → Q (.ref p) (upd M p (.lst ((Txt.split a b).map D.str)))
  | .join, .str a, [.ref b], M, Q => ∃ ys : List Str, M b = some (.lst (ys.map D.str)) ∧ (ys.map (·.length)).sum + ys.length * a.length ≤ 16777216 ∧ Q (.str (Txt.join a ys)) M
  | .join, .str a, [.tup xs], M, Q => ∃ ys : List Str, xs = ys.map D.str ∧ (ys.map (·.length)).sum + ys.length * a.length ≤ 16777216 ∧ Q (.str (Txt.join a ys)) M
  | _, _, _, _, _ => False
inductive Tg where | nm (i : Nat) | tp (is : List Nat) | np (i : Nat) (is : List Nat)
def setAll : Env → List Nat → List D → Env
  | env, i :: is, d :: ds => setAll (env.set i (.val d)) is ds
  | env, _, _ => env
def wTg : Tg → D → Env → (Env → Prop) → Prop
  | .nm i, d, env, Q => Q (env.set i (.val d))
  | .tp is, .tup xs, env, Q => xs.length = is.length ∧ Q (setAll env is xs)
  | .np i is, .tup [d, .tup xs], env, Q => xs.length = is.length ∧ Q (setAll (env.set i (.val d)) is xs)
  | _, _, _, _ => False
def Tg.slots : Tg → List Nat
  | .nm i => [i]
  | .tp is => is
  | .np i is => i :: is
def wipeE (env : Env) : List Nat → Env
  | [] => env
  | v :: vs => (wipeE env vs).set v .no
/-! ### the language -/
mutual
inductive IE where
  | var (i : Nat)
  | cst (d : D)
  | glb (x : String) (d : D)
  | bin (o : BOp) (a b : IE)
  | neg (a : IE)
  | inv (a : IE)
  | cmp (o : COp) (a b : IE)
  | chn (o o' : COp) (a b c : IE)
  | and (a b : IE)
  | or (a b : IE)
  | not (a : IE)
  | ifx (c : IT) (a b : IE)
  | tup (es : IEs)
  | idx (a i : IE)
  | slc (a : IE) (lo hi : IO)
  | rev (a : IE)
  | revL (a : IE)
  | rev0 (a : IE)
  | tupRev (l : IL)
  | tupRevT (a : IE)
  | sorted (l : IL)
  | sortK (d : IE)
  | cat (a b : IE)
  | repL (a b : IE)
  | meth (m : Mth) (o : IE) (es : IEs)
  | dead
  | blt (b : Blt) (es : IEs)
  | lk (k : LK) (l : IL)
  | lidx (l : IL) (i : IE)
  | linn (neg : Bool) (x : IE) (l : IL)
  | mk (n : IN)
  | maxd (mn : Bool) (l : IL) (i : Int)
  | dnew
  | ddisp (k v : IE)
  | indexM (o x : IE)
  | indexO (i : Nat) (x : IE)
  /-- sorted({elt for tg in it for tg1 in it1}), whole numbers from 0 to 62 -/
  | srtSet (elt : IE) (tg : Tg) (it : II) (tg1 : Tg) (it1 : II)
  | dget (d k : IE)
  | din (neg : Bool) (k d : IE)
  | dgetd (d k x : IE)
  | dget1 (d k : IE)
  | call (f : Nat) (as : IAs)
  /-- a field of an object of class c; a new object (f: its __init__); o.m(..), the def f -/
  | fld (c f : String) (o : IE)
  | make (c : String) (f : Nat) (as : IAs)
  | mcall (c m : String) (f : Nat) (o : IE) (as : IAs)
  /-- a field of a caught error; isinstance of it: own classes and built-in ones that are asked, yes and no for which classes -/
  | xfld (i : Nat) (f : String)
  | xisa (i : Nat) (cs : List String) (tup : Bool) (yes no : List String)
inductive IEs where
  | nil
  | cons (e : IE) (es : IEs)
/-- a test -/
inductive IT where
  | v (e : IE)
  | not (a : IT)
  | and (a b : IT)
  | or (a b : IT)
inductive IO where
  | no
  | at (e : IE)
inductive IAs where
  | nil
  | cons (e : IE) (as : IAs)
  | tmp (n : IN) (as : IAs)
  | lend (i : Nat) (as : IAs)
/-- a list that may be read -/
inductive IL where
  | new (n : IN)
  | own (i : Nat)
  | ref (e : IE)
/-- a new list -/
inductive IN where
  | disp (es : IEs)
  | comp (elt : IE) (tg : Tg) (it : II) (ifs : Option IT)
  | comp2 (elt : IE) (tg : Tg) (it : II) (tg1 : Tg) (it1 : II) (ifs1 : Option IT)
  | copy (l : IL)
  | copyT (e : IE)
  | slc (l : IL) (lo hi : IO)
/-- what is walked -/
inductive II where
  | dyn (e : IE)
  | new (n : IN)
  | own (i : Nat)
  | range (e : IE)
  | range2 (a b : IE)
  | zip (a b : IE)
  | enum (e : IE)
  | rev (e : IE)
  | revR (a b : IE)
end
mutual
inductive IS where
  | pass | brk | cnt
  | ret (e : IE)
  | retN
  | retO (i : Nat)
  | exp (e : IE)
  | asg (t : Tg) (e : IE)
  | unl (is : List Nat) (e : IE)
  | asgN (i : Nat) (n : IN)
  | asgM (i : Nat) (n : IN)
  | par (i j : Nat) (a b : IE)
  | aug (i : Nat) (o : BOp) (e : IE)
  | app (i : Nat) (e : IE)
  | set (i : Nat) (k e : IE)
  | pop (i j : Nat)
  | mapp (l e : IE)
  | mset (l k e : IE)
  | maug (l k : IE) (o : BOp) (e : IE)
  | dset (d k e : IE)
  | fset (c f : String) (o e : IE)
  | ite (c : IT) (t e : List IS)
  | whl (c : IT) (b : List IS)
  | for_ (t : Tg) (it : II) (b : List IS)
  | dead
  /-- raise c(es ..), c's fields -/
  | raise (c : String) (fl : List String) (es : IEs)
  | try_ (b : List IS) (hs : IHs)
/-- except c as i: b; caught: just the classes yes, not: no -/
inductive IHs where
  | nil
  | cons (c : String) (yes no : List String) (i : Option Nat) (b : List IS) (hs : IHs)
end
/-! ### loops -/
/-- a comprehension's turns: el gives the item, or nothing -/
def wCmpr (ok : Mem → Prop) (el : D → Mem → (Option D → Mem → Prop) → Prop) : List D → Mem → QL → Prop
  | [], M, Q => ok M ∧ Q [] M
  | x :: xs, M, Q => ok M ∧ el x M fun r M' => match r with
    | some y => wCmpr ok el xs M' fun ys M'' => Q (y :: ys) M''
    | none => wCmpr ok el xs M' Q
/-- the first place of an equal one -/
def wIdxOf (xs : List D) (y : D) (Q : Nat → Prop) : Prop := D.flat 60 y = true ∧ D.flats 58 xs = true ∧ ∃ j, (∃ z, xs[j]? = some z ∧ D.eqv z y = true) ∧ (∀ m z, m < j → xs[m]? = some z → D.eqv z y = false) ∧ Q j
theorem wIdxOf_mono {xs : List D} {y : D} {Q Q' : Nat → Prop} (h : ∀ j, Q j → Q' j) (w : wIdxOf xs y Q) : wIdxOf xs y Q' := by
  obtain ⟨f, g, j, e, n, q⟩ := w
  exact ⟨f, g, j, e, n, h _ q⟩
/-- the turns of a comprehension's first clause: el gives the items of a turn; n: the items so far -/
def wCmp2 (ok : Mem → Prop) (el : Nat → D → Mem → (List D → Mem → Prop) → Prop) : Nat → List D → Mem → QL → Prop
  | _, [], M, Q => ok M ∧ Q [] M
  | n, x :: xs, M, Q => ok M ∧ el n x M fun ys M' => wCmp2 ok el (n + ys.length) xs M' fun zs M'' => Q (ys ++ zs) M''
structure Kt where
  nx : Env → Mem → Prop
  rt : QE
  bk : Env → Mem → Prop
  ct : Env → Mem → Prop
  xc : Xn → Env → Mem → Prop
def wFor (ok : Env → Mem → Prop) (bd : D → Env → Mem → Kt → Prop) : List D → Env → Mem → Kt → Prop
  | [], env, M, K => ok env M ∧ K.nx env M
  | x :: xs, env, M, K => ok env M ∧ bd x env M { K with nx := fun e m => wFor ok bd xs e m K, ct := fun e m => wFor ok bd xs e m K, bk := K.nx }
def wWhl (c : Env → Mem → (Bool → Mem → Prop) → (Xn → Env → Mem → Prop) → Prop) (bd : Env → Mem → Kt → Prop) (env : Env) (M : Mem) (K : Kt) : Prop :=
  ∃ W : Nat → Env → Mem → Prop, (∃ m, W m env M) ∧ ∀ m env M, W m env M → c env M (fun b M1 => if b = true then
    bd env M1 { K with nx := fun e' M' => ∃ m', m' < m ∧ W m' e' M', ct := fun e' M' => ∃ m', m' < m ∧ W m' e' M', bk := K.nx } else K.nx env M1) K.xc
def drps (M : Mem) : List (Nat × Option MO) → Mem
  | [] => M
  | (p, _) :: r => drp (drps M r) p
def backs (M : Mem) : List (Nat × Option MO) → Prop
  | [] => True
  | (p, some o) :: r => drps M r p = some o ∧ backs M r
  | (_, none) :: r => backs M r
abbrev X0 : QX := fun _ _ => False
/-- the items of what is walked, and what has to stay so -/
def wIt : D → Mem → (List D → (Env → Mem → Prop) → Prop) → Prop
  | .tup xs, _, Q => Q xs fun _ _ => True
  | .rl xs, _, Q => Q xs fun _ _ => True
  | .str z, _, Q => Q (z.cps.toList.map fun c => .str ⟨#[c]⟩) fun _ _ => True
  | .ref a, M, Q => ∃ xs, M a = some (.lst xs) ∧ Q xs fun _ M' => M' a = some (.lst xs)
  | _, _, _ => False
def wZip : D → D → Mem → (List D → (Env → Mem → Prop) → Prop) → Prop
  | .tup xs, .tup ys, _, Q => Q (List.zipWith (fun u v => .tup [u, v]) xs ys) fun _ _ => True
  | .ref a, .ref b, M, Q => ∃ xs ys, M a = some (.lst xs) ∧ M b = some (.lst ys) ∧ Q (List.zipWith (fun u v => .tup [u, v]) xs ys) fun _ M' => M' a = some (.lst xs) ∧ M' b = some (.lst ys)
  | .tup xs, .ref b, M, Q => ∃ ys, M b = some (.lst ys) ∧ Q (List.zipWith (fun u v => .tup [u, v]) xs ys) fun _ M' => M' b = some (.lst ys)
  | _, _, _, _ => False
def wEnum : D → Mem → (List D → (Env → Mem → Prop) → Prop) → Prop
  | .tup xs, _, Q => Q (xs.mapIdx fun i x => .tup [.int i, x]) fun _ _ => True
  | .ref a, M, Q => ∃ xs, M a = some (.lst xs) ∧ Q (xs.mapIdx fun i x => .tup [.int i, x]) fun _ M' => M' a = some (.lst xs)
  | _, _, _ => False
def wRevIt : D → Mem → (List D → (Env → Mem → Prop) → Prop) → Prop
  | .tup xs, _, Q => Q xs.reverse fun _ _ => True
  | .ref a, M, Q => ∃ xs, M a = some (.lst xs) ∧ Q xs.reverse fun _ M' => M' a = some (.lst xs)
  | _, _, _ => False
theorem wRevIt_mono {d : D} {M : Mem} {Q Q' : List D → (Env → Mem → Prop) → Prop} (h : ∀ a b, Q a b → Q' a b) (w : wRevIt d M Q) : wRevIt d M Q' := by
  cases d <;> simp only [wRevIt] at w ⊢ <;> first | exact h _ _ w | (obtain ⟨xs, e, q⟩ := w; exact ⟨xs, e, h _ _ q⟩)
theorem wMth_mono {m : Mth} {x : D} {ds : List D} {M : Mem} {Q Q' : QE} (h : ∀ a b, Q a b → Q' a b) (w : wMth m x ds M Q) : wMth m x ds M Q' := by
  unfold wMth at w ⊢
  split at w
  · obtain ⟨xs, h1, h2, q⟩ := w; exact ⟨xs, h1, h2, h _ _ q⟩
  · obtain ⟨xs, y, h1, h2, q⟩ := w; exact ⟨xs, y, h1, h2, h _ _ q⟩
  · obtain ⟨xs, k, y, h1, h2, h3, h4, q⟩ := w; exact ⟨xs, k, y, h1, h2, h3, h4, h _ _ q⟩
  · obtain ⟨xs, h1, q⟩ := w; exact ⟨xs, h1, h _ _ q⟩
  · obtain ⟨xs, ys, h1, h2, h3, q⟩ := w; exact ⟨xs, ys, h1, h2, h3, h _ _ q⟩
  · obtain ⟨xs, h1, h2, h3, q⟩ := w; exact ⟨xs, h1, h2, h3, h _ _ q⟩
  · obtain ⟨h1, h2, q⟩ := w; exact ⟨h1, h2, fun p hp => h _ _ (q p hp)⟩
  · obtain ⟨ys, h1, h2, q⟩ := w; exact ⟨ys, h1, h2, h _ _ q⟩
  · obtain ⟨ys, h1, h2, q⟩ := w; exact ⟨ys, h1, h2, h _ _ q⟩
  · exact w.elim
theorem wIt_mono {d : D} {M : Mem} {Q Q' : List D → (Env → Mem → Prop) → Prop} (h : ∀ a b, Q a b → Q' a b) (w : wIt d M Q) : wIt d M Q' := by
  cases d <;> simp only [wIt] at w ⊢ <;> first | exact h _ _ w | (obtain ⟨xs, e, q⟩ := w; exact ⟨xs, e, h _ _ q⟩)
theorem wZip_mono {d e : D} {M : Mem} {Q Q' : List D → (Env → Mem → Prop) → Prop} (h : ∀ a b, Q a b → Q' a b) (w : wZip d e M Q) : wZip d e M Q' := by
  cases d <;> cases e <;> simp only [wZip] at w ⊢ <;> first | exact h _ _ w | (obtain ⟨xs, ys, e, e2, q⟩ := w; exact ⟨xs, ys, e, e2, h _ _ q⟩) | (obtain ⟨ys, e, q⟩ := w; exact ⟨ys, e, h _ _ q⟩)
theorem wEnum_mono {d : D} {M : Mem} {Q Q' : List D → (Env → Mem → Prop) → Prop} (h : ∀ a b, Q a b → Q' a b) (w : wEnum d M Q) : wEnum d M Q' := by
  cases d <;> simp only [wEnum] at w ⊢ <;> first | exact h _ _ w | (obtain ⟨xs, e, q⟩ := w; exact ⟨xs, e, h _ _ q⟩)
/-! ### weakest preconditions -/
section
variable (F : FS)
mutual
def wE : IE → Env → Mem → QE → QX → Prop
  | .var i, env, M, Q, _ => ∃ d, env[i]? = some (.val d) ∧ Q d M
  | .cst d, _, M, Q, _ => Q d M
  | .glb _ d, _, M, Q, _ => Q d M
  | .bin o a b, env, M, Q, E => wE a env M (fun x M1 => wE b env M1 (fun y M2 => wBin o x y fun z => Q z M2) E) E
  | .cat a b, env, M, Q, E => wE a env M (fun x M1 => wE b env M1 (fun y M2 => ∃ p q xs ys, x = .ref p ∧ y = .ref q ∧ M2 p = some (.lst xs) ∧ M2 q = some (.lst ys) ∧ xs.length + ys.length ≤ sizeLine ∧ ∀ r, M2 r = none → Q (.ref r) (upd M2 r (.lst (xs ++ ys)))) E) E
  | .repL a b, env, M, Q, E => wE a env M (fun x M1 => wE b env M1 (fun y M2 => ∃ p xs, ∃ k : Int, x = .ref p ∧ y = .int k ∧ M2 p = some (.lst xs) ∧ (-(2 ^ 63) ≤ k ∧ k < 2 ^ 63) ∧ xs.length * k.toNat ≤ sizeLine ∧ ∀ r, M2 r = none → Q (.ref r) (upd M2 r (.lst (List.replicate k.toNat xs).flatten))) E) E
  | .neg a, env, M, Q, E => wE a env M (fun x M1 => ∃ i, x = .int i ∧ Q (.int (-i)) M1) E
  | .inv a, env, M, Q, E => wE a env M (fun x M1 => ∃ i, x = .int i ∧ Q (.int (-i - 1)) M1) E
  | .cmp o a b, env, M, Q, E => wE a env M (fun x M1 => wE b env M1 (fun y M2 => wCmp o x y M2 fun z => Q (.bl z) M2) E) E
  | .chn o o' a b c, env, M, Q, E => wE a env M (fun x M1 => wE b env M1 (fun y M2 => wCmp o x y M2 fun k =>
      if k = true then wE c env M2 (fun z M3 => wCmp o' y z M3 fun k' => Q (.bl k') M3) E else Q (.bl false) M2) E) E
  | .and a b, env, M, Q, E => wE a env M (fun x M1 => ∃ k, x = .bl k ∧ if k = true then wE b env M1 Q E else Q (.bl false) M1) E
  | .or a b, env, M, Q, E => wE a env M (fun x M1 => ∃ k, x = .bl k ∧ if k = true then Q (.bl true) M1 else wE b env M1 Q E) E
  | .not a, env, M, Q, E => wE a env M (fun x M1 => ∃ k, x = .bl k ∧ Q (.bl (!k)) M1) E
  | .ifx c a b, env, M, Q, E => wT c env M (fun k M1 => if k = true then wE a env M1 Q E else wE b env M1 Q E) E
  | .tup es, env, M, Q, E => wEs es env M (fun ds M1 => ds.length ≤ sizeLine ∧ Q (.tup ds) M1) E
  | .idx a i, env, M, Q, E => wE a env M (fun x M1 => wE i env M1 (fun y M2 => wIdx x y M2 fun z => Q z M2) E) E
  | .slc a lo hi, env, M, Q, E => wE a env M (fun x M1 => wO lo env M1 (fun l M2 => wO hi env M2 (fun h M3 => wSlc x l h M3 Q) E) E) E
  | .rev a, env, M, Q, E => wE a env M (fun x M1 => ∃ xs, x = .tup xs ∧ Q (.tup xs.reverse) M1) E
  | .revL a, env, M, Q, E => wE a env M (fun x M1 => ∃ a xs, x = .ref a ∧ M1 a = some (.lst xs) ∧ ∀ p, M1 p = none → Q (.ref p) (upd M1 p (.lst xs.reverse))) E
  | .rev0 a, env, M, Q, E => wE a env M (fun x M1 => ∃ xs, x = .tup xs ∧ Q (.tup (xs.drop 1).reverse) M1) E
  | .tupRev l, env, M, Q, E => wL l env M (fun xs M1 => Q (.tup xs.reverse) M1) E
  | .tupRevT a, env, M, Q, E => wE a env M (fun x M1 => ∃ xs, x = .tup xs ∧ Q (.tup xs.reverse) M1) E
  | .sorted l, env, M, Q, E => wL l env M (fun xs M1 => wSorted xs fun ys => ∀ p, M1 p = none → Q (.ref p) (upd M1 p (.lst ys))) E
  | .sortK d, env, M, Q, E => wE d env M (fun x M1 => ∃ a es, x = .ref a ∧ M1 a = some (.dct es) ∧ ((∃ ns : List Int, es.map (·.1) = ns.map D.int ∧ ns.length < 64 ∧ ∀ ns' : List Int, ns'.Perm ns → ns'.Pairwise (· ≤ ·) → ∀ p, M1 p = none → Q (.ref p) (upd M1 p (.lst (ns'.map D.int)))) ∨
      wSrtD (es.map (·.1)) fun ys => ∀ p, M1 p = none → Q (.ref p) (upd M1 p (.lst ys)))) E
  | .meth m o es, env, M, Q, E => wE o env M (fun x M1 => wTy m x M1 ∧ wEs es env M1 (fun ds M2 => wMth m x ds M2 Q) E) E
  | .dead, _, _, _, _ => False
  | .blt b es, env, M, Q, E => wEs es env M (fun ds M1 => wBlt b ds M1 fun z => Q z M1) E
  | .lk k l, env, M, Q, E => wL l env M (fun xs M1 => wLK k xs fun z => Q z M1) E
  | .lidx l i, env, M, Q, E => wL l env M (fun xs M1 => wE i env M1 (fun y M2 => ∃ j v, y = .int j ∧ L2.atI xs j = some v ∧ Q v M2) E) E
  | .linn n x l, env, M, Q, E => wE x env M (fun d M1 => wL l env M1 (fun xs M2 => D.flat 60 d = true ∧ D.flats 60 xs = true ∧ Q (.bl (n != xs.any fun y => D.eqv y d)) M2) E) E
  | .mk n, env, M, Q, E => wN n env M (fun xs M1 => ∀ p, M1 p = none → Q (.ref p) (upd M1 p (.lst xs))) E
  | .maxd mn l i, env, M, Q, E => wL l env M (fun xs M1 => ∃ ns : List Int, xs = ns.map D.int ∧ (ns = [] → Q (.int i) M1) ∧ ∀ m, m ∈ ns → (∀ y, y ∈ ns → if mn = true then m ≤ y else y ≤ m) → Q (.int m) M1) E
  | .dnew, _, M, Q, _ => ∀ p, M p = none → Q (.ref p) (upd M p (.dct []))
  | .ddisp k v, env, M, Q, E => ∀ p, M p = none → wE k env (upd M p (.dct [])) (fun x M1 => wE v env M1 (fun y M2 => M2 p = some (.dct []) ∧ DkOk [] x ∧ Q (.ref p) (upd M2 p (.dct [(x, y)]))) E) E
  | .indexM o x, env, M, Q, E => wE o env M (fun d M1 => ∃ a xs0, d = .ref a ∧ M1 a = some (.lst xs0) ∧ wE x env M1 (fun y M2 => ∃ xs, M2 a = some (.lst xs) ∧ wIdxOf xs y fun j => Q (.int ((j : Nat) : Int)) M2) E) E
  | .indexO i x, env, M, Q, E => ∃ p xs, env[i]? = some (.own p (.lst xs)) ∧ wE x env M (fun y M1 => wIdxOf xs y fun j => Q (.int ((j : Nat) : Int)) M1) E
  | .srtSet elt tg it tg1 it1, env, M, Q, E => wI it env M (fun xs ok M1 =>
      wCmp2 (ok env) (fun _ x M2 R => wTg tg x (wipeE env (tg.slots ++ tg1.slots)) fun env1 => wI it1 env1 M2 (fun ys ok1 M3 =>
        wCmpr (ok1 env1) (fun y M4 R' => wTg tg1 y (wipeE env1 tg1.slots) fun env2 => wE elt env2 M4 (fun z M6 => (∃ k : Nat, z = .int (k : Int) ∧ k < 63) ∧ R' (some z) M6) X0) ys M3 R) X0) 0 xs M1
      fun zs M5 => ∀ ns : List Int, ns.Pairwise (· < ·) → (∀ k : Int, k ∈ ns ↔ D.int k ∈ zs) → ∀ p, M5 p = none → Q (.ref p) (upd M5 p (.lst (ns.map D.int)))) E
  | .dget d k, env, M, Q, E => wE d env M (fun x M1 => wE k env M1 (fun y M2 => ∃ a es v, x = .ref a ∧ M2 a = some (.dct es) ∧ DkOk es y ∧ dget es y = some v ∧ Q v M2) E) E
  | .din n k d, env, M, Q, E => wE k env M (fun y M1 => wE d env M1 (fun x M2 => ∃ a es, x = .ref a ∧ M2 a = some (.dct es) ∧ DkOk es y ∧ Q (.bl (n != (dget es y).isSome)) M2) E) E
  | .dgetd d k x, env, M, Q, E => wE d env M (fun o M1 => ∃ a es0, o = .ref a ∧ M1 a = some (.dct es0) ∧ wE k env M1 (fun y M2 => wE x env M2 (fun z M3 => ∃ es, M3 a = some (.dct es) ∧ DkOk es y ∧ Q ((dget es y).getD z) M3) E) E) E
  | .dget1 d k, env, M, Q, E => wE d env M (fun o M1 => ∃ a es0, o = .ref a ∧ M1 a = some (.dct es0) ∧ wE k env M1 (fun y M2 => ∃ es, M2 a = some (.dct es) ∧ DkOk es y ∧ Q ((dget es y).getD .non) M2) E) E
  | .call f as, env, M, Q, E => wAs as env M (fun ds ls M1 => F f ds M1 (fun d M2 => backs M2 ls ∧ Q d (drps M2 ls)) (fun x M2 => backs M2 ls ∧ E x (drps M2 ls))) E
  | .fld c f o, env, M, Q, E => wE o env M (fun x M1 => ∃ a fs v, x = .ref a ∧ M1 a = some (.ins c fs) ∧ fs.lookup f = some v ∧ Q v M1) E
  | .make c f as, env, M, Q, E => wAs as env M (fun ds ls M1 => ∀ p, M1 p = none → F f (.ref p :: ds) (upd M1 p (.ins c [])) (fun d M2 => d = .non ∧ backs M2 ls ∧ Q (.ref p) (drps M2 ls)) (fun x M2 => backs M2 ls ∧ E x (drps M2 ls))) E
  | .mcall c m f o as, env, M, Q, E => wE o env M (fun x M1 => ∃ a fs, x = .ref a ∧ M1 a = some (.ins c fs) ∧ fs.lookup m = none ∧ wAs as env M1 (fun ds ls M2 => F f (.ref a :: ds) M2 (fun d M3 => backs M3 ls ∧ Q d (drps M3 ls)) (fun x M3 => backs M3 ls ∧ E x (drps M3 ls))) E) E
  | .xfld i f, env, M, Q, _ => ∃ a cl d x v, env[i]? = some (.exc a cl d x) ∧ F.pin a cl d ∧ x.fs.lookup f = some v ∧ Q v M
  | .xisa i _ _ yes no, env, M, Q, _ => ∃ a cl d x, env[i]? = some (.exc a cl d x) ∧ F.pin a cl d ∧ (yes ++ no).contains x.cls = true ∧ Q (.bl (yes.contains x.cls)) M
def wEs : IEs → Env → Mem → QL → QX → Prop
  | .nil, _, M, Q, _ => Q [] M
  | .cons e es, env, M, Q, E => wE e env M (fun d M1 => wEs es env M1 (fun ds M2 => Q (d :: ds) M2) E) E
def wO : IO → Env → Mem → (Option Int → Mem → Prop) → QX → Prop
  | .no, _, M, Q, _ => Q none M
  | .at e, env, M, Q, E => wE e env M (fun d M1 => ∃ i, d = .int i ∧ Q (some i) M1) E
def wAs : IAs → Env → Mem → (List D → List (Nat × Option MO) → Mem → Prop) → QX → Prop
  | .nil, _, M, Q, _ => Q [] [] M
  | .cons e as, env, M, Q, E => wE e env M (fun d M1 => wAs as env M1 (fun ds ls M2 => Q (d :: ds) ls M2) E) E
  | .tmp n as, env, M, Q, E => wN n env M (fun xs M1 => ∀ p, M1 p = none → wAs as env (upd M1 p (.lst xs)) (fun ds ls M2 => Q (.ref p :: ds) ((p, none) :: ls) M2) X0) E
  | .lend i as, env, M, Q, E => ∃ p o, env[i]? = some (.own p o) ∧ wAs as (env.set i .no) (upd M p o) (fun ds ls M2 => Q (.ref p :: ds) ((p, some o) :: ls) M2) X0
def wL : IL → Env → Mem → QL → QX → Prop
  | .new n, env, M, Q, E => wN n env M Q E
  | .own i, env, M, Q, _ => ∃ p xs, env[i]? = some (.own p (.lst xs)) ∧ Q xs M
  | .ref e, env, M, Q, E => wE e env M (fun d M1 => ∃ a xs, d = .ref a ∧ M1 a = some (.lst xs) ∧ Q xs M1) E
def wN : IN → Env → Mem → QL → QX → Prop
  | .disp es, env, M, Q, E => wEs es env M (fun ds M1 => ds.length ≤ sizeLine ∧ Q ds M1) E
  | .comp elt tg it ifs, env, M, Q, E => wI it env M (fun xs ok M1 => xs.length ≤ sizeLine ∧
      wCmpr (ok env) (fun x M2 R => wTg tg x (wipeE env tg.slots) fun env' => wTs ifs env' M2 (fun b M3 => if b = true then wE elt env' M3 (fun y M4 => R (some y) M4) X0 else R none M3) X0) xs M1 Q) E
  | .comp2 elt tg it tg1 it1 ifs, env, M, Q, E => wI it env M (fun xs ok M1 =>
      wCmp2 (ok env) (fun n x M2 R => wTg tg x (wipeE env (tg.slots ++ tg1.slots)) fun env1 => wI it1 env1 M2 (fun ys ok1 M3 => n + ys.length ≤ sizeLine ∧
        wCmpr (ok1 env1) (fun y M4 R' => wTg tg1 y (wipeE env1 tg1.slots) fun env2 => wTs ifs env2 M4 (fun b M5 => if b = true then wE elt env2 M5 (fun z M6 => R' (some z) M6) X0 else R' none M5) X0) ys M3 R) X0) 0 xs M1 Q) E
  | .copy l, env, M, Q, E => wL l env M Q E
  | .copyT e, env, M, Q, E => wE e env M (fun d M1 => ∃ xs, d = .tup xs ∧ Q xs M1) E
  | .slc l lo hi, env, M, Q, E => wL l env M (fun xs M1 => wO lo env M1 (fun a M2 => wO hi env M2 (fun b M3 => Q (cutD xs a b) M3) X0) X0) E
def wI : II → Env → Mem → (List D → (Env → Mem → Prop) → Mem → Prop) → QX → Prop
  | .dyn e, env, M, Q, E => wE e env M (fun d M1 => wIt d M1 fun xs ok => Q xs ok M1) E
  | .new n, env, M, Q, E => wN n env M (fun xs M1 => Q xs (fun _ _ => True) M1) E
  | .own i, env, M, Q, _ => ∃ p xs, env[i]? = some (.own p (.lst xs)) ∧ Q xs (fun env' _ => env'[i]? = some (.own p (.lst xs))) M
  | .range e, env, M, Q, E => wE e env M (fun d M1 => ∃ n : Int, d = .int n ∧ (-(2 ^ 62) ≤ n ∧ n < 2 ^ 62) ∧ Q ((List.range n.toNat).map fun (i : Nat) => .int (i : Int)) (fun _ _ => True) M1) E
  | .range2 a b, env, M, Q, E => wE a env M (fun x M1 => wE b env M1 (fun y M2 => ∃ i j : Int, x = .int i ∧ y = .int j ∧ (-(2 ^ 62) ≤ i ∧ i < 2 ^ 62 ∧ -(2 ^ 62) ≤ j ∧ j < 2 ^ 62) ∧
      Q ((List.range (j - i).toNat).map fun (k : Nat) => .int (i + (k : Int))) (fun _ _ => True) M2) E) E
  | .zip a b, env, M, Q, E => wE a env M (fun x M1 => wE b env M1 (fun y M2 => wZip x y M2 fun zs ok => Q zs ok M2) E) E
  | .enum e, env, M, Q, E => wE e env M (fun d M1 => wEnum d M1 fun xs ok => Q xs ok M1) E
  | .rev e, env, M, Q, E => wE e env M (fun d M1 => wRevIt d M1 fun xs ok => Q xs ok M1) E
  | .revR a b, env, M, Q, E => wE a env M (fun x M1 => wE b env M1 (fun y M2 => ∃ i j : Int, x = .int i ∧ y = .int j ∧ (-(2 ^ 62) ≤ i ∧ i < 2 ^ 62 ∧ -(2 ^ 62) ≤ j ∧ j < 2 ^ 62) ∧
      Q ((List.range (j - i).toNat).map fun (k : Nat) => .int (i + (((j - i).toNat : Nat) : Int) - 1 - (k : Int))) (fun _ _ => True) M2) E) E
/-- as a test -/
def wT : IT → Env → Mem → (Bool → Mem → Prop) → QX → Prop
  | .not a, env, M, Q, E => wT a env M (fun k M1 => Q (!k) M1) E
  | .and a b, env, M, Q, E => wT a env M (fun k M1 => if k = true then wT b env M1 Q E else Q false M1) E
  | .or a b, env, M, Q, E => wT a env M (fun k M1 => if k = true then Q true M1 else wT b env M1 Q E) E
  | .v e, env, M, Q, E => wE e env M (fun d M1 => wTru d M1 fun k => Q k M1) E
def wTs : Option IT → Env → Mem → (Bool → Mem → Prop) → QX → Prop
  | none, _, M, Q, _ => Q true M
  | some e, env, M, Q, E => wT e env M Q E
end
end
/-- the slot of a caught error -/
def exSet (env : Env) : Option Nat → Nat → Nat → Option Nat → Xn → Env
  | none, _, _, _, _ => env
  | some i, a, cl, d, x => env.set i (.exc a cl d x)
def exClr (env : Env) : Option Nat → Env
  | none => env
  | some i => env.set i .no
def exKt (K : Kt) (i : Option Nat) : Kt := { nx := fun e m => K.nx (exClr e i) m, rt := K.rt, bk := fun e m => K.bk (exClr e i) m, ct := fun e m => K.ct (exClr e i) m, xc := fun _ _ _ => False }
mutual
def wS : FS → IS → Env → Mem → Kt → Prop
  | F, .pass, env, M, K => K.nx env M
  | F, .brk, env, M, K => K.bk env M
  | F, .cnt, env, M, K => K.ct env M
  | F, .ret e, env, M, K => wE F e env M K.rt fun x m => K.xc x env m
  | F, .retN, _, M, K => K.rt .non M
  | F, .retO i, env, M, K => ∃ p o, env[i]? = some (.own p o) ∧ (M p = none → K.rt (.ref p) (upd M p o))
  | F, .exp e, env, M, K => wE F e env M (fun _ M1 => K.nx env M1) fun x m => K.xc x env m
  | F, .asg t e, env, M, K => wE F e env M (fun d M1 => wTg t d env fun env' => K.nx env' M1) fun x m => K.xc x env m
  | F, .unl is e, env, M, K => wE F e env M (fun d M1 => ∃ a xs, d = .ref a ∧ M1 a = some (.lst xs) ∧ xs.length = is.length ∧ K.nx (setAll env is xs) M1) fun x m => K.xc x env m
  | F, .asgN i n, env, M, K => wN F n env M (fun xs M1 => ∀ p, M1 p = none → K.nx (env.set i (.own p (.lst xs))) M1) fun x m => K.xc x env m
  | F, .asgM i n, env, M, K => wN F n env M (fun xs M1 => ∀ p, M1 p = none → K.nx (env.set i (.val (.ref p))) (upd M1 p (.lst xs))) fun x m => K.xc x env m
  | F, .par i j a b, env, M, K => wE F a env M (fun x M1 => wE F b env M1 (fun y M2 => K.nx ((env.set i (.val x)).set j (.val y)) M2) fun x m => K.xc x env m) fun x m => K.xc x env m
  | F, .aug i o e, env, M, K => ∃ x, env[i]? = some (.val x) ∧ wE F e env M (fun y M1 => wAug o x y fun z => K.nx (env.set i (.val z)) M1) fun x m => K.xc x env m
  | F, .app i e, env, M, K => ∃ p xs, env[i]? = some (.own p (.lst xs)) ∧ wE F e env M (fun d M1 => xs.length < sizeLine ∧ K.nx (env.set i (.own p (.lst (xs ++ [d])))) M1) fun x m => K.xc x env m
  | F, .set i k e, env, M, K => ∃ p xs, env[i]? = some (.own p (.lst xs)) ∧ wE F e env M (fun d M1 => wE F k env M1 (fun y M2 => ∃ j m, y = .int j ∧ L2.ixN xs.length j = some m ∧
      K.nx (env.set i (.own p (.lst (xs.set m d)))) M2) fun x m => K.xc x env m) fun x m => K.xc x env m
  | F, .pop i j, env, M, K => ∃ p xs y, env[j]? = some (.own p (.lst xs)) ∧ xs.getLast? = some y ∧ i ≠ j ∧ K.nx ((env.set j (.own p (.lst xs.dropLast))).set i (.val y)) M
  | F, .mapp l e, env, M, K => wE F l env M (fun x M1 => ∃ a ys, x = .ref a ∧ M1 a = some (.lst ys) ∧ wE F e env M1 (fun d M2 => ∃ xs, M2 a = some (.lst xs) ∧ xs.length < sizeLine ∧
      K.nx env (upd M2 a (.lst (xs ++ [d])))) fun x m => K.xc x env m) fun x m => K.xc x env m
  | F, .mset l k e, env, M, K => wE F e env M (fun d M1 => wE F l env M1 (fun x M2 => wE F k env M2 (fun y M3 => ∃ a xs j m, x = .ref a ∧ M3 a = some (.lst xs) ∧ y = .int j ∧ L2.ixN xs.length j = some m ∧
      K.nx env (upd M3 a (.lst (xs.set m d)))) fun x m => K.xc x env m) fun x m => K.xc x env m) fun x m => K.xc x env m
  | F, .maug l k o e, env, M, K => wE F l env M (fun x M1 => wE F k env M1 (fun y M2 => ∃ a xs j m v, x = .ref a ∧ M2 a = some (.lst xs) ∧ y = .int j ∧ L2.ixN xs.length j = some m ∧ xs[m]? = some v ∧
      wE F e env M2 (fun u M3 => wAug o v u fun z => ∃ xs', M3 a = some (.lst xs') ∧ xs'.length = xs.length ∧ K.nx env (upd M3 a (.lst (xs'.set m z)))) fun x m => K.xc x env m) fun x m => K.xc x env m) fun x m => K.xc x env m
  | F, .dset d k e, env, M, K => wE F e env M (fun v M1 => wE F d env M1 (fun x M2 => wE F k env M2 (fun y M3 => ∃ a es, x = .ref a ∧ M3 a = some (.dct es) ∧ DkOk es y ∧ es.length < sizeLine ∧
      K.nx env (upd M3 a (.dct (dput es y v)))) fun x m => K.xc x env m) fun x m => K.xc x env m) fun x m => K.xc x env m
  | F, .fset c f o e, env, M, K => wE F e env M (fun v M1 => wE F o env M1 (fun x M2 => ∃ a fs, x = .ref a ∧ M2 a = some (.ins c fs) ∧ fs.length < 1000 ∧ K.nx env (upd M2 a (.ins c (fput f v fs)))) fun x m => K.xc x env m) fun x m => K.xc x env m
  | F, .ite c t e, env, M, K => wT F c env M (fun b M1 => if b = true then wSs F t env M1 K else wSs F e env M1 K) fun x m => K.xc x env m
  | F, .whl c b, env, M, K => wWhl (fun e m Q E => wT F c e m Q fun x m' => E x e m') (wSs F b) env M K
  | F, .for_ t it b, env, M, K => wI F it env M (fun xs ok M1 => wFor ok (fun x e m K' => wTg t x e fun e' => wSs F b e' m K') xs env M1 K) fun x m => K.xc x env m
  | F, .dead, _, _, _ => False
  | F, .raise c fl es, env, M, K => wEs F es env M (fun ds M1 => ds.length = fl.length ∧ K.xc ⟨c, fl.zip ds⟩ env M1) fun x m => K.xc x env m
  | F, .try_ b hs, env, M, K => wSs F b env M { K with xc := fun x e m => wHs F hs x e m K }
def wHs : FS → IHs → Xn → Env → Mem → Kt → Prop
  | F, .nil, x, env, M, K => K.xc x env M
  | F, .cons _ yes no i b hs, x, env, M, K => if yes.contains x.cls = true then ∀ a cl d, wSs { F with pin := fun a' cl' d' => a' = a ∧ cl' = cl ∧ d' = d } b (exSet env i a cl d x) M (exKt K i) else no.contains x.cls = true ∧ wHs F hs x env M K
def wSs : FS → List IS → Env → Mem → Kt → Prop
  | F, [], env, M, K => K.nx env M
  | F, s :: ss, env, M, K => wS F s env M { K with nx := fun e m => wSs F ss e m K }
end
structure Fn where
  name : String
  arity : Nat
  slots : List String
  body : List IS
  /-- the class whose method it is -/
  cls : Option String := none
def wBody (F : FS) (fn : Fn) : List D → Mem → QE → QX → Prop := fun ds M Q E => ds.length = fn.arity ∧
  wSs F fn.body (ds.map Slot.val ++ List.replicate (fn.slots.length - ds.length) .no) M
    { nx := fun _ M' => ∃ M'', Sub M'' M' ∧ Q .non M'', rt := fun d M' => ∃ M'', Sub M'' M' ∧ Q d M'', bk := fun _ _ => False, ct := fun _ _ => False, xc := fun x _ M' => ∃ M'', Sub M'' M' ∧ E x M'' }
/-- the defs of a text, calls at most n deep -/
def wFn (P : List Fn) : Nat → FS
  | 0 => ⟨fun _ _ _ _ _ => False, fun _ _ _ => False⟩
  | n + 1 => ⟨fun f ds M Q E => ∃ fn, P[f]? = some fn ∧ wBody (wFn P n) fn ds M Q E, fun _ _ _ => False⟩
/-! ### more is wanted -/
structure FMono (F : FS) : Prop where
  mono : ∀ {f ds M} {Q Q' : QE} {E E' : QX}, (∀ d M, Q d M → Q' d M) → (∀ x M, E x M → E' x M) → F f ds M Q E → F f ds M Q' E'
theorem wBin_mono {o : BOp} {x y : D} {Q Q' : D → Prop} (h : ∀ d, Q d → Q' d) (w : wBin o x y Q) : wBin o x y Q' := by
  cases o <;> cases x <;> cases y <;> simp only [wBin] at w ⊢ <;> first | exact h _ w | exact ⟨w.1, h _ w.2⟩ | exact w
theorem wAug_mono {o : BOp} {x y : D} {Q Q' : D → Prop} (h : ∀ d, Q d → Q' d) (w : wAug o x y Q) : wAug o x y Q' := by
  unfold wAug at w ⊢
  split at w <;> first | exact wBin_mono h w | exact ⟨w.1, wBin_mono h w.2⟩ | exact w.elim
theorem wCmp_mono {o : COp} {x y : D} {M : Mem} {Q Q' : Bool → Prop} (h : ∀ d, Q d → Q' d) (w : wCmp o x y M Q) : wCmp o x y M Q' := by
  unfold wCmp at w ⊢
  split at w <;> first | exact h _ w | exact ⟨w.1, h _ w.2⟩ | (obtain ⟨ys, zs, e, e2, f, q⟩ := w; exact ⟨ys, zs, e, e2, f, h _ q⟩) | (obtain ⟨ys, e, f, q⟩ := w; exact ⟨ys, e, f, h _ q⟩) | exact w.elim | (rename_i hne; cases x <;> first | exact h _ w | exact absurd rfl hne | exact (hne rfl).elim) | skip
theorem wTru_mono {x : D} {M : Mem} {Q Q' : Bool → Prop} (h : ∀ d, Q d → Q' d) (w : wTru x M Q) : wTru x M Q' := by
  cases x <;> simp only [wTru] at w ⊢ <;> first | exact h _ w | exact ⟨w.1, h _ w.2⟩ | (obtain ⟨xs, e, q⟩ := w; exact ⟨xs, e, h _ q⟩)
theorem wIdx_mono {x y : D} {M : Mem} {Q Q' : D → Prop} (h : ∀ d, Q d → Q' d) (w : wIdx x y M Q) : wIdx x y M Q' := by
  unfold wIdx at w ⊢
  split at w
  · obtain ⟨v, e, q⟩ := w; exact ⟨v, e, h _ q⟩
  · obtain ⟨l, v, e, q⟩ := w; exact ⟨l, v, e, h _ q⟩
  · obtain ⟨xs, v, e, e2, q⟩ := w; exact ⟨xs, v, e, e2, h _ q⟩
  · exact w.elim
theorem wBlt_mono {b : Blt} {ds : List D} {M : Mem} {Q Q' : D → Prop} (h : ∀ d, Q d → Q' d) (w : wBlt b ds M Q) : wBlt b ds M Q' := by
  unfold wBlt at w ⊢
  split at w <;> first | exact h _ w | exact ⟨w.1, h _ w.2⟩ | (obtain ⟨ns, e, e2, q⟩ := w; exact ⟨ns, e, e2, fun m h1 h2 => h _ (q m h1 h2)⟩) | (obtain ⟨xs, e, q⟩ := w; exact ⟨xs, e, h _ q⟩) | exact w.elim | skip
theorem wLK_mono {k : LK} {xs : List D} {Q Q' : D → Prop} (h : ∀ d, Q d → Q' d) (w : wLK k xs Q) : wLK k xs Q' := by
  cases k <;> simp only [wLK] at w ⊢ <;> first | exact h _ w | (obtain ⟨b, e, q⟩ := w; exact ⟨b, e, h _ q⟩) | (obtain ⟨ns, e, e2, q⟩ := w; exact ⟨ns, e, e2, fun m h1 h2 => h _ (q m h1 h2)⟩)
theorem wSorted_mono {xs : List D} {Q Q' : List D → Prop} (h : ∀ d, Q d → Q' d) (w : wSorted xs Q) : wSorted xs Q' := by
  rcases w with ⟨ns, e, e2, q⟩ | ⟨ns, e, e2, q⟩ | ⟨e, q⟩
  · exact .inl ⟨ns, e, e2, fun a b c => h _ (q a b c)⟩
  · exact .inr (.inl ⟨ns, e, e2, fun a b c => h _ (q a b c)⟩)
  · exact .inr (.inr ⟨e, fun a b c => h _ (q a b c)⟩)
theorem wSlc_mono {x : D} {l u : Option Int} {M : Mem} {Q Q' : QE} (h : ∀ d M, Q d M → Q' d M) (w : wSlc x l u M Q) : wSlc x l u M Q' := by
  cases x <;> simp only [wSlc] at w ⊢ <;> first | exact h _ _ w | exact ⟨w.1, h _ _ w.2⟩ | (obtain ⟨xs, e, q⟩ := w; exact ⟨xs, e, fun p hp => h _ _ (q p hp)⟩)
theorem wTg_mono {t : Tg} {d : D} {env : Env} {Q Q' : Env → Prop} (h : ∀ e, Q e → Q' e) (w : wTg t d env Q) : wTg t d env Q' := by
  unfold wTg at w ⊢
  split at w <;> first | exact h _ w | exact ⟨w.1, h _ w.2⟩ | exact w.elim
theorem wCmpr_mono {ok : Mem → Prop} {el el' : D → Mem → (Option D → Mem → Prop) → Prop} (hel : ∀ x M R R', (∀ r M, R r M → R' r M) → el x M R → el' x M R') :
    ∀ {xs : List D} {M : Mem} {Q Q' : QL}, (∀ ys M, Q ys M → Q' ys M) → wCmpr ok el xs M Q → wCmpr ok el' xs M Q'
  | [], _, _, _, h, w => ⟨w.1, h _ _ w.2⟩
  | x :: xs, M, Q, Q', h, w => by
    refine ⟨w.1, hel _ _ _ _ (fun r M' q => ?_) w.2⟩
    cases r with
    | none => exact wCmpr_mono hel h q
    | some y => exact wCmpr_mono hel (fun ys M'' q' => h _ _ q') q
theorem wCmp2_mono {ok : Mem → Prop} {el el' : Nat → D → Mem → (List D → Mem → Prop) → Prop} (hel : ∀ n x M R R', (∀ r M, R r M → R' r M) → el n x M R → el' n x M R') :
    ∀ {xs : List D} {n : Nat} {M : Mem} {Q Q' : QL}, (∀ ys M, Q ys M → Q' ys M) → wCmp2 ok el n xs M Q → wCmp2 ok el' n xs M Q'
  | [], _, _, _, _, h, w => ⟨w.1, h _ _ w.2⟩
  | x :: xs, n, M, Q, Q', h, w => ⟨w.1, hel _ _ _ _ _ (fun r M' q => wCmp2_mono hel (fun ys M'' q' => h _ _ q') q) w.2⟩
structure Kt.Le (K K' : Kt) : Prop where
  nx : ∀ e M, K.nx e M → K'.nx e M
  rt : ∀ e M, K.rt e M → K'.rt e M
  bk : ∀ e M, K.bk e M → K'.bk e M
  ct : ∀ e M, K.ct e M → K'.ct e M
  xc : ∀ x e M, K.xc x e M → K'.xc x e M
theorem wFor_mono {ok : Env → Mem → Prop} {bd : D → Env → Mem → Kt → Prop} (hb : ∀ x e M K K', Kt.Le K K' → bd x e M K → bd x e M K') :
    ∀ {xs : List D} {env : Env} {M : Mem} {K K' : Kt}, Kt.Le K K' → wFor ok bd xs env M K → wFor ok bd xs env M K'
  | [], _, _, _, _, h, w => ⟨w.1, h.nx _ _ w.2⟩
  | x :: xs, env, M, K, K', h, w => by
    refine ⟨w.1, hb _ _ _ _ _ ?_ w.2⟩
    exact ⟨fun _ _ q => wFor_mono hb h q, h.rt, h.nx, fun _ _ q => wFor_mono hb h q, h.xc⟩
section
variable {F : FS} (hF : FMono F)
include hF
mutual
theorem wE_mono : ∀ (e : IE) {env : Env} {M : Mem} {Q Q' : QE} {E E' : QX}, (∀ d M, Q d M → Q' d M) → (∀ x M, E x M → E' x M) → wE F e env M Q E → wE F e env M Q' E'
  | .var i, _, _, _, _, _, _, h, _, w => by obtain ⟨d, e, q⟩ := w; exact ⟨d, e, h _ _ q⟩
  | .cst d, _, _, _, _, _, _, h, _, w => h _ _ w
  | .glb _ d, _, _, _, _, _, _, h, _, w => h _ _ w
  | .bin o a b, _, _, _, _, _, _, h, hE, w => wE_mono a (fun _ _ q => wE_mono b (fun _ _ q => wBin_mono (fun _ q => h _ _ q) q) hE q) hE w
  | .cat a b, _, _, _, _, _, _, h, hE, w => wE_mono a (fun _ _ q => wE_mono b (fun _ _ q => by obtain ⟨p, q', xs, ys, e1, e2, e3, e4, e5, q⟩ := q; exact ⟨p, q', xs, ys, e1, e2, e3, e4, e5, fun r hr => h _ _ (q r hr)⟩) hE q) hE w
  | .repL a b, _, _, _, _, _, _, h, hE, w => wE_mono a (fun _ _ q => wE_mono b (fun _ _ q => by obtain ⟨p, xs, k, e1, e2, e3, e4, e5, q⟩ := q; exact ⟨p, xs, k, e1, e2, e3, e4, e5, fun r hr => h _ _ (q r hr)⟩) hE q) hE w
  | .neg a, _, _, _, _, _, _, h, hE, w => wE_mono a (fun _ _ q => by obtain ⟨i, e, q⟩ := q; exact ⟨i, e, h _ _ q⟩) hE w
  | .inv a, _, _, _, _, _, _, h, hE, w => wE_mono a (fun _ _ q => by obtain ⟨i, e, q⟩ := q; exact ⟨i, e, h _ _ q⟩) hE w
  | .cmp o a b, _, _, _, _, _, _, h, hE, w => wE_mono a (fun _ _ q => wE_mono b (fun _ _ q => wCmp_mono (fun _ q => h _ _ q) q) hE q) hE w
  | .chn o o' a b c, _, _, _, _, _, _, h, hE, w => wE_mono a (fun _ _ q => wE_mono b (fun _ _ q => wCmp_mono (fun k q => by
      cases k with
      | true => exact wE_mono c (fun _ _ q => wCmp_mono (fun _ q => h _ _ q) q) hE q
      | false => exact h _ _ q) q) hE q) hE w
  | .and a b, _, _, _, _, _, _, h, hE, w => wE_mono a (fun _ _ q => by
      obtain ⟨k, e, q⟩ := q
      refine ⟨k, e, ?_⟩
      cases k with
      | true => exact wE_mono b h hE q
      | false => exact h _ _ q) hE w
  | .or a b, _, _, _, _, _, _, h, hE, w => wE_mono a (fun _ _ q => by
      obtain ⟨k, e, q⟩ := q
      refine ⟨k, e, ?_⟩
      cases k with
      | false => exact wE_mono b h hE q
      | true => exact h _ _ q) hE w
  | .not a, _, _, _, _, _, _, h, hE, w => wE_mono a (fun _ _ q => by obtain ⟨i, e, q⟩ := q; exact ⟨i, e, h _ _ q⟩) hE w
  | .ifx c a b, _, _, _, _, _, _, h, hE, w => wT_mono c (fun k _ q => by
      cases k with
      | true => exact wE_mono a h hE q
      | false => exact wE_mono b h hE q) hE w
  | .tup es, _, _, _, _, _, _, h, hE, w => wEs_mono es (fun _ _ q => ⟨q.1, h _ _ q.2⟩) hE w
  | .idx a i, _, _, _, _, _, _, h, hE, w => wE_mono a (fun _ _ q => wE_mono i (fun _ _ q => wIdx_mono (fun _ q => h _ _ q) q) hE q) hE w
  | .slc a lo hi, _, _, _, _, _, _, h, hE, w => wE_mono a (fun _ _ q => wO_mono lo (fun _ _ q => wO_mono hi (fun _ _ q => wSlc_mono h q) hE q) hE q) hE w
  | .rev a, _, _, _, _, _, _, h, hE, w => wE_mono a (fun _ _ q => by obtain ⟨xs, e, q⟩ := q; exact ⟨xs, e, h _ _ q⟩) hE w
  | .revL a, _, _, _, _, _, _, h, hE, w => wE_mono a (fun _ _ q => by obtain ⟨a, xs, e, e2, q⟩ := q; exact ⟨a, xs, e, e2, fun p hp => h _ _ (q p hp)⟩) hE w
  | .rev0 a, _, _, _, _, _, _, h, hE, w => wE_mono a (fun _ _ q => by obtain ⟨xs, e, q⟩ := q; exact ⟨xs, e, h _ _ q⟩) hE w
  | .tupRev l, _, _, _, _, _, _, h, hE, w => wL_mono l (fun _ _ q => h _ _ q) hE w
  | .tupRevT a, _, _, _, _, _, _, h, hE, w => wE_mono a (fun _ _ q => by obtain ⟨xs, e, q⟩ := q; exact ⟨xs, e, h _ _ q⟩) hE w
  | .sorted l, _, _, _, _, _, _, h, hE, w => wL_mono l (fun _ _ q => wSorted_mono (fun _ q p hp => h _ _ (q p hp)) q) hE w
  | .sortK d, _, _, _, _, _, _, h, hE, w => wE_mono d (fun _ _ q => by
      obtain ⟨a, es, e1, e2, q⟩ := q
      refine ⟨a, es, e1, e2, ?_⟩
      rcases q with ⟨ns, e3, e4, q⟩ | q
      · exact .inl ⟨ns, e3, e4, fun ns' h1 h2 p hp => h _ _ (q ns' h1 h2 p hp)⟩
      · exact .inr ⟨q.1, fun ys h1 h2 p hp => h _ _ (q.2 ys h1 h2 p hp)⟩) hE w
  | .meth m o es, _, _, _, _, _, _, h, hE, w => wE_mono o (fun _ _ q => ⟨q.1, wEs_mono es (fun _ _ q => wMth_mono h q) hE q.2⟩) hE w
  | .dead, _, _, _, _, _, _, _, _, w => w.elim
  | .blt b es, _, _, _, _, _, _, h, hE, w => wEs_mono es (fun _ _ q => wBlt_mono (fun _ q => h _ _ q) q) hE w
  | .lk k l, _, _, _, _, _, _, h, hE, w => wL_mono l (fun _ _ q => wLK_mono (fun _ q => h _ _ q) q) hE w
  | .lidx l i, _, _, _, _, _, _, h, hE, w => wL_mono l (fun _ _ q => wE_mono i (fun _ _ q => by obtain ⟨j, v, e, e2, q⟩ := q; exact ⟨j, v, e, e2, h _ _ q⟩) hE q) hE w
  | .linn n x l, _, _, _, _, _, _, h, hE, w => wE_mono x (fun _ _ q => wL_mono l (fun _ _ q => ⟨q.1, q.2.1, h _ _ q.2.2⟩) hE q) hE w
  | .mk n, _, _, _, _, _, _, h, hE, w => wN_mono n (fun _ _ q p hp => h _ _ (q p hp)) hE w
  | .maxd mn l i, _, _, _, _, _, _, h, hE, w => wL_mono l (fun _ _ q => by obtain ⟨ns, e, q1, q2⟩ := q; exact ⟨ns, e, fun z => h _ _ (q1 z), fun m a b => h _ _ (q2 m a b)⟩) hE w
  | .dnew, _, _, _, _, _, _, h, _, w => fun p hp => h _ _ (w p hp)
  | .ddisp k v, _, _, _, _, _, _, h, hE, w => fun p hp => wE_mono k (fun _ _ q => wE_mono v (fun _ _ q => ⟨q.1, q.2.1, h _ _ q.2.2⟩) hE q) hE (w p hp)
  | .indexM o x, _, _, _, _, _, _, h, hE, w => wE_mono o (fun _ _ q => by
      obtain ⟨a, xs0, e1, e2, q⟩ := q
      exact ⟨a, xs0, e1, e2, wE_mono x (fun _ _ q => by obtain ⟨xs, e3, q⟩ := q; exact ⟨xs, e3, wIdxOf_mono (fun _ q => h _ _ q) q⟩) hE q⟩) hE w
  | .indexO i x, _, _, _, _, _, _, h, hE, w => by
      obtain ⟨p, xs, e, q⟩ := w
      exact ⟨p, xs, e, wE_mono x (fun _ _ q => wIdxOf_mono (fun _ q => h _ _ q) q) hE q⟩
  | .srtSet elt tg it tg1 it1, _, _, _, _, _, _, h, hE, w => wI_mono it (fun _ _ _ q => wCmp2_mono (fun n x M R R' hR q => wTg_mono (fun _ q => wI_mono it1 (fun _ _ _ q => wCmpr_mono (fun x M R R' hR q => wTg_mono (fun _ q => wE_mono elt (fun _ _ q => ⟨q.1, hR _ _ q.2⟩) (fun _ _ z => z) q) q) hR q) (fun _ _ z => z) q) q) (fun _ _ q ns h1 h2 p hp => h _ _ (q ns h1 h2 p hp)) q) hE w
  | .dget d k, _, _, _, _, _, _, h, hE, w => wE_mono d (fun _ _ q => wE_mono k (fun _ _ q => by obtain ⟨a, es, v, e1, e2, e3, e4, q⟩ := q; exact ⟨a, es, v, e1, e2, e3, e4, h _ _ q⟩) hE q) hE w
  | .din n k d, _, _, _, _, _, _, h, hE, w => wE_mono k (fun _ _ q => wE_mono d (fun _ _ q => by obtain ⟨a, es, e1, e2, e3, q⟩ := q; exact ⟨a, es, e1, e2, e3, h _ _ q⟩) hE q) hE w
  | .dgetd d k x, _, _, _, _, _, _, h, hE, w => wE_mono d (fun _ _ q => by
      obtain ⟨a, es0, e1, e2, q⟩ := q
      exact ⟨a, es0, e1, e2, wE_mono k (fun _ _ q => wE_mono x (fun _ _ q => by obtain ⟨es, e3, e4, q⟩ := q; exact ⟨es, e3, e4, h _ _ q⟩) hE q) hE q⟩) hE w
  | .dget1 d k, _, _, _, _, _, _, h, hE, w => wE_mono d (fun _ _ q => by
      obtain ⟨a, es0, e1, e2, q⟩ := q
      exact ⟨a, es0, e1, e2, wE_mono k (fun _ _ q => by obtain ⟨es, e3, e4, q⟩ := q; exact ⟨es, e3, e4, h _ _ q⟩) hE q⟩) hE w
  | .call f as, _, _, _, _, _, _, h, hE, w => wAs_mono as (fun _ _ _ q => hF.mono (fun _ _ q => ⟨q.1, h _ _ q.2⟩) (fun _ _ q => ⟨q.1, hE _ _ q.2⟩) q) hE w
  | .fld c f o, _, _, _, _, _, _, h, hE, w => wE_mono o (fun _ _ q => by obtain ⟨a, fs, v, e1, e2, e3, q⟩ := q; exact ⟨a, fs, v, e1, e2, e3, h _ _ q⟩) hE w
  | .make c f as, _, _, _, _, _, _, h, hE, w => wAs_mono as (fun _ _ _ q p hp => hF.mono (fun _ _ q => ⟨q.1, q.2.1, h _ _ q.2.2⟩) (fun _ _ q => ⟨q.1, hE _ _ q.2⟩) (q p hp)) hE w
  | .mcall c m f o as, _, _, _, _, _, _, h, hE, w => wE_mono o (fun _ _ q => by
      obtain ⟨a, fs, e1, e2, e3, q⟩ := q
      exact ⟨a, fs, e1, e2, e3, wAs_mono as (fun _ _ _ q => hF.mono (fun _ _ q => ⟨q.1, h _ _ q.2⟩) (fun _ _ q => ⟨q.1, hE _ _ q.2⟩) q) hE q⟩) hE w
  | .xfld i f, _, _, _, _, _, _, h, _, w => by obtain ⟨a, cl, d, x, v, e1, e2, e3, q⟩ := w; exact ⟨a, cl, d, x, v, e1, e2, e3, h _ _ q⟩
  | .xisa i _ _ yes no, _, _, _, _, _, _, h, _, w => by obtain ⟨a, cl, d, x, e1, e2, e3, q⟩ := w; exact ⟨a, cl, d, x, e1, e2, e3, h _ _ q⟩
theorem wEs_mono : ∀ (es : IEs) {env : Env} {M : Mem} {Q Q' : QL} {E E' : QX}, (∀ d M, Q d M → Q' d M) → (∀ x M, E x M → E' x M) → wEs F es env M Q E → wEs F es env M Q' E'
  | .nil, _, _, _, _, _, _, h, _, w => h _ _ w
  | .cons e es, _, _, _, _, _, _, h, hE, w => wE_mono e (fun _ _ q => wEs_mono es (fun _ _ q => h _ _ q) hE q) hE w
theorem wO_mono : ∀ (o : IO) {env : Env} {M : Mem} {Q Q' : Option Int → Mem → Prop} {E E' : QX}, (∀ d M, Q d M → Q' d M) → (∀ x M, E x M → E' x M) → wO F o env M Q E → wO F o env M Q' E'
  | .no, _, _, _, _, _, _, h, _, w => h _ _ w
  | .at e, _, _, _, _, _, _, h, hE, w => wE_mono e (fun _ _ q => by obtain ⟨i, e, q⟩ := q; exact ⟨i, e, h _ _ q⟩) hE w
theorem wAs_mono : ∀ (as : IAs) {env : Env} {M : Mem} {Q Q' : List D → List (Nat × Option MO) → Mem → Prop} {E E' : QX}, (∀ d l M, Q d l M → Q' d l M) → (∀ x M, E x M → E' x M) → wAs F as env M Q E → wAs F as env M Q' E'
  | .nil, _, _, _, _, _, _, h, _, w => h _ _ _ w
  | .cons e as, _, _, _, _, _, _, h, hE, w => wE_mono e (fun _ _ q => wAs_mono as (fun _ _ _ q => h _ _ _ q) hE q) hE w
  | .tmp n as, _, _, _, _, _, _, h, hE, w => wN_mono n (fun _ _ q p hp => wAs_mono as (fun _ _ _ q => h _ _ _ q) (fun _ _ z => z) (q p hp)) hE w
  | .lend i as, _, _, _, _, _, _, h, hE, w => by
    obtain ⟨p, o, e, q⟩ := w
    exact ⟨p, o, e, wAs_mono as (fun _ _ _ q => h _ _ _ q) (fun _ _ z => z) q⟩
theorem wL_mono : ∀ (l : IL) {env : Env} {M : Mem} {Q Q' : QL} {E E' : QX}, (∀ d M, Q d M → Q' d M) → (∀ x M, E x M → E' x M) → wL F l env M Q E → wL F l env M Q' E'
  | .new n, _, _, _, _, _, _, h, hE, w => wN_mono n h hE w
  | .own i, _, _, _, _, _, _, h, _, w => by obtain ⟨p, xs, e, q⟩ := w; exact ⟨p, xs, e, h _ _ q⟩
  | .ref e, _, _, _, _, _, _, h, hE, w => wE_mono e (fun _ _ q => by obtain ⟨a, xs, e, e2, q⟩ := q; exact ⟨a, xs, e, e2, h _ _ q⟩) hE w
theorem wN_mono : ∀ (n : IN) {env : Env} {M : Mem} {Q Q' : QL} {E E' : QX}, (∀ d M, Q d M → Q' d M) → (∀ x M, E x M → E' x M) → wN F n env M Q E → wN F n env M Q' E'
  | .disp es, _, _, _, _, _, _, h, hE, w => wEs_mono es (fun _ _ q => ⟨q.1, h _ _ q.2⟩) hE w
  | .comp elt tg it ifs, _, _, _, _, _, _, h, hE, w => wI_mono it (fun _ _ _ q => ⟨q.1, wCmpr_mono (fun x M R R' hR q => wTg_mono (fun _ q => wTs_mono ifs (fun b _ q => by
      cases b with
      | true => exact wE_mono elt (fun _ _ q => hR _ _ q) (fun _ _ z => z) q
      | false => exact hR _ _ q) (fun _ _ z => z) q) q) h q.2⟩) hE w
  | .comp2 elt tg it tg1 it1 ifs, _, _, _, _, _, _, h, hE, w => wI_mono it (fun _ _ _ q => wCmp2_mono (fun n x M R R' hR q => wTg_mono (fun _ q => wI_mono it1 (fun _ _ _ q => ⟨q.1, wCmpr_mono (fun x M R R' hR q => wTg_mono (fun _ q => wTs_mono ifs (fun b _ q => by
      cases b with
      | true => exact wE_mono elt (fun _ _ q => hR _ _ q) (fun _ _ z => z) q
      | false => exact hR _ _ q) (fun _ _ z => z) q) q) hR q.2⟩) (fun _ _ z => z) q) q) h q) hE w
  | .copy l, _, _, _, _, _, _, h, hE, w => wL_mono l h hE w
  | .copyT e, _, _, _, _, _, _, h, hE, w => wE_mono e (fun _ _ q => by obtain ⟨xs, e, q⟩ := q; exact ⟨xs, e, h _ _ q⟩) hE w
  | .slc l lo hi, _, _, _, _, _, _, h, hE, w => wL_mono l (fun _ _ q => wO_mono lo (fun _ _ q => wO_mono hi (fun _ _ q => h _ _ q) (fun _ _ z => z) q) (fun _ _ z => z) q) hE w
theorem wI_mono : ∀ (it : II) {env : Env} {M : Mem} {Q Q' : List D → (Env → Mem → Prop) → Mem → Prop} {E E' : QX}, (∀ d ok M, Q d ok M → Q' d ok M) → (∀ x M, E x M → E' x M) → wI F it env M Q E → wI F it env M Q' E'
  | .dyn e, _, _, _, _, _, _, h, hE, w => wE_mono e (fun _ _ q => wIt_mono (fun _ _ q => h _ _ _ q) q) hE w
  | .new n, _, _, _, _, _, _, h, hE, w => wN_mono n (fun _ _ q => h _ _ _ q) hE w
  | .own i, _, _, _, _, _, _, h, _, w => by obtain ⟨p, xs, e, q⟩ := w; exact ⟨p, xs, e, h _ _ _ q⟩
  | .range e, _, _, _, _, _, _, h, hE, w => wE_mono e (fun _ _ q => by obtain ⟨n, e, e2, q⟩ := q; exact ⟨n, e, e2, h _ _ _ q⟩) hE w
  | .range2 a b, _, _, _, _, _, _, h, hE, w => wE_mono a (fun _ _ q => wE_mono b (fun _ _ q => by obtain ⟨i, j, e, e2, e3, q⟩ := q; exact ⟨i, j, e, e2, e3, h _ _ _ q⟩) hE q) hE w
  | .zip a b, _, _, _, _, _, _, h, hE, w => wE_mono a (fun _ _ q => wE_mono b (fun _ _ q => wZip_mono (fun _ _ q => h _ _ _ q) q) hE q) hE w
  | .enum e, _, _, _, _, _, _, h, hE, w => wE_mono e (fun _ _ q => wEnum_mono (fun _ _ q => h _ _ _ q) q) hE w
  | .rev e, _, _, _, _, _, _, h, hE, w => wE_mono e (fun _ _ q => wRevIt_mono (fun _ _ q => h _ _ _ q) q) hE w
  | .revR a b, _, _, _, _, _, _, h, hE, w => wE_mono a (fun _ _ q => wE_mono b (fun _ _ q => by obtain ⟨i, j, e, e2, e3, q⟩ := q; exact ⟨i, j, e, e2, e3, h _ _ _ q⟩) hE q) hE w
theorem wT_mono : ∀ (e : IT) {env : Env} {M : Mem} {Q Q' : Bool → Mem → Prop} {E E' : QX}, (∀ d M, Q d M → Q' d M) → (∀ x M, E x M → E' x M) → wT F e env M Q E → wT F e env M Q' E'
  | .not a, _, _, _, _, _, _, h, hE, w => wT_mono a (fun _ _ q => h _ _ q) hE w
  | .and a b, _, _, _, _, _, _, h, hE, w => wT_mono a (fun k _ q => by
      cases k with
      | true => exact wT_mono b h hE q
      | false => exact h _ _ q) hE w
  | .or a b, _, _, _, _, _, _, h, hE, w => wT_mono a (fun k _ q => by
      cases k with
      | false => exact wT_mono b h hE q
      | true => exact h _ _ q) hE w
  | .v e, _, _, _, _, _, _, h, hE, w => wE_mono e (fun _ _ q => wTru_mono (fun _ q => h _ _ q) q) hE w
theorem wTs_mono : ∀ (e : Option IT) {env : Env} {M : Mem} {Q Q' : Bool → Mem → Prop} {E E' : QX}, (∀ d M, Q d M → Q' d M) → (∀ x M, E x M → E' x M) → wTs F e env M Q E → wTs F e env M Q' E'
  | none, _, _, _, _, _, _, h, _, w => h _ _ w
  | some e, _, _, _, _, _, _, h, hE, w => wT_mono e h hE w
end
end
mutual
theorem wS_mono {F : FS} (hF : FMono F) : ∀ (s : IS) {env : Env} {M : Mem} {K K' : Kt}, K.Le K' → wS F s env M K → wS F s env M K'
  | .pass, _, _, _, _, h, w => h.nx _ _ w
  | .brk, _, _, _, _, h, w => h.bk _ _ w
  | .cnt, _, _, _, _, h, w => h.ct _ _ w
  | .ret e, _, _, _, _, h, w => wE_mono hF e h.rt (fun _ _ q => h.xc _ _ _ q) w
  | .retN, _, _, _, _, h, w => h.rt _ _ w
  | .retO i, _, _, _, _, h, w => by obtain ⟨p, o, e, q⟩ := w; exact ⟨p, o, e, fun hm => h.rt _ _ (q hm)⟩
  | .exp e, _, _, _, _, h, w => wE_mono hF e (fun _ _ q => h.nx _ _ q) (fun _ _ q => h.xc _ _ _ q) w
  | .asg t e, _, _, _, _, h, w => wE_mono hF e (fun _ _ q => wTg_mono (fun _ q => h.nx _ _ q) q) (fun _ _ q => h.xc _ _ _ q) w
  | .unl is e, _, _, _, _, h, w => wE_mono hF e (fun _ _ q => by obtain ⟨a, xs, e1, e2, e3, q⟩ := q; exact ⟨a, xs, e1, e2, e3, h.nx _ _ q⟩) (fun _ _ q => h.xc _ _ _ q) w
  | .asgN i n, _, _, _, _, h, w => wN_mono hF n (fun _ _ q p hp => h.nx _ _ (q p hp)) (fun _ _ q => h.xc _ _ _ q) w
  | .asgM i n, _, _, _, _, h, w => wN_mono hF n (fun _ _ q p hp => h.nx _ _ (q p hp)) (fun _ _ q => h.xc _ _ _ q) w
  | .par i j a b, _, _, _, _, h, w => wE_mono hF a (fun _ _ q => wE_mono hF b (fun _ _ q => h.nx _ _ q) (fun _ _ q => h.xc _ _ _ q) q) (fun _ _ q => h.xc _ _ _ q) w
  | .aug i o e, _, _, _, _, h, w => by
    obtain ⟨x, ex, q⟩ := w
    exact ⟨x, ex, wE_mono hF e (fun _ _ q => wAug_mono (fun _ q => h.nx _ _ q) q) (fun _ _ q => h.xc _ _ _ q) q⟩
  | .app i e, _, _, _, _, h, w => by
    obtain ⟨p, xs, e1, q⟩ := w
    exact ⟨p, xs, e1, wE_mono hF e (fun _ _ q => ⟨q.1, h.nx _ _ q.2⟩) (fun _ _ q => h.xc _ _ _ q) q⟩
  | .set i k e, _, _, _, _, h, w => by
    obtain ⟨p, xs, e1, q⟩ := w
    exact ⟨p, xs, e1, wE_mono hF e (fun _ _ q => wE_mono hF k (fun _ _ q => by obtain ⟨j, m, e2, e3, q⟩ := q; exact ⟨j, m, e2, e3, h.nx _ _ q⟩) (fun _ _ q => h.xc _ _ _ q) q) (fun _ _ q => h.xc _ _ _ q) q⟩
  | .pop i j, _, _, _, _, h, w => by obtain ⟨p, xs, y, e1, e2, e3, q⟩ := w; exact ⟨p, xs, y, e1, e2, e3, h.nx _ _ q⟩
  | .mapp l e, _, _, _, _, h, w => wE_mono hF l (fun _ _ q => by
      obtain ⟨a, ys, e1, e2, q⟩ := q
      exact ⟨a, ys, e1, e2, wE_mono hF e (fun _ _ q => by obtain ⟨xs, e1, e2, q⟩ := q; exact ⟨xs, e1, e2, h.nx _ _ q⟩) (fun _ _ q => h.xc _ _ _ q) q⟩) (fun _ _ q => h.xc _ _ _ q) w
  | .mset l k e, _, _, _, _, h, w => wE_mono hF e (fun _ _ q => wE_mono hF l (fun _ _ q => wE_mono hF k (fun _ _ q => by obtain ⟨p, xs, j, m, e1, e2, e3, e4, q⟩ := q; exact ⟨p, xs, j, m, e1, e2, e3, e4, h.nx _ _ q⟩) (fun _ _ q => h.xc _ _ _ q) q) (fun _ _ q => h.xc _ _ _ q) q) (fun _ _ q => h.xc _ _ _ q) w
  | .maug l k o e, _, _, _, _, h, w => wE_mono hF l (fun _ _ q => wE_mono hF k (fun _ _ q => by
      obtain ⟨a, xs, j, m, v, e1, e2, e3, e4, e5, q⟩ := q
      exact ⟨a, xs, j, m, v, e1, e2, e3, e4, e5, wE_mono hF e (fun _ _ q => wAug_mono (fun _ q => by obtain ⟨xs', e1, e2, q⟩ := q; exact ⟨xs', e1, e2, h.nx _ _ q⟩) q) (fun _ _ q => h.xc _ _ _ q) q⟩) (fun _ _ q => h.xc _ _ _ q) q) (fun _ _ q => h.xc _ _ _ q) w
  | .dset d k e, _, _, _, _, h, w => wE_mono hF e (fun _ _ q => wE_mono hF d (fun _ _ q => wE_mono hF k (fun _ _ q => by obtain ⟨a, es, e1, e2, e3, e4, q⟩ := q; exact ⟨a, es, e1, e2, e3, e4, h.nx _ _ q⟩) (fun _ _ q => h.xc _ _ _ q) q) (fun _ _ q => h.xc _ _ _ q) q) (fun _ _ q => h.xc _ _ _ q) w
  | .fset c f o e, _, _, _, _, h, w => wE_mono hF e (fun _ _ q => wE_mono hF o (fun _ _ q => by obtain ⟨a, fs, e1, e2, e3, q⟩ := q; exact ⟨a, fs, e1, e2, e3, h.nx _ _ q⟩) (fun _ _ q => h.xc _ _ _ q) q) (fun _ _ q => h.xc _ _ _ q) w
  | .ite c t e, _, _, _, _, h, w => wT_mono hF c (fun b _ q => by
      cases b with
      | true => exact wSs_mono hF t h q
      | false => exact wSs_mono hF e h q) (fun _ _ q => h.xc _ _ _ q) w
  | .whl c b, _, _, _, _, h, w => by
    obtain ⟨W, h0, hs⟩ := w
    refine ⟨W, h0, fun m env M hW => wT_mono hF c (fun k M1 q => ?_) (fun _ _ q => h.xc _ _ _ q) (hs m env M hW)⟩
    cases k with
    | true =>
      refine wSs_mono hF b ?_ q
      exact ⟨fun _ _ z => z, h.rt, h.nx, fun _ _ z => z, h.xc⟩
    | false => exact h.nx _ _ q
  | .for_ t it b, _, _, _, _, h, w => by
    unfold wS at w ⊢
    refine wI_mono hF it (fun _ _ _ q => ?_) (fun _ _ q => h.xc _ _ _ q) w
    refine wFor_mono (fun x e M K K' hK q => ?_) h q
    exact wTg_mono (fun _ q => wSs_mono hF b hK q) q
  | .dead, _, _, _, _, _, w => w.elim
  | .raise c fl es, _, _, _, _, h, w => wEs_mono hF es (fun _ _ q => ⟨q.1, h.xc _ _ _ q.2⟩) (fun _ _ q => h.xc _ _ _ q) w
  | .try_ b hs, _, _, _, _, h, w => by
    unfold wS at w ⊢
    refine wSs_mono hF b ?_ w
    exact ⟨h.nx, h.rt, h.bk, h.ct, fun _ _ _ q => wHs_mono hF hs h q⟩
theorem wSs_mono {F : FS} (hF : FMono F) : ∀ (ss : List IS) {env : Env} {M : Mem} {K K' : Kt}, K.Le K' → wSs F ss env M K → wSs F ss env M K'
  | [], _, _, _, _, h, w => h.nx _ _ w
  | s :: ss, _, _, _, _, h, w => by
    unfold wSs at w ⊢
    refine wS_mono hF s ?_ w
    exact ⟨fun _ _ q => wSs_mono hF ss h q, h.rt, h.bk, h.ct, h.xc⟩
theorem wHs_mono {F : FS} (hF : FMono F) : ∀ (hs : IHs) {x : Xn} {env : Env} {M : Mem} {K K' : Kt}, K.Le K' → wHs F hs x env M K → wHs F hs x env M K'
  | .nil, _, _, _, _, _, h, w => h.xc _ _ _ w
  | .cons c yes no i b hs, x, _, _, _, _, h, w => by
    unfold wHs at w ⊢
    split
    · rename_i hc
      rw [if_pos hc] at w
      intro a cl d
      refine wSs_mono (F := { F with pin := fun a' cl' d' => a' = a ∧ cl' = cl ∧ d' = d }) ⟨hF.mono⟩ b ?_ (w a cl d)
      exact ⟨fun _ _ q => h.nx _ _ q, h.rt, fun _ _ q => h.bk _ _ q, fun _ _ q => h.ct _ _ q, fun _ _ _ q => q⟩
    · rename_i hc
      rw [if_neg hc] at w
      exact ⟨w.1, wHs_mono hF hs h w.2⟩
end
theorem wFn_mono (P : List Fn) : ∀ n, FMono (wFn P n)
  | 0 => ⟨fun _ _ w => w.elim⟩
  | n + 1 => ⟨fun {f ds M Q Q' E E'} h hE w => by
    obtain ⟨fn, e, hl, w⟩ := w
    refine ⟨fn, e, hl, wSs_mono (wFn_mono P n) _ ?_ w⟩
    exact ⟨fun _ M' ⟨M2, s, q⟩ => ⟨M2, s, h _ _ q⟩, fun _ M' ⟨M2, s, q⟩ => ⟨M2, s, h _ _ q⟩, fun _ _ z => z, fun _ _ z => z, fun _ _ M' ⟨M2, s, q⟩ => ⟨M2, s, hE _ _ q⟩⟩⟩
end DL
/-! t[::-1] of a tuple. -/
namespace DLK
open PySem PySem.Spec PyProof.Rows L2 HT PySem.W
theorem adjust_rev (n : Nat) : Builtin.Slice.sliceAdjust none none (-1) (n : Int) = ((n : Int) - 1, -1) := rfl
theorem places_rev (n : Nat) : Builtin.Slice.slicePlaces ((n : Int) - 1) (-1) (-1) = n := by
  unfold Builtin.Slice.slicePlaces
  rw [if_neg (show ¬ ((-1 : Int) > 0) by decide)]
  by_cases h : (n : Int) - 1 > -1
  · rw [if_pos h, show (- -1 : Int) = 1 by decide, Int.ediv_one]
    omega
  · rw [if_neg h]
    omega
section
variable {prog : Program} {w : World} {A : Around} {E : Value → Shared → Prop} {s : Shared}
theorem applied_rev {sl : Addr} {vl vu vs : Value} {n : Nat} {Q : Int × Int × Nat → Shared → Prop} (hs : s.heap.IsSliceOf sl vl vu vs) (pl : IsPart vl none) (pu : IsPart vu none) (ps : IsPart vs (some (-1)))
    (h : Q ((n : Int) - 1, -1, n) s) : wpAny (model prog w) A (Builtin.Slice.sliceApplied (.ref sl) (pure (n : Int))) Q E s := by
  obtain ⟨os, hos, hcs, hds⟩ := id hs
  unfold Builtin.Slice.sliceApplied Builtin.Slice.sliceFields
  refine wpAny_bind (wpAny_bind (wpAny_field hos hds (x := vl) rfl (wpAny_bind (wpAny_field hos hds (x := vu) rfl (wpAny_bind (wpAny_field hos hds (x := vs) rfl (wpAny_pure ?_)))))))
  refine wpAny_bind (slicePart_ ps ?_)
  show wpAny _ _ (if ((-1 : Int) == 0) = true then _ else _) _ _ s
  rw [if_neg (by decide)]
  refine wpAny_bind (slicePart_ pl (wpAny_bind (slicePart_ pu (wpAny_bind (wpAny_pure ?_)))))
  show wpAny _ _ (match Builtin.Slice.sliceAdjust none none (-1) (n : Int) with | (lo, hi) => pure (lo, (-1 : Int), Builtin.Slice.slicePlaces lo hi (-1))) _ _ s
  rw [adjust_rev n]
  show wpAny _ _ (pure ((n : Int) - 1, (-1 : Int), Builtin.Slice.slicePlaces ((n : Int) - 1) (-1) (-1))) _ _ s
  rw [places_rev]
  exact wpAny_pure h
theorem pick_rev (xs : Array Value) : ((List.range xs.size).filterMap fun (m : Nat) => xs[(((xs.size : Int) - 1) + (m : Int) * -1).toNat]?).toArray = xs.toList.reverse.toArray := by
  have e : ((List.range xs.size).filterMap fun (m : Nat) => xs[(((xs.size : Int) - 1) + (m : Int) * -1).toNat]?) = ((List.range xs.size).map fun k => xs.size - 1 - k).filterMap (xs[·]?) := by
    rw [List.filterMap_map]
    have : ∀ (l : List Nat), (∀ m ∈ l, m < xs.size) → l.filterMap (fun (m : Nat) => xs[(((xs.size : Int) - 1) + (m : Int) * -1).toNat]?) = l.filterMap ((fun x => xs[x]?) ∘ fun k => xs.size - 1 - k) := by
      intro l
      induction l with
      | nil => intro _; rfl
      | cons m l ih =>
        intro h
        have hm := h m (List.mem_cons_self)
        have e2 : (((xs.size : Int) - 1) + (m : Int) * -1).toNat = xs.size - 1 - m := by omega
        rw [List.filterMap_cons, List.filterMap_cons, ih fun k hk => h k (List.mem_cons_of_mem _ hk), e2]
        rfl
    exact this _ fun m hm => List.mem_range.mp hm
  rw [e, PySem.W.krv_range, List.filterMap_reverse, PySem.W.krv_all]
theorem getItem_tuple_rev {t sl : Addr} {items : Array Value} {vl vu vs : Value} {Q : Value → Shared → Prop} (ht : IsTup s.heap t items) (hs : s.heap.IsSliceOf sl vl vu vs) (pl : IsPart vl none) (pu : IsPart vu none) (ps : IsPart vs (some (-1)))
    (h : Q (.ref s.heap.objs.size) { s with heap := s.heap.push { cls := .type "tuple", data := .seq items.toList.reverse.toArray } })
    (hsz : items.size ≤ sizeLine) : wpAny (model prog w) A (getItem (.ref t) (.ref sl)) Q E s := by
  have htake : sizeOk (.seq items.toList.reverse.toArray) := by
    show items.toList.reverse.toArray.size ≤ sizeLine
    simpa using hsz
  obtain ⟨os, hos, hcs, hds⟩ := id hs
  have hTs : s.TypeIs (.ref sl) "slice" := ⟨os, hos, hcs⟩
  unfold getItem
  try with_reducible refine wpAny_holding ?_
  first | refine wpAny_bind (wpAny_pure ?_) | skip
  refine wpAny_bind (wpAny_sequenceKey ht.typeIs (by decide) ?_)
  refine wpAny_bind (wpAny_callSpecial?_slot (name := Str.ofString "__getitem__") ht.typeIs PyProof.Rows.slot_tuple_getitem
    (wpAny_call_entry PyProof.Rows.slot_tuple_getitem ht.typeIs entry_tuple_getitem ?_ (args_tuple_getitem _ _)))
  show wpAny _ _ (Builtin.Tuple.tupleItemsOf (.ref t) >>= _) _ _ s
  refine wpAny_bind (tupleItemsOf_ ht ?_)
  refine wpAny_bind (wpAny_typeOf hTs ?_)
  rw [if_pos (by decide)]
  refine wpAny_bind (applied_rev hs pl pu ps ?_)
  have hno : ¬ (((items.size : Int) - 1 == 0 && (-1 : Int) == 1 && items.size == items.size) = true) := by simp
  show wpAny _ _ (if ((items.size : Int) - 1 == 0 && (-1 : Int) == 1 && items.size == items.size) = true then _ else _) _ _ s
  rw [if_neg hno, pick_rev]
  first
    | exact wpAny_bind (m := Builtin.Tuple.tupleExact _) (wpAny_newObj_type (wpAny_pure ⟨_, rfl, wpAny_pure h⟩) htake)
    | exact wpAny_bind (m := Builtin.Tuple.tupleExact _) (wpAny_newObj_type (wpAny_bind (wpAny_pure (wpAny_pure ⟨_, rfl, wpAny_pure h⟩))) htake)
    | exact wpAny_bind (wpAny_bind (m := Builtin.Tuple.tupleExact _) (wpAny_newObj_type (wpAny_pure (wpAny_pure ⟨_, rfl, wpAny_pure h⟩)) htake))
    | exact wpAny_bind (wpAny_bind (m := Builtin.Tuple.tupleExact _) (wpAny_newObj_type (wpAny_pure ⟨_, rfl, wpAny_pure h⟩) htake))
end
section
variable {X : Cx}
def tRevT (K : PySem.W.Frag) (te : TE) : TE := fun σ H Q => te σ H fun x H1 => ∃ a xs, x = .ref a ∧ SqT K H1 a xs ∧ ∀ p, H1 p = none → Q (.ref p) (L2.upd H1 p (.tup xs.reverse))
theorem pe_revT {e : Expr} {te : TE} {k : Nat} {p1 p2 p3 pos : Pos} (he : PE X e te) : PE X (.Subscript e (.Slice none none (some (.UnaryOp .USub (.Constant (.int 1) k p1) p2)) p3) pos) (tRevT X.K te) := by
  refine ⟨fun pins s σ H Q I h => ?_⟩
  refine Subscript_ (thn (he.run pins s σ H _ I h) fun v s1 ⟨x, H1, I1, r1, q1⟩ => ?_)
  obtain ⟨a, xs, ex, hx, q⟩ := q1
  subst ex
  cases r1
  have hst : PO X (some (.UnaryOp .USub (.Constant (.int 1) k p1) p2)) (tPart (tUn (rU fun i => .int (-i)) (tC (.int 1)))) := po_some (pe_un un_neg pe_int)
  refine wpAny_Slice (thn (po_none.run pins s1 σ H1 (fun o H2 => o = none ∧ H2 = H1) I1 ⟨rfl, rfl⟩) fun vl s2 ⟨l, H2, I2, pl, el, e2⟩ => ?_)
  subst el e2
  refine thn (po_none.run pins s2 σ H2 (fun o H3 => o = none ∧ H3 = H2) I2 ⟨rfl, rfl⟩) fun vu s3 ⟨u, H3, I3, pu, eu, e3⟩ => ?_
  subst eu e3
  refine thn (hst.run pins s3 σ H3 (fun o H4 => o = some (-1) ∧ H4 = H3) I3 ⟨1, rfl, -1, rfl, rfl, rfl⟩) fun vs s4 ⟨o, H4, I4, ps, eo, e4⟩ => ?_
  subst eo e4
  have I5 : Inv X pins σ H4 { s4 with heap := s4.heap.push { cls := .type "slice", data := .fields #[vl, vu, vs] } } := I4.kept (t' := s4.toks) fun b ob q => Heap.get?_push_of_some _ q
  obtain ⟨its, r, ht, hz⟩ := I5.tuple hx
  have hlen := r.length
  show wpAny (model X.prog X.w) X.A (subscriptTail e (.Slice none none (some (.UnaryOp .USub (.Constant (.int 1) k p1) p2)) p3) (.ref a) (.ref s4.heap.objs.size)) (EP X pins σ Q) X.xe { s4 with heap := s4.heap.push { cls := .type "slice", data := .fields #[vl, vu, vs] } }
  refine tail_any (ops := [.ref a, .ref s4.heap.objs.size]) ht.typeIs PyProof.Rows.slot_tuple_getitem.lookup ?_ (by with_unfolding_all rfl)
  refine getItem_tuple_rev ht (Heap.IsSliceOf.new _ vl vu vs) pl pu ps ?_ (by rw [List.size_toArray]; omega)
  refine ⟨.ref _, _, I5.laid (t' := s4.toks) (o := .tup xs.reverse) (fun b ob q => Heap.get?_push_of_some _ q) (Nat.le_refl _) ?_, rfl, q _ (I5.hok.fresh (Nat.le_refl _))⟩
  exact ⟨by rw [List.length_reverse]; omega, its.reverse, r.reverse, _, Heap.get?_push_size _ rfl, rfl, 0, by simp⟩
end
/-! t[:0:-1] of a tuple. -/
theorem adjust_rev0 (n : Nat) : Builtin.Slice.sliceAdjust none (some 0) (-1) (n : Int) = ((n : Int) - 1, min 0 ((n : Int) - 1)) := rfl
theorem places_rev0 (n : Nat) : Builtin.Slice.slicePlaces ((n : Int) - 1) (min 0 ((n : Int) - 1)) (-1) = n - 1 := by
  unfold Builtin.Slice.slicePlaces
  rw [if_neg (show ¬ ((-1 : Int) > 0) by decide)]
  by_cases h : (n : Int) - 1 > min 0 ((n : Int) - 1)
  · rw [if_pos h, show (- -1 : Int) = 1 by decide, Int.ediv_one]
    omega
  · rw [if_neg h]
    omega
section
variable {prog : Program} {w : World} {A : Around} {E : Value → Shared → Prop} {s : Shared}
theorem applied_rev0 {sl : Addr} {vl vu vs : Value} {n : Nat} {Q : Int × Int × Nat → Shared → Prop} (hs : s.heap.IsSliceOf sl vl vu vs) (pl : IsPart vl none) (pu : IsPart vu (some 0)) (ps : IsPart vs (some (-1)))
    (h : Q ((n : Int) - 1, -1, n - 1) s) : wpAny (model prog w) A (Builtin.Slice.sliceApplied (.ref sl) (pure (n : Int))) Q E s := by
  obtain ⟨os, hos, hcs, hds⟩ := id hs
  unfold Builtin.Slice.sliceApplied Builtin.Slice.sliceFields
  refine wpAny_bind (wpAny_bind (wpAny_field hos hds (x := vl) rfl (wpAny_bind (wpAny_field hos hds (x := vu) rfl (wpAny_bind (wpAny_field hos hds (x := vs) rfl (wpAny_pure ?_)))))))
  refine wpAny_bind (slicePart_ ps ?_)
  show wpAny _ _ (if ((-1 : Int) == 0) = true then _ else _) _ _ s
  rw [if_neg (by decide)]
  refine wpAny_bind (slicePart_ pl (wpAny_bind (slicePart_ pu (wpAny_bind (wpAny_pure ?_)))))
  show wpAny _ _ (match Builtin.Slice.sliceAdjust none (some 0) (-1) (n : Int) with | (lo, hi) => pure (lo, (-1 : Int), Builtin.Slice.slicePlaces lo hi (-1))) _ _ s
  rw [adjust_rev0 n]
  show wpAny _ _ (pure ((n : Int) - 1, (-1 : Int), Builtin.Slice.slicePlaces ((n : Int) - 1) (min 0 ((n : Int) - 1)) (-1))) _ _ s
  rw [places_rev0]
  exact wpAny_pure h
theorem pick_rev0 (xs : Array Value) : ((List.range (xs.size - 1)).filterMap fun (m : Nat) => xs[(((xs.size : Int) - 1) + (m : Int) * -1).toNat]?).toArray = (xs.toList.drop 1).reverse.toArray := by
  have h := congrArg Array.toList (pick_rev xs)
  simp only [] at h
  congr 1
  cases e : xs.toList with
  | nil =>
    have e0 : xs.size = 0 := by rw [← Array.length_toList, e]; rfl
    rw [e0]; rfl
  | cons x t =>
    have e0 : xs.size = t.length + 1 := by rw [← Array.length_toList, e]; rfl
    rw [e, e0, List.range_succ, List.filterMap_append, List.reverse_cons] at h
    have e1 : List.filterMap (fun (m : Nat) => xs[((((t.length + 1 : Nat) : Int) - 1) + (m : Int) * -1).toNat]?) [t.length] = [x] := by
      rw [show List.filterMap (fun (m : Nat) => xs[((((t.length + 1 : Nat) : Int) - 1) + (m : Int) * -1).toNat]?) [t.length] = (xs[((((t.length + 1 : Nat) : Int) - 1) + (t.length : Int) * -1).toNat]?).toList from by
        cases z : xs[((((t.length + 1 : Nat) : Int) - 1) + (t.length : Int) * -1).toNat]? with
        | none => simp only [List.filterMap_cons, List.filterMap_nil, z]; rfl
        | some y => simp only [List.filterMap_cons, List.filterMap_nil, z]; rfl]
      rw [show ((((t.length + 1 : Nat) : Int) - 1) + (t.length : Int) * -1).toNat = 0 from by omega]
      rw [← Array.getElem?_toList, e]; rfl
    rw [e1] at h
    rw [e0]
    exact List.append_cancel_right h
theorem getItem_tuple_rev0 {t sl : Addr} {items : Array Value} {vl vu vs : Value} {Q : Value → Shared → Prop} (ht : IsTup s.heap t items) (hs : s.heap.IsSliceOf sl vl vu vs) (pl : IsPart vl none) (pu : IsPart vu (some 0)) (ps : IsPart vs (some (-1)))
    (h : Q (.ref s.heap.objs.size) { s with heap := s.heap.push { cls := .type "tuple", data := .seq (items.toList.drop 1).reverse.toArray } })
    (hsz : items.size ≤ sizeLine) : wpAny (model prog w) A (getItem (.ref t) (.ref sl)) Q E s := by
  have htake : sizeOk (.seq (items.toList.drop 1).reverse.toArray) := by
    show (items.toList.drop 1).reverse.toArray.size ≤ sizeLine
    rw [List.size_toArray, List.length_reverse, List.length_drop, Array.length_toList]
    omega
  obtain ⟨os, hos, hcs, hds⟩ := id hs
  have hTs : s.TypeIs (.ref sl) "slice" := ⟨os, hos, hcs⟩
  unfold getItem
  try with_reducible refine wpAny_holding ?_
  first | refine wpAny_bind (wpAny_pure ?_) | skip
  refine wpAny_bind (wpAny_sequenceKey ht.typeIs (by decide) ?_)
  refine wpAny_bind (wpAny_callSpecial?_slot (name := Str.ofString "__getitem__") ht.typeIs PyProof.Rows.slot_tuple_getitem
    (wpAny_call_entry PyProof.Rows.slot_tuple_getitem ht.typeIs entry_tuple_getitem ?_ (args_tuple_getitem _ _)))
  show wpAny _ _ (Builtin.Tuple.tupleItemsOf (.ref t) >>= _) _ _ s
  refine wpAny_bind (tupleItemsOf_ ht ?_)
  refine wpAny_bind (wpAny_typeOf hTs ?_)
  rw [if_pos (by decide)]
  refine wpAny_bind (applied_rev0 hs pl pu ps ?_)
  have hno : ¬ (((items.size : Int) - 1 == 0 && (-1 : Int) == 1 && items.size - 1 == items.size) = true) := by simp
  show wpAny _ _ (if ((items.size : Int) - 1 == 0 && (-1 : Int) == 1 && items.size - 1 == items.size) = true then _ else _) _ _ s
  rw [if_neg hno, pick_rev0]
  first
    | exact wpAny_bind (m := Builtin.Tuple.tupleExact _) (wpAny_newObj_type (wpAny_pure ⟨_, rfl, wpAny_pure h⟩) htake)
    | exact wpAny_bind (m := Builtin.Tuple.tupleExact _) (wpAny_newObj_type (wpAny_bind (wpAny_pure (wpAny_pure ⟨_, rfl, wpAny_pure h⟩))) htake)
    | exact wpAny_bind (wpAny_bind (m := Builtin.Tuple.tupleExact _) (wpAny_newObj_type (wpAny_pure (wpAny_pure ⟨_, rfl, wpAny_pure h⟩)) htake))
    | exact wpAny_bind (wpAny_bind (m := Builtin.Tuple.tupleExact _) (wpAny_newObj_type (wpAny_pure ⟨_, rfl, wpAny_pure h⟩) htake))
end
section
variable {X : Cx}
def tRevT0 (K : PySem.W.Frag) (te : TE) : TE := fun σ H Q => te σ H fun x H1 => ∃ a xs, x = .ref a ∧ SqT K H1 a xs ∧ ∀ p, H1 p = none → Q (.ref p) (L2.upd H1 p (.tup (xs.drop 1).reverse))
theorem pe_revT0 {e : Expr} {te : TE} {k k0 : Nat} {p0 p1 p2 p3 pos : Pos} (he : PE X e te) : PE X (.Subscript e (.Slice none (some (.Constant (.int 0) k0 p0)) (some (.UnaryOp .USub (.Constant (.int 1) k p1) p2)) p3) pos) (tRevT0 X.K te) := by
  refine ⟨fun pins s σ H Q I h => ?_⟩
  refine Subscript_ (thn (he.run pins s σ H _ I h) fun v s1 ⟨x, H1, I1, r1, q1⟩ => ?_)
  obtain ⟨a, xs, ex, hx, q⟩ := q1
  subst ex
  cases r1
  have hst : PO X (some (.UnaryOp .USub (.Constant (.int 1) k p1) p2)) (tPart (tUn (rU fun i => .int (-i)) (tC (.int 1)))) := po_some (pe_un un_neg pe_int)
  refine wpAny_Slice (thn (po_none.run pins s1 σ H1 (fun o H2 => o = none ∧ H2 = H1) I1 ⟨rfl, rfl⟩) fun vl s2 ⟨l, H2, I2, pl, el, e2⟩ => ?_)
  subst el e2
  refine thn ((po_some (pe_int (X := X)) : PO X (some (.Constant (.int 0) k0 p0)) (tPart (tC (.int 0)))).run pins s2 σ H2 (fun o H3 => o = some 0 ∧ H3 = H2) I2 ⟨0, rfl, rfl, rfl⟩) fun vu s3 ⟨u, H3, I3, pu, eu, e3⟩ => ?_
  subst eu e3
  refine thn (hst.run pins s3 σ H3 (fun o H4 => o = some (-1) ∧ H4 = H3) I3 ⟨1, rfl, -1, rfl, rfl, rfl⟩) fun vs s4 ⟨o, H4, I4, ps, eo, e4⟩ => ?_
  subst eo e4
  have I5 : Inv X pins σ H4 { s4 with heap := s4.heap.push { cls := .type "slice", data := .fields #[vl, vu, vs] } } := I4.kept (t' := s4.toks) fun b ob q => Heap.get?_push_of_some _ q
  obtain ⟨its, r, ht, hz⟩ := I5.tuple hx
  have hlen := r.length
  show wpAny (model X.prog X.w) X.A (subscriptTail e (.Slice none (some (.Constant (.int 0) k0 p0)) (some (.UnaryOp .USub (.Constant (.int 1) k p1) p2)) p3) (.ref a) (.ref s4.heap.objs.size)) (EP X pins σ Q) X.xe { s4 with heap := s4.heap.push { cls := .type "slice", data := .fields #[vl, vu, vs] } }
  refine tail_any (ops := [.ref a, .ref s4.heap.objs.size]) ht.typeIs PyProof.Rows.slot_tuple_getitem.lookup ?_ (by with_unfolding_all rfl)
  refine getItem_tuple_rev0 ht (Heap.IsSliceOf.new _ vl vu vs) pl pu ps ?_ (by rw [List.size_toArray]; omega)
  refine ⟨.ref _, _, I5.laid (t' := s4.toks) (o := .tup (xs.drop 1).reverse) (fun b ob q => Heap.get?_push_of_some _ q) (Nat.le_refl _) ?_, rfl, q _ (I5.hok.fresh (Nat.le_refl _))⟩
  exact ⟨by rw [List.length_reverse, List.length_drop]; omega, (its.drop 1).reverse, (r.drop 1).reverse, _, Heap.get?_push_size _ rfl, rfl, 0, by simp⟩
end
end DLK
/-! enumerate(a tuple). -/
namespace DLK
open PySem PySem.Spec PyProof.Rows L2
set_option maxHeartbeats 1000000 in
theorem meets_enum1 {v : Value} {o : Obj} {H : Heap → Prop} (B : PySem.Begins v o H) :
    Meets (Builtin.«enumerate.__new__» ⟨[.type "enumerate", v], []⟩) (fun _ R s => H s.heap ∧
      R (.ok (.ret (.ref (s.heap.push o).objs.size))) { s with heap := (s.heap.push o).push { cls := .type "enumerate", data := .fields #[.none, .bool false, .ref s.heap.objs.size, rawInt 0, .none, .none] } }) :=
  .of_wp fun prog w A R s h => by
    obtain ⟨hp, g, d, tk, os⟩ := s; obtain ⟨h1, h⟩ := h
    have hsub := sub_enumerate
    have q1 : ∀ {A' : Around} {E : Value → Shared → Prop} {Q : Value → Shared → Prop}, Q (.ref hp.objs.size) ⟨hp.push o, g, d, tk, os⟩ → wpAny (model prog w) A' (pyIter v) Q E ⟨hp, g, d, tk, os⟩ :=
      fun q => B.iter prog w _ _ ⟨hp, g, d, tk, os⟩ _ h1 q
    wp_walk using q1
    refine wpAny_stack_any fun st => wpAny_pure ?_
    split
    · rename_i c _ _ _ _ _
      cases (c == Value.type "enumerate")
      · wp_walk using q1
        exact ⟨_, rfl, h⟩
      · wp_walk using q1
        exact ⟨_, rfl, h⟩
    · wp_walk using q1
      exact ⟨_, rfl, h⟩
section
variable {prog : Program} {w : World} {A : Around} {E : Value → Shared → Prop} {s : Shared}
theorem call_enum_tup {l : Addr} {items : Array Value} {Q : Value → Shared → Prop} (hL : s.heap.IsTuple l items)
    (h : ∀ h', IsEnum h' (s.heap.objs.size + 1) s.heap.objs.size 0 .none → h'.IsTupleIter s.heap.objs.size l 0 → h'.objs.size = s.heap.objs.size + 2 →
      (∀ b o, s.heap.get? b = some o → h'.get? b = some o) → Q (.ref (s.heap.objs.size + 1)) { s with heap := h' }) :
    wpAny (model prog w) A (call (.type "enumerate") [.ref l]) Q E s := by
  refine callType_new F.called_enumerate (by decide) (F.typeCall_enumerate_1 _) (F.newCall_enumerate_1 _) (fun obj => F.args_object_init_2 obj _) F.entry_enumerate_new
    (meets_enum1 (begins_tuple l items)) ⟨hL, ?_⟩
  have hz : (s.heap.push { cls := .type "tuple_iterator", data := .fields #[.ref l, .int 0 0] }).objs.size = s.heap.objs.size + 1 := Heap.size_push ..
  show _ ∧ _
  rw [hz]
  have he : IsEnum ((s.heap.push { cls := .type "tuple_iterator", data := .fields #[.ref l, .int 0 0] }).push
      { cls := .type "enumerate", data := .fields #[.none, .bool false, .ref s.heap.objs.size, rawInt 0, .none, .none] }) (s.heap.objs.size + 1) s.heap.objs.size 0 .none := by
    have := Heap.get?_push_size (s.heap.push { cls := .type "tuple_iterator", data := .fields #[.ref l, .int 0 0] })
      (o := { cls := .type "enumerate", data := .fields #[.none, .bool false, .ref s.heap.objs.size, rawInt 0, .none, .none] }) rfl
    rw [hz] at this; exact this
  refine ⟨⟨_, he, rfl⟩, h _ he ⟨_, Heap.get?_push_of_some _ (Heap.get?_push_size _ rfl), rfl, rfl⟩ (by rw [Heap.size_push, hz]) fun b o x => Heap.get?_push_of_some _ (Heap.get?_push_of_some _ x)⟩
end
/-- the tuple at a, each item in a new pair -/
def IteT (K : PySem.W.Frag) (a : Addr) (n : Nat) : It :=
  ⟨fun i H => i < n ∧ ∃ (xs : List V) (x : V), SqT K H a xs ∧ xs.length = n ∧ xs[i]? = some x, fun i H v H' => ∃ T x, v = .ref T ∧ H T = none ∧ H' = L2.upd H T (.tup [.int (i : Nat), x]) ∧ ∀ xs, SqT K H a xs → xs[i]? = some x, fun i H => n ≤ i ∧ ∃ xs : List V, SqT K H a xs ∧ xs.length = n⟩
theorem turn_enumT {P : Program} {w : World} {K : PySem.W.Frag} {elts : List Expr} {kk : Nat} {tpos : Pos} (a e it : Addr) (n : Nat) :
    Turn P w K (.Tuple elts kk tpos) (IteT K a n) [e, it] e (fun i h => i ≤ n ∧ (∃ old, IsEnum h e it ((i : Nat) : Int) old) ∧ h.IsTupleIter it a i ∧ e ≠ it) where
  mem := by simp
  obj := fun i h st b hb => by
    obtain ⟨_, ⟨old, he⟩, ⟨o, ho, hc, hd⟩, _⟩ := st
    have e' : b = e ∨ b = it := by simpa using hb
    rcases e' with z | z
    · rw [z]; exact ⟨_, he, fun v q => nomatch q⟩
    · rw [z]; exact ⟨o, ho, fun v q => by rw [hd] at q; cases q⟩
  keep := fun i h h' st k => let ⟨hin, ⟨old, he⟩, hi, hne⟩ := st; ⟨hin, ⟨old, k e (by simp) _ he⟩, hi.at fun o q => k it (by simp) o q, hne⟩
  item := by
    intro X hP hw hK hc i pins s σ H E I hf st hg
    subst hP hw hK
    obtain ⟨hin, ⟨old, he⟩, hit, hne⟩ := st
    obtain ⟨hlt, xs, x, hq, hxn, hx⟩ := hg
    obtain ⟨its, rv, p, hz⟩ := I.tuple hq
    obtain ⟨u, hu, ru⟩ := rv.get hx
    have hsz0 : its.toArray.size = n := by rw [List.size_toArray, ← rv.length]; exact hxn
    have hel : e < s.heap.objs.size := Heap.lt_size he
    have hil : it < s.heap.objs.size := by obtain ⟨_, q, _⟩ := hit; exact Heap.lt_size q
    have hae : a ≠ e := fun z => by
      obtain ⟨o, ho, hc1, _⟩ := p
      subst z
      have : some o = some _ := ho.symm.trans he
      cases this
      have hc1 : Value.type "enumerate" = Value.type "tuple" := hc1
      exact absurd hc1 (by decide)
    have hai : a ≠ it := fun z => by
      obtain ⟨o, ho, hc1, _⟩ := p
      obtain ⟨o2, ho2, hc2, _⟩ := hit
      subst z
      rw [ho] at ho2
      cases ho2
      rw [hc1] at hc2
      exact absurd hc2 (by decide)
    refine wpAny_pyNext_enum_itemD (Draws.tuple (A := X.A.in1) (show X.A.in1.handled = none from I.ok.hd hc) it a hai its.toArray) he ⟨hit, p⟩ (by omega) hne (by simp [hne, hae.symm]) fun y h' tk hP ho hst hT hsz hk => ?_
    have hy : y = u := by
      have h1 : its.toArray[i]? = some u := by simpa using hu
      exact Option.some.inj (hP.symm.trans h1)
    subst hy
    obtain ⟨hit', _⟩ := hst
    refine ⟨_, rfl, wpAny_letOwnedTupleGo_enum (s := { s with heap := h', toks := tk + 1 }) ho fun h'' he' sb => ?_⟩
    have hT2 : h''.get? s.heap.objs.size = some { cls := .type "tuple", data := .seq #[.int i tk, y] } := (sb.2 _ (Nat.ne_of_gt hel)).trans hT
    have new : ObjOk X.prog X.w (L2.upd H s.heap.objs.size (.tup [.int (i : Nat), x])) h'' s.heap.objs.size (.tup [.int (i : Nat), x]) :=
      ⟨by show 2 ≤ sizeLine; decide, [.int i tk, y], .cons ⟨_, rfl⟩ (.cons ru .nil), ⟨_, hT2, rfl, _, rfl⟩⟩
    have I1 : Inv X pins σ (L2.upd H s.heap.objs.size (.tup [.int (i : Nat), x])) { s with heap := h'', toks := tk + 1 } :=
      I.turnedNew (ch := [e, it]) (fun b ob hb q => (sb.2 b (fun z => hb (by simp [z]))).trans (hk b ob (fun z => hb (by simp [z])) (fun z => hb (by simp [z])) q)) hf (Nat.le_refl _) new
    refine ⟨.ref s.heap.objs.size, _, I1, rfl, ⟨_, x, rfl, I.hok.fresh (Nat.le_refl _), rfl, fun ys hy => by rw [I.tuple_inj hy hq]; exact hx⟩, ⟨hlt, ⟨y, ?_⟩, hit'.at fun o q => (sb.2 it (Ne.symm hne)).trans q, hne⟩, fun b hb => ?_⟩
    · have e1 : ((i + 1 : Nat) : Int) = (i : Int) + 1 := by omega
      rw [e1]; exact he'
    · have hb' : b < s.heap.objs.size := by
        have e' : b = e ∨ b = it := by simpa using hb
        rcases e' with z | z
        · rw [z]; exact hel
        · rw [z]; exact hil
      rw [L2.upd_ne (Nat.ne_of_lt hb')]
      exact (hf b hb).1
  done := by
    intro X hP hw hK hc i pins s σ H E I hf st hg
    subst hP hw hK
    obtain ⟨hin, ⟨old, he⟩, hit, hne⟩ := st
    obtain ⟨hle, xs, hq, hxn⟩ := hg
    have hi : i = n := Nat.le_antisymm hin hle
    subst hi
    obtain ⟨its, rv, p, hz⟩ := I.tuple hq
    obtain ⟨f0, f1, f2, f3, f4, f5⟩ := hf it (by simp)
    have hl : its.toArray.size = i := by rw [List.size_toArray, ← rv.length]; exact hxn
    have hai : a ≠ it := fun z => by
      obtain ⟨o, ho, hc1, _⟩ := p
      obtain ⟨o2, ho2, hc2, _⟩ := hit
      subst z
      rw [ho] at ho2
      cases ho2
      rw [hc1] at hc2
      exact absurd hc2 (by decide)
    exact wpAny_pyNext_enum_endD (Draws.tuple (A := X.A.in1) (show X.A.in1.handled = none from I.ok.hd hc) it a hai its.toArray) he (by rw [hl]; exact ⟨hit, p⟩) fun h' eb => ⟨rfl, I.turned (t' := s.toks) (fun b o hb q => eb b o hb q) f0 f1 f3 f4 f5⟩
  self := fun A i s Q E st h => let ⟨_, ⟨_, he⟩, _⟩ := st; wpAny_pyIter_enum he h
/-- enumerate(x), x a list or a tuple -/
def iEnumA (K : PySem.W.Frag) (te : TE) : TI := fun σ H R => te σ H fun v H1 => ∃ (a : Addr) (xs : List V), v = .ref a ∧ ((SqL K H1 a xs ∧ R (Ite K a) H1) ∨ (SqT K H1 a xs ∧ R (IteT K a xs.length) H1))
theorem pi_enumA {X : Cx} {e : Expr} {te : TE} {p pos tpos : Pos} {elts : List Expr} {kk : Nat} (hg : Gl X "enumerate") (hm : X.mg "enumerate" = none) (he : PE X e te) (hs : starEach [e] X.env = (false, eval e X.env) :: starEach [] X.env := by rfl) :
    PI X (.Tuple elts kk tpos) (.Call (.Name "enumerate" p) [e] [] pos) (iEnumA X.K te) := by
  refine ⟨fun pins s σ H R I h => ?_⟩
  refine Call_ (ld_blt I hg hm boot_enumerate (PyProof.Rows.callWith_type1 (args_cons (thn (he.run pins s σ H _ I h) fun u s1 ⟨v, H1, I1, r1, q1⟩ => args_nil ?_) hs) hs rfl))
  obtain ⟨a, xs, ev, q⟩ := q1
  subst ev
  obtain rfl : u = Value.ref a := r1
  have hpf : ∀ b, b ∈ [s1.heap.objs.size + 1, s1.heap.objs.size] → L2.FpOk X pins H1 b := fun b hb => by
    have e' : b = s1.heap.objs.size + 1 ∨ b = s1.heap.objs.size := by simpa using hb
    have hle : s1.heap.objs.size ≤ b := by
      rcases e' with z | z
      · rw [z]; exact Nat.le_add_right _ _
      · rw [z]; exact Nat.le_refl _
    exact I1.fpOk hle (I1.hok.fresh hle)
  rcases q with ⟨hq, q⟩ | ⟨hq, q⟩
  · obtain ⟨its, rv, p', hz⟩ := I1.list hq
    refine call_enumerate_list p'.isList fun h' he hit hsz hk => wpAny_pyIter_enum he ?_
    have I2 : Inv X pins σ H1 { s1 with heap := h' } := I1.kept (t' := s1.toks) hk
    exact ⟨s1.heap.objs.size + 1, [s1.heap.objs.size + 1, s1.heap.objs.size], _, _, H1, rfl, I2, turn_enum a (s1.heap.objs.size + 1) s1.heap.objs.size, ⟨⟨.none, he⟩, hit, Nat.succ_ne_self _⟩, hpf, q⟩
  · obtain ⟨its, rv, p', hz⟩ := I1.tuple hq
    refine call_enum_tup p' fun h' he hit hsz hk => wpAny_pyIter_enum he ?_
    have I2 : Inv X pins σ H1 { s1 with heap := h' } := I1.kept (t' := s1.toks) hk
    exact ⟨s1.heap.objs.size + 1, [s1.heap.objs.size + 1, s1.heap.objs.size], _, _, H1, rfl, I2, turn_enumT a (s1.heap.objs.size + 1) s1.heap.objs.size xs.length, ⟨Nat.zero_le _, ⟨.none, he⟩, hit, Nat.succ_ne_self _⟩, hpf, q⟩
end DLK
/-! Dicts whose keys are tuples of any depth (without texts), as objects of the hand layer. -/
namespace DLK
open PySem PySem.Spec PyProof.Rows L2
mutual
/-- no text in it -/
def nk0 : NestedKey → Bool
  | .text _ => false
  | .tup ks => nk0s ks
  | .none => true
  | .num _ => true
def nk0s : List NestedKey → Bool
  | [] => true
  | k :: ks => nk0 k && nk0s ks
end
mutual
/-- its hash, in any world -/
def hash0 : NestedKey → Int
  | .none => reduceHash 0xFCA86420
  | .num i => hashInt i
  | .text _ => 0
  | .tup ks => reduceHash (Builtin.Tuple.tupleHashOf (hashes0 ks))
def hashes0 : List NestedKey → List Int
  | [] => []
  | k :: ks => hash0 k :: hashes0 ks
end
mutual
theorem hash0_eq {w : World} : ∀ {k : NestedKey}, nk0 k = true → k.hash w = hash0 k
  | .none, _ => rfl
  | .num _, _ => rfl
  | .text _, h => by simp [nk0] at h
  | .tup ks, h => by
    have h' : nk0s ks = true := by simpa [nk0] using h
    simp only [NestedKey.hash, hash0, hashes0_eq (w := w) h']
theorem hashes0_eq {w : World} : ∀ {ks : List NestedKey}, nk0s ks = true → NestedKey.hashes w ks = hashes0 ks
  | [], _ => rfl
  | k :: ks, h => by
    have h' : nk0 k = true ∧ nk0s ks = true := by simpa [nk0s] using h
    simp only [NestedKey.hashes, hashes0, hash0_eq (w := w) h'.1, hashes0_eq (w := w) h'.2]
end
abbrev XE := NestedKey × Addr × Value
def ent0 (x : XE) : DictEntry := ⟨hash0 x.1, .ref x.2.1, x.2.2⟩
/-- the dict at a with these entries -/
def ND (a : Addr) (xs : List XE) : HO := .ext fun h => xs.length ≤ sizeLine ∧ (a == sysModules) = false ∧ ∃ o es ep, h.get? a = some o ∧ o.ExactDict ∧ o.data = .dict es ep ∧ es.toList = xs.map ent0 ∧ (xs.map (·.1)).Nodup
section
variable {P : Program} {w : World} {H : Hp} {h : Heap} {a : Addr} {xs : List XE}
theorem ents {w : World} {xs : List XE} (h : ∀ x ∈ xs, nk0 x.1 = true) : xs.map (entryOfKey (nestedKind P w)) = xs.map ent0 := List.map_congr_left fun x hx => by
  show (⟨x.1.hash w, _, _⟩ : DictEntry) = ⟨hash0 x.1, _, _⟩
  rw [hash0_eq (h x hx)]
theorem nd_mk {h : Heap} (z : xs.length ≤ sizeLine) (hd : (a == sysModules) = false) (n0 : ∀ x ∈ xs, nk0 x.1 = true) (dd : h.DictOfH (nestedKind P w) a xs) : ObjOk P w H h a (ND a xs) := by
  obtain ⟨o, es, ep, h1, h2, h3, h4, _, h5⟩ := dd
  refine ⟨⟨z, hd, o, es, ep, h1, h2, h3, by rw [h4, ents n0], h5⟩, ⟨o, h1⟩, fun h1 h2 ⟨z, hd, o, es, ep, e1, e2, e3, e4, e5⟩ k => ⟨z, hd, o, es, ep, k _ e1, e2, e3, e4, e5⟩⟩
theorem nd_of (ok : HOk P w H h) (e : H a = some (ND a xs)) (n0 : ∀ x ∈ xs, nk0 x.1 = true) (ks : ∀ x ∈ xs, (nestedKind P w).is h x.1 x.2.1) : xs.length ≤ sizeLine ∧ (a == sysModules) = false ∧ h.DictOfH (nestedKind P w) a xs := by
  obtain ⟨⟨z, hd, o, es, ep, e1, e2, e3, e4, e5⟩, _⟩ := (show ObjOk P w H h a (ND a xs) from ok a _ e)
  exact ⟨z, hd, o, es, ep, e1, e2, e3, by rw [e4, ents n0], ks, e5⟩
end
section
variable {X : Cx} {pins : List (Addr × Obj)} {σ : L2.St} {H : Hp} {s : Shared} {a b : Addr} {xs : List XE} {k : NestedKey} {r : Value} {A : Around} {E : Value → Shared → Prop}
/-- what is asked of a dict and a key -/
structure DkN (X : Cx) (s : Shared) (a : Addr) (xs : List XE) (k : NestedKey) (b : Addr) : Prop where
  dd : s.heap.DictOfH (nestedKind X.prog X.w) a xs
  z : xs.length ≤ sizeLine
  sm : (a == sysModules) = false
  n0 : ∀ x ∈ xs, nk0 x.1 = true
  k0 : nk0 k = true
  key : (nestedKind X.prog X.w).is s.heap k b
theorem DkN.room {A : Around} (hu : A.units + 10 < cLine) : A.in1.units + 8 < cLine := by rw [Around.in1_units]; omega
theorem n_get {p : Addr × Value} {Q : Value → Shared → Prop} (hu : A.units + 10 < cLine) (I : Inv X pins σ H s) (d : DkN X s a xs k b) (l : atKey xs k = some p) (h : ∀ s', Inv X pins σ H s' → Q p.2 s') :
    wpAny (model X.prog X.w) A (getItem (.ref a) (.ref b)) Q E s :=
  wpAny_getItem_heap (knd := nestedKind X.prog X.w) (DkN.room hu) d.key d.dd l (h _ (I.tok _))
theorem n_in {Q : Value → Shared → Prop} (hu : A.units + 10 < cLine) (I : Inv X pins σ H s) (d : DkN X s a xs k b) (h : ∀ s', Inv X pins σ H s' → Q (.bool (atKey xs k).isSome) s') :
    wpAny (model X.prog X.w) A (compareOp .In (.ref b) (.ref a)) Q E s :=
  wpAny_in_heap (knd := nestedKind X.prog X.w) (DkN.room hu) d.key d.sm d.dd (h _ (I.tok _))
theorem n_notIn {Q : Value → Shared → Prop} (hu : A.units + 10 < cLine) (I : Inv X pins σ H s) (d : DkN X s a xs k b) (h : ∀ s', Inv X pins σ H s' → Q (.bool (!(atKey xs k).isSome)) s') :
    wpAny (model X.prog X.w) A (compareOp .NotIn (.ref b) (.ref a)) Q E s :=
  wpAny_notIn_heap (knd := nestedKind X.prog X.w) (DkN.room hu) d.key d.sm d.dd (h _ (I.tok _))
theorem stored_n0 {k : NestedKey} {b : Addr} {r : Value} (n0 : ∀ x ∈ xs, nk0 x.1 = true) (k0 : nk0 k = true) : ∀ x ∈ storedH xs k b r, nk0 x.1 = true := by
  intro x hx
  unfold storedH at hx
  split at hx
  · obtain ⟨y, hy, rfl⟩ := List.mem_map.mp hx
    unfold putAt
    split
    · exact n0 y hy
    · exact n0 y hy
  · rcases List.mem_append.mp hx with z | z
    · exact n0 x z
    · rw [List.mem_singleton.mp z]; exact k0
theorem stored_len : (storedH xs k b r).length ≤ xs.length + 1 := by
  unfold storedH
  split
  · rw [List.length_map]; omega
  · rw [List.length_append, List.length_cons, List.length_nil]; omega
theorem n_set {Q : Unit → Shared → Prop} (hu : A.units + 10 < cLine) (I : Inv X pins σ H s) (mu : Mut (H a)) (d : DkN X s a xs k b) (l : xs.length < sizeLine)
    (h : ∀ s', Inv X pins σ (L2.upd H a (ND a (storedH xs k b r))) s' → Q () s') : wpAny (model X.prog X.w) A (setItem (.ref a) (.ref b) r) Q E s := by
  refine wpAny_setItem_heap (knd := nestedKind X.prog X.w) (hsz := d.z) (DkN.room hu) d.key d.dd fun h' dd' hs => h _ ?_
  have he : ∃ q, h'.get? a = some q := let ⟨q, _, _, hq, _⟩ := dd'; ⟨q, hq⟩
  refine d_write I mu hs he (nd_mk ?_ d.sm (stored_n0 d.n0 d.k0) dd')
  have := stored_len (xs := xs) (k := k) (b := b) (r := r)
  omega
theorem n_get2 {Q : Value → Shared → Prop} {x : Value} (hu : A.units + 10 < cLine) (I : Inv X pins σ H s) (d : DkN X s a xs k b) (h : ∀ s', Inv X pins σ H s' → Q (((atKey xs k).map (·.2)).getD x) s') :
    wpAny (model X.prog X.w) A (call (.builtin "dict.get") [.ref a, .ref b, x]) Q E s := by
  refine getOr_keyed (knd := nestedKind X.prog X.w) (DkN.room hu) d.key d.sm ⟨xs, d.dd, rfl⟩ ?_
  rw [valueAt_pairsH]
  exact h _ (I.tok _)
theorem n_get1 {Q : Value → Shared → Prop} (hu : A.units + 10 < cLine) (I : Inv X pins σ H s) (d : DkN X s a xs k b) (h : ∀ s', Inv X pins σ H s' → Q (((atKey xs k).map (·.2)).getD .none) s') :
    wpAny (model X.prog X.w) A (call (.builtin "dict.get") [.ref a, .ref b]) Q E s := by
  refine get_keyed (knd := nestedKind X.prog X.w) (DkN.room hu) d.key d.sm ⟨xs, d.dd, rfl⟩ ?_
  rw [valueAt_pairsH]
  exact h _ (I.tok _)
/-- the empty dict is of both kinds -/
theorem n_empty (I : Inv X pins σ H s) (e : H a = some (.dK [])) : s.heap.DictOfH (nestedKind X.prog X.w) a [] ∧ (a == sysModules) = false := by
  obtain ⟨z, hd, vs, rel, dd⟩ := dk_of I.hok e
  have hv : vs = [] := by cases rel; rfl
  subst hv
  obtain ⟨o, es, ep, h1, h2, h3, _, h4, h5⟩ := dd
  have h4 : es.toList = [] := by
    generalize es.toList = l at h4
    cases h4; rfl
  exact ⟨⟨o, es, ep, h1, h2, h3, h4, (fun x hx => nomatch hx), List.nodup_nil⟩, hd⟩
end
end DLK
set_option maxHeartbeats 2000000
/-! Own error classes: `super().__init__('..')`, then the fields. -/
namespace DLX
open PySem PySem.W PySem.Calls PyProof.Rows PySem.HandSPX
/-! ### plain binding -/
theorem lookup_zip_some {us : List Value} : ∀ {ps : List Str} {n : Str}, us.length = ps.length → n ∈ ps → ((ps.zip us).lookup n).isSome = true := by
  induction us with
  | nil => intro ps n h hn; cases ps <;> simp_all
  | cons u us ih =>
    intro ps n h hn
    cases ps with
    | nil => cases hn
    | cons p ps =>
      rw [List.zip_cons_cons, List.lookup_cons]
      by_cases e : (n == p) = true
      · rw [e]; rfl
      · have e' : (n == p) = false := by simpa using e
        rw [e']
        refine ih (by simpa using h) ?_
        rcases List.mem_cons.mp hn with z | z
        · subst z; simp at e
        · exact z
theorem filterMap_zip {us : List Value} : ∀ {ps : List Str}, us.length = ps.length → ps.Nodup → ps.filterMap (fun n => ((ps.zip us).lookup n).map fun v => (n, v)) = ps.zip us := by
  have gen : ∀ (us : List Value) (ps : List Str) (l : List (Str × Value)), us.length = ps.length → ps.Nodup → (∀ n ∈ ps, l.lookup n = (ps.zip us).lookup n) → ps.filterMap (fun n => (l.lookup n).map fun v => (n, v)) = ps.zip us := by
    intro us
    induction us with
    | nil => intro ps l h nd hl; cases ps <;> simp_all
    | cons u us ih =>
      intro ps l h nd hl
      cases ps with
      | nil => simp at h
      | cons p ps =>
        have h1 : l.lookup p = some u := by rw [hl p (by simp)]; simp
        rw [List.filterMap_cons, h1]
        show (p, u) :: _ = (p, u) :: _
        congr 1
        have nd' := List.nodup_cons.mp nd
        refine ih ps l (by simpa using h) nd'.2 fun n hn => ?_
        rw [hl n (List.mem_cons_of_mem _ hn), List.zip_cons_cons, List.lookup_cons]
        have : (n == p) = false := by simpa using fun z => nd'.1 (by rw [← z]; exact hn)
        rw [this]
  intro ps h nd
  exact gen us ps _ h nd fun _ _ => rfl
theorem bind_plain {fd : FuncData} {as : List Arg} {us : List Value} (hp : fd.params = { posonlyargs := [], args := as, vararg := none, kwonlyargs := [], kw_defaults := [], kwarg := none, defaults := [] }) (hd : fd.defaults = .none)
    (hl : us.length = as.length) (nd : (as.map (·.arg)).Nodup) : bindArgs fd ⟨us, []⟩ = pure ((as.map (·.arg)).zip us) := by
  have hl' : us.length = (as.map (·.arg)).length := by simpa using hl
  have hm : ((as.map (·.arg)).filter fun n => (((as.map (·.arg)).zip us).lookup n).isNone) = [] := by
    rw [List.filter_eq_nil_iff]
    intro n hn
    have := lookup_zip_some hl' hn
    simp only [Option.isNone_iff_eq_none]
    intro z; rw [z] at this; cases this
  have hf := filterMap_zip hl' nd
  unfold bindArgs
  rw [hp, hd]
  simp only [List.map_nil, List.nil_append, List.append_nil, List.length_map]
  have hg : ¬ (us.length > as.length) := by omega
  have hf' : as.filterMap ((fun n => Option.map (fun v => (n, v)) (List.lookup n ((as.map fun x => x.arg).zip us))) ∘ fun x => x.arg) = (as.map fun x => x.arg).zip us := by
    rw [← List.filterMap_map]; exact hf
  have e1 : List.take (as.length - (List.drop ((#[] : Array Value).size - as.length) ([] : List Value)).length) (as.map fun x => x.arg) = as.map fun x => x.arg := by
    simp [List.take_of_length_le]
  simp [seqItems?, hg, hm]
  rw [if_neg (by rw [e1, hm]; simp), hf']
  rfl
/-! ### the text of such an __init__ -/
def sSelf : Str := "self"
/-- self.f = f, one by one -/
def fldSts : List Str → List Stmt → Bool
  | [], [] => true
  | f :: fs, .Assign [.Attribute (.Name x _) g _] (.Name y _) _ :: r => x == sSelf && g == f && y == f && !(f == ("__debug__" : Str)) && fldSts fs r
  | _, _ => false
def initB (fs : List Str) : List Stmt → Bool
  | .Expr (.Call (.Attribute (.Call (.Name x _) [] [] _) m ap) [.Constant (.str _) _ _] [] cp) _ :: r => x == ("super" : Str) && m == ("__init__" : Str) && (ap.endLine == cp.line) && fldSts fs r
  | _ => false
abbrev excX (C t : Addr) (d : Option Addr) : Obj := { cls := .ref C, dict := d, data := .fields #[.ref t, .none, .none, .none, .bool false, .none] }
section
variable {prog : Program} {w : World} {A : Around} {E : Value → Shared → Prop} {K : Frag} {C : Addr}
theorem ldL {env : Env} {m : Str → Option Value} {x : Str} {pos : Pos} {v : Value} {s : Shared} {Q : Value → Shared → Prop} (hn : s.heap.Ns env.locals m) (hv : m x = some v) (h : Q v s)
    (hk : env.scope.kind = .function) (hl : env.kindOf x = some .local) (hd : (x == ("__debug__" : Str)) = false) : wpAny (model prog w) A (eval (.Name x pos) env) Q E s := wpAny_Name (wpAny_loadName_local hk hl hn hv h) hd
/-- half made: what was stored so far -/
structure Half (h0 h : Heap) (x C : Addr) (ds : List (Str × Value)) : Prop where
  keep : ∀ b o, b ≠ x → h0.get? b = some o → h.get? b = some o
  big : h0.objs.size ≤ h.objs.size
  at_ : ∃ t1, (ds = [] ∧ h.get? x = some (excX C t1 none)) ∨ (ds ≠ [] ∧ ∃ dx, h.get? x = some (excX C t1 (some dx)) ∧ h0.objs.size < dx ∧ dx ≠ x ∧ h.Ns1 dx (fun y => ds.lookup y))
theorem _root_.PySem.Heap.Ns1.lt1 {h : Heap} {dx : Addr} {m : Str → Option Value} (n : h.Ns1 dx m) : dx < h.objs.size := by
  obtain ⟨o, es, ep, e, _⟩ := n
  exact Heap.lt_size e
theorem within_look : ∀ (ds : List (Str × Value)), Within (fun y => ds.lookup y) (ds.map (·.1)) := fun ds y hy => by
  induction ds with
  | nil => exact absurd rfl hy
  | cons p ds ih =>
    by_cases e : (y == p.1) = true
    · rw [List.map_cons, beq_iff_eq.mp e]; exact List.mem_cons_self
    · have e' : (y == p.1) = false := by simpa using e
      refine List.mem_cons_of_mem _ (ih ?_)
      intro z
      apply hy
      show List.lookup y (p :: ds) = none
      rw [List.lookup_cons, e']
      exact z
theorem look_put {f : Str} {v : Value} {ds : List (Str × Value)} : (fun y => ((f, v) :: ds).lookup y) = fun y => if y = f then some v else ds.lookup y := by
  funext y
  rw [List.lookup_cons]
  by_cases e : y = f
  · subst e; simp
  · have : (y == f) = false := by simpa using e
    rw [this, if_neg e]
theorem flds_go {env : Env} {L x : Addr} (T : L2.OexC K C) (hk : env.scope.kind = .function) (hself : env.kindOf sSelf = some .local) (hL : env.locals = L) {h0 : Heap} (XK : K.In h0) (hxK : ∀ o, K.lookup x ≠ some o)
    {m : Str → Option Value} (hmx : m sSelf = some (.ref x)) (hLx : L ≠ x) (hL0 : L = h0.objs.size) :
    ∀ (fs : List Str) (vs : List Value) (body : List Stmt) (ds : List (Str × Value)) (s : Shared) (R : Flow → Shared → Prop), fldSts fs body = true → fs.length = vs.length → (∀ f ∈ fs, env.kindOf f = some .local ∧ findIn K (.ref C) f = some none) →
      (∀ p ∈ fs.zip vs, m p.1 = some p.2) → Half h0 s.heap x C ds → s.heap.Ns L m → ds.length + fs.length ≤ 900 →
      (∀ s', Half h0 s'.heap x C ((fs.zip vs).reverse ++ ds) → (∃ tk h, s' = { s with heap := h, toks := tk }) → R .next s') → wpAny (model prog w) A (execs body env) R E s
  | [], vs, body, ds, s, R, hb, hl, _, _, H, _, _, q => by
    cases body with
    | nil => exact wpAny_execs_nil (q s H ⟨s.toks, s.heap, rfl⟩)
    | cons _ _ => simp [fldSts] at hb
  | f :: fs, [], body, ds, s, R, hb, hl, _, _, H, _, _, q => by simp at hl
  | f :: fs, v :: vs, body, ds, s, R, hb, hl, hf, hm, H, hN, hsz, q => by
    unfold fldSts at hb
    split at hb
    · exact absurd ‹f :: fs = []› (by simp)
    · rename_i f' fs' x' px g pg y py pa r h1
      cases h1
      simp only [Bool.and_eq_true, beq_iff_eq, Bool.not_eq_true'] at hb
      obtain ⟨⟨⟨⟨rfl, rfl⟩, rfl⟩, hdb⟩, hb⟩ := hb
      obtain ⟨hfl, hfn⟩ := hf _ List.mem_cons_self
      have hfl := hfl
      have hns : s.heap.Ns env.locals m := by rw [hL]; exact hN
      obtain ⟨oL, esL, epL, hoL, hrL⟩ := hN
      have hLlt : L < s.heap.objs.size := Heap.lt_size hoL
      have X : K.In s.heap := fun a o e => H.keep a o (fun z => hxK o (z ▸ e)) (XK a o e)
      have hm1 : m y = some v := hm (y, v) (by simp)
      obtain ⟨nm, qn, N, bs, bm, sn, sub, ab, col, dd, k0, k1, k2, k3, k5, hC, hbm⟩ := T.cls
      have hcl : clsIn K C = some { name := nm, bases := bs, mro := .ref C :: bm, ns := N, qualname := qn, hasDict := true, slotNames := sn, subclasses := sub, abstract := ab, collection := col, hasDel := false } := by unfold clsIn; rw [hC] <;> rfl
      refine wpAny_execs_cons (plainObj_wpAny_Assign_Attribute ?_)
      refine ldL hns hm1 (ldL hns hmx ?_ hk hself (by decide +kernel)) hk hfl hdb
      obtain ⟨t1, hat | hat⟩ := H.at_
      · obtain ⟨rfl, hx⟩ := hat
        obtain ⟨hp, gg, dr, tk, os⟩ := s
        refine set_plain X (ox := excX C t1 none) (od := none) ⟨hx, rfl, rfl, trivial⟩ T.sa ?_
        refine exc_osa X hx hcl (show refsVE (.ref C :: bm) = true from hbm) rfl hfn (fun h' tk' dx k dn dne hx' hn' => ?_)
        have hbig := H.big
        have hge : h0.objs.size < dx := by rw [← hL0]; exact Nat.lt_of_lt_of_le hLlt dn
        have hlt : dx < h'.objs.size := hn'.lt1
        refine flds_go T hk hself hL XK hxK hmx hLx hL0 fs vs r [(y, v)] ⟨h', gg, dr, tk', os⟩ R hb (by simpa using hl) (fun f hf' => hf f (List.mem_cons_of_mem _ hf')) (fun p hp' => hm p (by simp [hp'])) ⟨fun b o hb' e => k b o hb' (H.keep b o hb' e), Nat.le_of_lt (Nat.lt_trans hge hlt), t1, .inr ⟨by simp, dx, hx', hge, dne, ?_⟩⟩ ⟨oL, esL, epL, k _ _ hLx hoL, hrL⟩ (by simp at hsz ⊢; omega) fun s' h1 h2 => ?_
        · rw [look_put]; exact hn'
        · refine q s' ?_ ?_
          · simpa using h1
          · obtain ⟨tk2, h2', e⟩ := h2
            exact ⟨tk2, h2', e⟩
      · obtain ⟨hne, dx, hx, hge, dne, hns1⟩ := hat
        obtain ⟨hp, gg, dr, tk, os⟩ := s
        obtain ⟨oD, esD, epD, hoD, hdD, hcD⟩ := hns1.count (within_look ds)
        refine set_plain X (ox := excX C t1 (some dx)) (od := some oD) ⟨hx, rfl, rfl, hoD⟩ T.sa ?_
        refine PySem.OEX.osa_old X hx hns1 (within_look ds) (by rw [List.length_map]; simp at hsz; omega) hcl (show refsVE (.ref C :: bm) = true from hbm) rfl hfn (fun h' tk' k hn' => ?_)
        refine flds_go T hk hself hL XK hxK hmx hLx hL0 fs vs r ((y, v) :: ds) ⟨h', gg, dr, tk', os⟩ R hb (by simpa using hl) (fun f hf' => hf f (List.mem_cons_of_mem _ hf')) (fun p hp' => hm p (by simp [hp'])) ⟨fun b o hb' e => k b o (fun z => ?_) (H.keep b o hb' e), Nat.le_of_lt (Nat.lt_trans hge hn'.lt1), t1, .inr ⟨by simp, dx, k x _ dne.symm hx, hge, dne, ?_⟩⟩ ⟨oL, esL, epL, k _ _ (by rw [hL0]; exact Nat.ne_of_lt hge) hoL, hrL⟩ (by simp at hsz ⊢; omega) fun s' h1 h2 => ?_
        · subst z
          exact absurd (Heap.lt_size e) (Nat.not_lt.mpr (Nat.le_of_lt hge))
        · rw [look_put]; exact hn'
        · refine q s' ?_ ?_
          · simpa using h1
          · obtain ⟨tk2, h2', e⟩ := h2
            exact ⟨tk2, h2', e⟩
    · simp at hb
/-! ### the first row: super().__init__('..') -/
structure SupTxt (prog : Program) (K : Frag) (mg : Str → Option Value) (C fI cc cda : Addr) : Prop where
  O : L2.OexC K C
  sup : ks_superIn K C C "__init__" = some (some (.builtin "ValueError.__init__"))
  isB : subIn K (.ref C) (.type "ValueError") = some true
  any : nsIn K cStatics "thirdparty.any" = some none
  cell : ∃ cl cld csl, K.lookup cc = some ⟨cl, cld, .cell (some (.ref C)), csl⟩
  code : ∃ ccl cdd vs ccs file tf, K.lookup cda = some ⟨ccl, cdd, .fields vs, ccs⟩ ∧ vs[2]? = some (.str file tf) ∧ ((prog.main.file : Str) == file) = true
  mr : mroIn K C (.ref C) = some true
  mgS : mg "super" = none
  top : (prog.main.scope.names.lookup ("super" : Str)).isSome = false
theorem lookup_of_mem {α : Type} {k : Str} {v : α} : ∀ {l : List (Str × α)}, (l.map (·.1)).Nodup → (k, v) ∈ l → l.lookup k = some v
  | [], _, h => nomatch h
  | (k', v') :: l, nd, h => by
    rw [List.lookup_cons]
    rw [List.map_cons] at nd
    obtain ⟨n1, n2⟩ := List.nodup_cons.mp nd
    rcases List.mem_cons.mp h with z | z
    · cases z; simp
    · have : (k == k') = false := by
        refine beq_false_of_ne fun e => n1 ?_
        rw [← e]
        exact List.mem_map.mpr ⟨(k, v), z, rfl⟩
      rw [this]
      exact lookup_of_mem n2 z
theorem zip_keys {α : Type} : ∀ {fs : List Str} {vs : List α}, fs.length = vs.length → (fs.zip vs).map (·.1) = fs := fun {fs vs} h => by rw [List.map_fst_zip]; omega
theorem lookup_rev {α : Type} {k : Str} {v : α} {fs : List Str} {vs : List α} (nd : fs.Nodup) (hl : fs.length = vs.length) (h : (k, v) ∈ fs.zip vs) : (fs.zip vs).reverse.lookup k = some v := by
  refine lookup_of_mem ?_ (List.mem_reverse.mpr h)
  rw [List.map_reverse, zip_keys hl]
  exact List.pairwise_reverse.mpr (nd.imp Ne.symm)
theorem call_mw {C e t0 u : Addr} {rest : List Value} {Q : Value → Shared → Prop} {h : Heap} {g : Array GenState} {d : Drawn} {t : Nat} {os : OsState} (T : L2.OexC K C) (X : K.In h) (he : h.get? e = some (excX C t0 none)) (hu : h.get? u = some (kxs_mw "ValueError.__init__" e)) (hrest : rest.length ≤ sizeLine)
    (hq : ∀ h' t1, (∀ b o, b ≠ e → h.get? b = some o → h'.get? b = some o) → h'.get? e = some (excX C t1 none) → Q .none ⟨h', g, d, t, os⟩) :
    wpAny (model prog w) A (call (.ref u) rest) Q E ⟨h, g, d, t, os⟩ := by
  obtain ⟨nm, qn, N, bs, bm, sn, sub, ab, col, dd, k0, k1, k2, k3, k5, hC, hbm⟩ := T.cls
  refine wpAny_call (codeAny_of_tree ?_)
  show wpAny _ A.in1 (callAny (.ref u) ⟨rest, []⟩) _ _ _
  simp only [callAny]
  refine wpAny_bind (wpAny_load hu ?_)
  simp only [kxs_mw, show (Value.type "method-wrapper" == Value.type "method" || Value.type "method-wrapper" == Value.type "builtin_function_or_method" || Value.type "method-wrapper" == Value.type "method-wrapper") = true by decide, if_true]
  refine KFB.if_so (by decide) ?_
  refine wpAny_bind (check_bound_init F.excBase_ValueError.toExcCallFacts (X _ _ hC) he rfl ?_)
  refine wpAny_bind (wpAny_pure (wpAny_pure ?_))
  refine ⟨plainId_quiet F.excBase_ValueError.init.plain _, codeAny_builtin F.excBase_ValueError.initEntry ?_⟩
  refine exc_init_tree (cls := .ref C) (t0 := t0) (dv := none) (c2 := .none) (c3 := .none) (b4 := .bool false) he hrest fun h' k e' _ => hq h' _ k e'
theorem meth_form {o : Expr} {name : Str} {apos pos p : Pos} {m : Str} {j : Nat} {env : Env} (hline : apos.endLine = pos.line) : eval (.Call (.Attribute o name apos) [.Constant (.str m) j p] [] pos) env = (do
      let ov ← attributeBase o name env (eval o env)
      standAt apos.atName
      let (f, first) ← holding [ov] (getMethod ov name (do return (← importBound o env).getD true))
      callWith pos f first (backTo pos (starEach [.Constant (.str m) j p] env)) []) := by
  have hform : methodCallForm (1 + 0) (backTo pos (starEach [.Constant (.str m) j p] env)) (backToKw pos (keywordEach [] env)) = true := rfl
  have hpos : methodCallPos true o env apos pos = pure pos := by unfold methodCallPos; simp [hline]
  rw [arm_eval_Call]
  unfold methodCall
  simp only [List.length_cons, List.length_nil, hform, hpos, calleeOf, if_true, pure_bind]
  rfl
/-- a whole __init__ -/
theorem init_go {mg mb : Str → Option Value} {fI cc cda x t0 : Addr} {fs : List Str} {vs : List Value} {body : List Stmt} {name qual : Str} {params : Arguments} {as : List Arg} {scope : Scope} {kV doc pm ct oc : Value} {an od : Option Addr} {osl : Array (Option Value)} {s : Shared} {R : Result → Shared → Prop}
    (T : SupTxt prog K mg C fI cc cda) (hfn : K.lookup fI = some ⟨oc, od, .func (ksFn name qual params body scope .none kV doc pm an (.ref cda) ct cc), osl⟩) (hcd : codeIn K (.ref cda) qual = true)
    (hb : initB fs body = true) (hp : params = { posonlyargs := [], args := as, vararg := none, kwonlyargs := [], kw_defaults := [], kwarg := none, defaults := [] }) (has : as.map (·.arg) = sSelf :: fs) (nd : (sSelf :: fs).Nodup)
    (sc1 : scope.kind = .function) (sc2 : scope.isCoroutine = false) (sc3 : scope.isGenerator = false) (sc4 : ∀ y ∈ sSelf :: fs, scope.names.lookup y = some .local) (sc5 : scope.names.lookup ("super" : Str) = some .globalImplicit)
    (sc6 : scope.names.lookup ("__class__" : Str) = some .free) (sc7 : ∀ y ∈ scope.names, y.2 ≠ .cell) (noN : ∀ f ∈ fs, findIn K (.ref C) f = some none) (hl : fs.length = vs.length) (hfl : fs.length ≤ 800)
    (X : K.In s.heap) (hlim : s.heap.NoLimit) (hG : s.heap.Ns mainGlobals mg) (hB : s.heap.Ns builtinsNs mb) (hmb : mb "super" = bootBuiltins "super") (hx : s.heap.get? x = some (excO C t0)) (hxK : ∀ o, K.lookup x ≠ some o) (hroom : A.depth < recursionLimit)
    (hq : ∀ h' tk, Half s.heap h' x C (fs.zip vs).reverse → R (.ok (.ret .none)) { s with heap := h', toks := tk }) :
    codeAny (model prog w) A (.call (.ref fI) ⟨.ref x :: vs, []⟩) R s := by
  have hlen : (Value.ref x :: vs).length = as.length := by
    have := congrArg List.length has
    simp at this
    simp; omega
  have hbind : BindsTo s (ksFn name qual params body scope .none kV doc pm an (.ref cda) ct cc) ⟨.ref x :: vs, []⟩ ((sSelf :: fs).zip (.ref x :: vs)) := .of_eq (by
    rw [← has]
    exact bind_plain hp rfl hlen (by rw [has]; exact nd))
  have hnd := List.nodup_cons.mp nd
  have hmself : (((sSelf :: fs).zip (Value.ref x :: vs)).reverse.lookup sSelf) = some (.ref x) := lookup_rev nd (by simp [hl]) (by simp)
  have hmf : ∀ p ∈ fs.zip vs, (((sSelf :: fs).zip (Value.ref x :: vs)).reverse.lookup p.1) = some p.2 := fun p hp' => lookup_rev nd (by simp [hl]) (by rw [List.zip_cons_cons]; exact List.mem_cons_of_mem _ hp')
  refine ks_codeAny_call_defAt (fd := ksFn name qual params body scope .none kV doc pm an (.ref cda) ct cc) (body := body) (binds := (sSelf :: fs).zip (.ref x :: vs)) hroom (X _ _ hfn) rfl hlim (codeRec_of X hcd) rfl hbind sc7 (fun y hy => sc4 y.1 (List.of_mem_zip hy).1) (fun h₁ hns hk₁ => ?_) sc2 sc3 sc1
  unfold initB at hb
  split at hb
  · rename_i xs q1 q2 m q3 str j q4 q5 q6 r
    simp only [Bool.and_eq_true, beq_iff_eq] at hb
    obtain ⟨⟨⟨rfl, rfl⟩, hline⟩, hbf⟩ := hb
    have X₁ : K.In h₁ := X.keeps hk₁
    have hx₁ := hk₁ _ _ hx
    obtain ⟨cl, cld, csl, hcell⟩ := T.cell
    obtain ⟨ccl, cdd, cvs, ccs, file, tf, hcode, hvs, hfile⟩ := T.code
    obtain ⟨nm, qn, N, bs, bm, sn, sub, ab, col, dd, k0, k1, k2, k3, k5, hC, hbm⟩ := T.O.cls
    have hcl : clsIn K C = some { name := nm, bases := bs, mro := .ref C :: bm, ns := N, qualname := qn, hasDict := true, slotNames := sn, subclasses := sub, abstract := ab, collection := col, hasDel := false } := by unfold clsIn; rw [hC] <;> rfl
    have hxC : x ≠ C := fun z => hxK _ (z ▸ hC)
    have ekind : (callEnv (ksFn name qual params (.Expr (.Call (.Attribute (.Call (.Name "super" q1) [] [] q2) "__init__" q3) [.Constant (.str str) j q4] [] q5) q6 :: r) scope .none kV doc pm an (.ref cda) ct cc) s.heap.objs.size fI).scope.kind = .function := sc1
    obtain ⟨env, henv⟩ : ∃ env, callEnv (ksFn name qual params (.Expr (.Call (.Attribute (.Call (.Name "super" q1) [] [] q2) "__init__" q3) [.Constant (.str str) j q4] [] q5) q6 :: r) scope .none kV doc pm an (.ref cda) ct cc) s.heap.objs.size fI = env := ⟨_, rfl⟩
    rw [henv]
    have eloc : env.locals = s.heap.objs.size := by rw [← henv]; rfl
    have eglob : env.globals = mainGlobals := by rw [← henv]; rfl
    have eblt : env.builtins = builtinsNs := by rw [← henv]; rfl
    have ek : ∀ y, env.kindOf y = scope.names.lookup y := fun y => by rw [← henv]; rfl
    rw [henv] at ekind
    have eint : interactive env = false := by unfold interactive; rw [ekind]; rfl
    obtain ⟨a0, as', has0, ha0⟩ : ∃ a0 as', as = a0 :: as' ∧ a0.arg = sSelf := by
      cases as with
      | nil => cases has
      | cons a0 as' => exact ⟨a0, as', rfl, (List.cons.inj has).1⟩
    obtain ⟨mb', hmb'⟩ : ∃ z, mb ("super" : Str) = z := ⟨_, rfl⟩
    have hboot : mb ("super" : Str) = some (.type "super") := hmb.trans (by decide +kernel)
    refine ks_wpAt_execs_cons (ks_wpAt_Expr_any (ks_wpAt_MethodCall ?_ (meth_form hline)) eint)
    refine ks_wpAt_super_base (cc := cda) (f := fI) ((ek _).trans sc5) ((ek _).trans sc6) (by decide +kernel) (by rw [← henv]; rfl) (X₁ _ _ hfn) rfl (ar := a0) ?_ (by rw [← henv]; rfl) (X₁ _ _ hcode) rfl hvs hfile T.top ?_
    · show (params.posonlyargs ++ params.args).head? = some a0
      rw [hp, has0]; rfl
    refine ks_loadName_global ekind ((ek _).trans sc5) (loadGlobal_builtin (mg := mg) (mb := mb) (by rw [eglob]; exact hG.keeps hk₁) T.mgS (by rw [eblt]; exact hB.keeps hk₁) hboot ⟨rfl, ?_⟩)
    refine wpAny_loadName_free (c := cc) ekind ((ek _).trans sc6) (by rw [← henv]; rfl) ⟨_, X₁ _ _ hcell, rfl⟩ ?_
    refine wpAny_loadName_local (v := .ref x) ekind (by rw [ha0]; exact (ek _).trans (sc4 _ List.mem_cons_self)) (by rw [eloc]; exact hns) (by rw [ha0]; exact hmself) ?_
    refine ks_wpAny_isType_cls (X₁ _ _ hC) rfl ⟨rfl, ?_⟩
    refine ks_wpAny_call_super (X₁ _ _ hC) rfl hx₁ rfl (fun c z => by cases z) (looks_mroIn X₁ T.mr) (fun h₂ e2 k2 => ?_)
    have X₂ : K.In h₂ := X₁.keeps k2
    have hx₂ := k2 _ _ hx₁
    have hI : Looks (model prog w) h₂ (isInstance (.ref x) (.type "ValueError")) true := (InstAt.type (⟨hx₂, rfl, rfl, trivial⟩ : InstAt h₂ x (excO C t0) C none)).andThen (looks_subIn X₂ T.isB)
    have hal : alongIn K "__init__" (((Value.ref C :: bm).dropWhile (· != .ref C)).drop 1) = some (some (.builtin "ValueError.__init__")) := by
      have := T.sup
      unfold ks_superIn at this
      rw [hcl] at this
      exact this
    refine kxs_getMethod kxs_ValueError e2 (looks_opaque X₂ T.any) (l₀ := .ref C :: bm) (fun A Q E s k q => wpAny_bind ((looks_clsIn X₂ hcl) A _ E s k (wpAny_pure q))) rfl X₂ hal hI hxC (by decide +kernel) ?_
    have X₃ : K.In (h₂.push (kxs_mw "ValueError.__init__" x)) := X₂.keeps fun b o e => Heap.get?_push_of_some _ e
    have hx₃ : (h₂.push (kxs_mw "ValueError.__init__" x)).get? x = some (excX C t0 none) := Heap.get?_push_of_some _ hx₂
    have hu₃ : (h₂.push (kxs_mw "ValueError.__init__" x)).get? h₂.objs.size = some (kxs_mw "ValueError.__init__" x) := Heap.get?_push_at rfl rfl
    refine kxs_callWith (i := "ValueError.__init__") (x := x) rfl (Calls.evalArgs_plain ?_)
    refine Calls.spliced_cons (x := eval (.Constant (.str str) j q4) env) (rest := []) (wpAny_Constant_str (Calls.spliced_nil ⟨hu₃, ?_⟩))
    refine call_mw T.O X₃ hx₃ hu₃ (by show 1 ≤ sizeLine; rw [sizeLine_eq]; omega) fun h₄ t1 k4 hx₄ => ?_
    have k14 : ∀ b o, b ≠ x → h₁.get? b = some o → h₄.get? b = some o := fun b o hb e => k4 b o hb (Heap.get?_push_of_some _ (k2 b o e))
    have hLx : s.heap.objs.size ≠ x := Nat.ne_of_gt (Heap.lt_size hx)
    obtain ⟨oL, esL, epL, hoL, hrL⟩ := hns
    have hxg : ∀ b o, s.heap.get? b = some o → b ≠ s.heap.objs.size := fun b o e => Nat.ne_of_lt (Heap.lt_size e)
    have hbig : s.heap.objs.size ≤ h₄.objs.size := Nat.le_of_lt (Heap.lt_size (k14 _ _ hLx hoL))
    have Hf : Half s.heap h₄ x C [] := ⟨fun b o hb e => k14 b o hb (hk₁ b o e), hbig, t1, .inl ⟨rfl, hx₄⟩⟩
    refine wpAt_of_wpAny ?_
    refine flds_go T.O ekind ((ek _).trans (sc4 _ List.mem_cons_self)) eloc X hxK hmself hLx rfl fs vs r [] _ _ hbf hl (fun f hf => ⟨(ek _).trans (sc4 _ (List.mem_cons_of_mem _ hf)), noN f hf⟩) hmf Hf ⟨oL, esL, epL, k14 _ _ hLx hoL, hrL⟩ (by simp; omega) fun s' H' hs' => ?_
    obtain ⟨tk, h5, rfl⟩ := hs'
    rw [List.append_nil] at H'
    exact hq h5 tk H'
  · cases hb
/-! ### C(v, ..) -/
/-- the text of the class's __init__, at st -/
def argsB (a : Arguments) (ps : List Str) : Bool :=
  a.posonlyargs.isEmpty && a.vararg.isNone && a.kwonlyargs.isEmpty && a.kw_defaults.isEmpty && a.kwarg.isNone && a.defaults.isEmpty && (a.args.map (·.arg) == ps)
def nodB : List Str → Bool
  | [] => true
  | x :: xs => !(xs.any fun y => y == x) && nodB xs
theorem nodB_ok : ∀ {xs : List Str}, nodB xs = true → xs.Nodup
  | [], _ => List.nodup_nil
  | x :: xs, h => by
    simp only [nodB, Bool.and_eq_true, Bool.not_eq_true', List.any_eq_false, beq_iff_eq] at h
    exact List.nodup_cons.mpr ⟨fun hx => h.1 x hx rfl, nodB_ok h.2⟩
theorem args_of {a : Arguments} {ps : List Str} (h : argsB a ps = true) : ∃ as : List Arg, a = { posonlyargs := [], args := as, vararg := none, kwonlyargs := [], kw_defaults := [], kwarg := none, defaults := [] } ∧ as.map (·.arg) = ps := by
  unfold argsB at h
  simp only [Bool.and_eq_true, beq_iff_eq, List.isEmpty_iff, Option.isNone_iff_eq_none] at h
  obtain ⟨⟨⟨⟨⟨⟨h1, h2⟩, h3⟩, h4⟩, h5⟩, h6⟩, h7⟩ := h
  refine ⟨a.args, ?_, h7⟩
  cases a
  simp only at h1 h2 h3 h4 h5 h6
  subst h1 h2 h3 h4 h5 h6
  rfl
def initOkB (fs : List Str) (params : Arguments) (body : List Stmt) (sc : Scope) : Bool :=
  initB fs body && argsB params (sSelf :: fs) && nodB (sSelf :: fs) && (sc.kind == .function) && !sc.isCoroutine && !sc.isGenerator && ((sSelf :: fs).all fun y => sc.names.lookup y == some .local) && (sc.names.lookup ("super" : Str) == some .globalImplicit) &&
    (sc.names.lookup ("__class__" : Str) == some .free) && (sc.names.all fun y => !(y.2 == .cell)) && decide (fs.length ≤ 800)
/-- the class C with fields fs and an __init__ of its own -/
structure OwnI (prog : Program) (K : Frag) (mg : Str → Option Value) (C : Addr) (fs : List Str) : Prop where
  noN : ∀ f ∈ fs, findIn K (.ref C) f = some none
  ex : ∃ fI cc cda oc od name qual params body scope kV doc pm an ct osl, SupTxt prog K mg C fI cc cda ∧ K.lookup fI = some ⟨oc, od, .func (ksFn name qual params body scope .none kV doc pm an (.ref cda) ct cc), osl⟩ ∧ initOkB fs params body scope = true ∧ codeIn K (.ref cda) qual = true ∧
    findIn K (.ref C) "__init__" = some (some (.ref fI)) ∧ typeIn K (.ref fI) = some (.type "function")
/-- what C(..) leaves -/
structure MadeE (h h' : Heap) (e C : Addr) (d : Option Addr) (fvs : List (Str × Value)) : Prop where
  keep : ∀ b o, h.get? b = some o → h'.get? b = some o
  new : h.objs.size ≤ e
  obj : ∃ oe vs, h'.get? e = some oe ∧ oe.cls = .ref C ∧ oe.dict = d ∧ oe.data = .fields vs ∧ vs[1]? = some .none ∧ vs[2]? = some .none
  dict : (d = none ∧ fvs = []) ∨ ∃ dx, d = some dx ∧ h.objs.size ≤ dx ∧ dx ≠ e ∧ h'.Ns1 dx (fun y => fvs.lookup y)
theorem made_go {mg mb : Str → Option Value} {C : Addr} {fs : List Str} {vs : List Value} {s : Shared} {R : Result → Shared → Prop} (T : OwnI prog K mg C fs) (hl : fs.length = vs.length) (X : K.In s.heap) (hlim : s.heap.NoLimit)
    (hG : s.heap.Ns mainGlobals mg) (hB : s.heap.Ns builtinsNs mb) (hmb : mb "super" = bootBuiltins "super") (hroom : A.depth + 1 < recursionLimit)
    (hq : ∀ h' tk e d, MadeE s.heap h' e C d (fs.zip vs).reverse → R (.ok (.ret (.ref e))) { s with heap := h', toks := tk }) :
    codeAny (model prog w) A (.call (.ref C) ⟨vs, []⟩) R s := by
  obtain ⟨fI, cc, cda, oc, od, name, qual, params, body, scope, kV, doc, pm, an, ct, osl, S, hfn, hok, hcd, iC, tI⟩ := T.ex
  obtain ⟨nm, qn, N, bs, bm, sn, sub, ab, col, dd, k0, k1, k2, k3, k5, hC, hbm⟩ := S.O.cls
  unfold initOkB at hok
  simp only [Bool.and_eq_true, Bool.not_eq_true', beq_iff_eq, decide_eq_true_eq] at hok
  obtain ⟨⟨⟨⟨⟨⟨⟨⟨⟨⟨o1, o2⟩, o3⟩, o4⟩, o5⟩, o6⟩, o7⟩, o8⟩, o9⟩, o10⟩, o11⟩ := hok
  obtain ⟨as, e2, e3⟩ := args_of o2
  obtain ⟨hp, g, dr, tk, os⟩ := s
  have k : ∀ b o, hp.get? b = some o → ((hp.push (kdv_tup vs)).push (excO C hp.objs.size)).get? b = some o := fun b o e => Heap.get?_push_of_some _ (Heap.get?_push_of_some _ e)
  have hget : ((hp.push (kdv_tup vs)).push (excO C hp.objs.size)).get? (hp.objs.size + 1) = some (excO C hp.objs.size) := by heap_get
  have hnx : ∀ o, K.lookup (hp.objs.size + 1) ≠ some o := fun o e => by
    have z : hp.get? (hp.objs.size + 1) = some o := X _ _ e
    exact absurd (Nat.lt_of_succ_lt (Heap.lt_size z)) (Nat.lt_irrefl _)
  have hsz : vs.length ≤ sizeLine := by rw [← hl, sizeLine_eq]; omega
  refine call_own F.excBase_ValueError (fun X => refsVE_contains X bm hbm) (X _ _ hC) (looks_findIn X iC) (fun self => bind_fn X self tI) hsz ?_
  refine init_go (s := ⟨(hp.push (kdv_tup vs)).push (excO C hp.objs.size), g, dr, tk, os⟩) S hfn hcd o1 e2 e3 (nodB_ok o3) o4 o5 o6 (fun y hy => by simpa using List.all_eq_true.mp o7 y hy) o8 o9 (fun y hy z => by have := List.all_eq_true.mp o10 y hy; rw [z] at this; exact absurd this (by decide)) T.noN hl o11
    (X.keeps k) (hlim.keeps k) (hG.keeps k) (hB.keeps k) hmb hget hnx ?_ fun h' tk' H => ?_
  · show A.depth + 1 < recursionLimit
    exact hroom
  · have old : ∀ b o, hp.get? b = some o → h'.get? b = some o := fun b o e => H.keep b o (Nat.ne_of_lt (Nat.lt_succ_of_lt (Heap.lt_size e))) (k b o e)
    obtain ⟨t1, ⟨e0, hx⟩ | ⟨hne, dx, hx, hge, dne, hns⟩⟩ := H.at_
    · exact ⟨rfl, hq h' tk' (hp.objs.size + 1) none ⟨old, Nat.le_succ _, ⟨_, _, hx, rfl, rfl, rfl, rfl, rfl⟩, .inl ⟨rfl, e0⟩⟩⟩
    · refine ⟨rfl, hq h' tk' (hp.objs.size + 1) (some dx) ⟨old, Nat.le_succ _, ⟨_, _, hx, rfl, rfl, rfl, rfl, rfl⟩, .inr ⟨dx, rfl, ?_, dne, hns⟩⟩⟩
      have z : ((hp.push (kdv_tup vs)).push (excO C hp.objs.size)).objs.size ≤ dx := Nat.le_of_lt hge
      rw [Heap.size_push, Heap.size_push] at z
      exact Nat.le_trans (Nat.le_trans (Nat.le_succ _) (Nat.le_succ _)) z
end
/-! ### what the written part says of the classes, by a check -/
def clsAt (K : Frag) (n : String) : Option Addr := match nsIn K mainGlobals (n : Str) with
  | some (some (.ref C)) => some C
  | _ => none
theorem clsAt_ns {K : Frag} {n : String} {C : Addr} (h : clsAt K n = some C) : nsIn K mainGlobals (n : Str) = some (some (.ref C)) := by
  unfold clsAt at h
  split at h
  · rename_i e; cases h; exact e
  · cases h
def oexB (K : Frag) (C : Addr) : Bool :=
  (match K.lookup C with
  | some ⟨.type t, _, .cls cd, sl⟩ => (match cd.mro, sl.toList with
    | .ref C' :: bm, [_, _, _, _, some (.builtin n), _] => t == "type" && C' == C && n == "ValueError.__new__" && !cd.hasDel && cd.hasDict && refsVE bm
    | _, _ => false)
  | _ => false) && (findIn K (.ref C) "__setattr__" == some (some (.builtin "object.__setattr__"))) && (subIn K (.ref C) (.type "BaseException") == some true) && (typeIn K (.ref C) == some (.type "type")) && keepIn K (.ref C)
theorem oexB_ok {K : Frag} {C : Addr} (h : oexB K C = true) : L2.OexC K C := by
  unfold oexB at h
  simp only [Bool.and_eq_true, beq_iff_eq] at h
  obtain ⟨⟨⟨⟨q, h2⟩, h3⟩, h4⟩, h5⟩ := h
  refine ⟨?_, h2, h3, h4, h5⟩
  split at q
  · rename_i t dd cd sl ho
    split at q
    · rename_i C' bm k0 k1 k2 k3 n k5 hm hs
      simp only [Bool.and_eq_true, beq_iff_eq, Bool.not_eq_true'] at q
      obtain ⟨⟨⟨⟨⟨rfl, rfl⟩, rfl⟩, hdel⟩, hdct⟩, hv⟩ := q
      obtain ⟨nm, bs, mro, ns, qn, hd, sn, sub, ab, col, del⟩ := cd
      dsimp only at hm hdel hdct
      subst hm hdel hdct
      have hsl : sl = #[k0, k1, k2, k3, some (.builtin "ValueError.__new__"), k5] := by
        obtain ⟨l⟩ := sl
        simp only at hs
        rw [hs]
      subst hsl
      exact ⟨nm, qn, ns, bs, bm, sn, sub, ab, col, dd, k0, k1, k2, k3, k5, ho, hv⟩
    · cases q
  · cases q
/-- isinstance, fields -/
def excB (K : Frag) (C : Addr) : Bool :=
  (findIn K (.ref C) "__getattribute__" == some (some (.builtin "BaseException.__getattribute__"))) && (findIn K (.ref C) "__getattr__" == some none) && (subIn K (.ref C) (.type "BaseException") == some true) && hasDictIn K C && (findIn K (.ref C) "__class__" == some (some (.builtin "object.__class__"))) &&
    (specialIn K (.builtin "object.__class__") "__get__" == some (some (.builtin "getset_descriptor.__get__"))) && (takesIn K (.builtin "object.__class__") == some true) && (mroIn K C (.type "object") == some true)
theorem excB_ok {K : Frag} {C : Addr} (h : excB K C = true) : L2.ExcC K C := by
  unfold excB at h
  simp only [Bool.and_eq_true, beq_iff_eq] at h
  obtain ⟨⟨⟨⟨⟨⟨⟨h1, h2⟩, h3⟩, h4⟩, h5⟩, h6⟩, h7⟩, h8⟩ := h
  exact ⟨h1, h2, h3, h4, h5, h6, h7, h8⟩
def ownB (prog : Program) (K : Frag) (C : Addr) (fs : List Str) : Bool :=
  oexB K C && (ks_superIn K C C "__init__" == some (some (.builtin "ValueError.__init__"))) && (subIn K (.ref C) (.type "ValueError") == some true) && (nsIn K cStatics "thirdparty.any" == some none) && (mroIn K C (.ref C) == some true) &&
  (nsIn K mainGlobals "super" == some none) && !(prog.main.scope.names.lookup ("super" : Str)).isSome && (fs.all fun f => findIn K (.ref C) f == some none) &&
  (match findIn K (.ref C) "__init__" with
  | some (some (.ref fI)) => (typeIn K (.ref fI) == some (.type "function")) && (match K.lookup fI with
    | some ⟨_, _, .func fd, _⟩ => (match fd.body, fd.closure, fd.code with
      | .stmts body, [(x, cc)], .ref cda => (x == ("__class__" : Str)) && initOkB fs fd.params body fd.scope && (fd.globals == mainGlobals) && (fd.defaults == .none) && (fd.builtins == builtinsNs) && codeIn K (.ref cda) fd.qualname &&
        (match K.lookup cc with | some ⟨_, _, .cell (some (.ref D)), _⟩ => D == C | _ => false) &&
        (match K.lookup cda with | some ⟨_, _, .fields vs, _⟩ => (match (vs[2]? : Option Value) with | some (.str file _) => (prog.main.file : Str) == file | _ => false) | _ => false)
      | _, _, _ => false)
    | _ => false)
  | _ => false)
theorem ownB_ok {prog : Program} {K : Frag} {mg : Str → Option Value} {C : Addr} {fs : List Str} (hmg : nsIn K mainGlobals "super" = some none → mg "super" = none) (h : ownB prog K C fs = true) : OwnI prog K mg C fs := by
  unfold ownB at h
  simp only [Bool.and_eq_true, beq_iff_eq, Bool.not_eq_true'] at h
  obtain ⟨⟨⟨⟨⟨⟨⟨⟨h1, h2⟩, h3⟩, h4⟩, h5⟩, h6⟩, h7⟩, h8⟩, q⟩ := h
  refine ⟨fun f hf => by simpa using List.all_eq_true.mp h8 f hf, ?_⟩
  split at q
  · rename_i fI hi
    obtain ⟨q1, q⟩ := Bool.and_eq_true_iff.mp q
    split at q
    · rename_i oc od fd osl hf
      split at q
      · rename_i body x cc cda eb ec ed
        simp only [Bool.and_eq_true, beq_iff_eq] at q
        obtain ⟨⟨⟨⟨⟨⟨⟨rfl, g2⟩, g3⟩, g4⟩, g5⟩, g6⟩, g7⟩, g8⟩ := q
        obtain ⟨name, qual, params, fbody, scope, globals, closure, defaults, kV, doc, pm, an, code, ct, blt⟩ := fd
        dsimp only at eb ec ed g2 g3 g4 g5 g6
        subst eb ec ed g3 g4 g5
        refine ⟨fI, cc, cda, oc, od, name, qual, params, body, scope, kV, doc, pm, an, ct, osl, ⟨oexB_ok h1, h2, h3, h4, ?_, ?_, h5, hmg h6, h7⟩, hf, g2, g6, hi, by simpa using q1⟩
        · split at g7
          · rename_i cl cld D csl hc
            rw [beq_iff_eq] at g7
            subst g7
            exact ⟨_, _, _, hc⟩
          · cases g7
        · split at g8
          · rename_i ccl cdd vs ccs hc
            split at g8
            · rename_i file tf hv
              exact ⟨_, _, _, _, _, _, hc, hv, g8⟩
            · cases g8
          · cases g8
      · cases q
    · cases q
  · cases q
end DLX
set_option maxHeartbeats 2000000
/-! Raising own errors, their fields, isinstance, except clauses. -/
namespace DLX
open PySem PySem.Spec PyProof.Rows L2
theorem relO_rev {f : Str} : ∀ {fs : List Str} {vs : List V} {us : List Value}, fs.Nodup → fs.length = vs.length → Vals vs us → RelO ((fs.zip vs).reverse.lookup f) ((fs.zip us).reverse.lookup f) := by
  intro fs vs us nd hl r
  by_cases hf : f ∈ fs
  · obtain ⟨i, hi⟩ := List.getElem?_of_mem hf
    have hiv : i < vs.length := by rw [← hl]; exact (List.getElem?_eq_some_iff.mp hi).1
    obtain ⟨u, hu, ru⟩ := r.get (List.getElem?_eq_getElem hiv)
    have m1 : (f, vs[i]) ∈ fs.zip vs := List.mem_of_getElem? (i := i) (by rw [List.getElem?_zip_eq_some]; exact ⟨hi, List.getElem?_eq_getElem hiv⟩)
    have m2 : (f, u) ∈ fs.zip us := List.mem_of_getElem? (i := i) (by rw [List.getElem?_zip_eq_some]; exact ⟨hi, hu⟩)
    rw [lookup_rev nd hl m1, lookup_rev nd (hl.trans r.length) m2]
    exact ru
  · have no : ∀ {α : Type} {l : List α}, (fs.zip l).reverse.lookup f = none := fun {α l} => by
      rw [List.lookup_eq_none_iff]
      rintro ⟨a, b⟩ hp
      have := (List.of_mem_zip (List.mem_reverse.mp hp)).1
      have hne : f ≠ a := fun z => hf (z ▸ this)
      first | exact beq_false_of_ne hne | simpa using hne | exact fun z => hne (by simpa using z)
    rw [no (l := vs), no (l := us)]
    trivial
section
variable {X : Cx} {C : Addr}
/-- C(e, ..), a class with fields fs -/
def tMkE (C : Addr) (fs : List Str) (ta : TA) : L2.St → Hp → XK → Prop := fun σ H Q => ta σ H fun vs H1 => vs.length = fs.length ∧ ∀ d, H1 d = none → Q (.ref C) (some d) (upd H1 d (.xd (fs.zip vs).reverse))
theorem pmk_ownE {x : Str} {fs : List Str} {e : Expr} {es : List Expr} {ta : TA} {p pos : Pos} (T : OwnI X.prog X.K X.mg C fs) (O : OexC X.K C) (nd : fs.Nodup) (hr : X.A.depth + 1 < recursionLimit) (gC : X.mg x = some (.ref C)) (ha : PA X (e :: es) ta) (hg : Gl X x) (hlen : (e :: es).length = fs.length)
    (hdb : (x == ("__debug__" : Str)) = false) (he : starEach (e :: es) X.env = (false, eval e X.env) :: starEach es X.env) (hpl : (backTo pos (starEach es X.env)).any (·.1) = false) :
    L2N.PMk X (.Call (.Name x p) (e :: es) [] pos) (tMkE C fs ta) := by
  intro pins s σ H Q I h
  refine wpAny_Call_Name_kw (ld_glob I hg gC ?_ hdb)
  refine PySem.W.callWith_K (h₀ := X.base) I.ok.mod.kin O.kC (thn (ha.run pos pins s σ H _ I h) fun us s1 hh => ?_) he hpl
  obtain ⟨vs, H1, I1, r1, hl, q1⟩ := hh
  refine ⟨I1.kIn, ?_⟩
  show wpAny _ _ (call (.ref C) us) _ _ _
  have hlim := I1.nolimit
  obtain ⟨mb, hb1, hb2⟩ := I1.mod.blt
  have hG : s1.heap.Ns mainGlobals X.mg := I1.mod.glob.keeps I1.bk
  have hB : s1.heap.Ns builtinsNs mb := hb1.keeps I1.bk
  obtain ⟨hp, g, dr, tk, os⟩ := s1
  refine wpAny_call (made_go T (hl.symm.trans r1.length) I1.kIn hlim hG hB (hb2 _ (by decide)) hr fun h' tk' e d M => ?_)
  obtain ⟨oe, fv, hoe, hc, hd, hdat, h1, h2⟩ := M.obj
  rcases M.dict with ⟨_, z⟩ | ⟨dx, rfl, dbig, dne, hns⟩
  · exfalso
    have z := congrArg List.length z
    rw [List.length_reverse, List.length_zip, ← r1.length, hl, ← hlen] at z
    simp at z
  obtain ⟨G', g1, g2⟩ := restrict h' fun b => decide (b ≠ e)
  have gk : ∀ b, b ≠ e → G'.get? b = h'.get? b := fun b hb => g1 b (decide_eq_true hb)
  have ge : G'.get? e = none := g2 e (by simp)
  have old : ∀ b o, hp.get? b = some o → G'.get? b = some o := fun b o q => (gk b (Nat.ne_of_lt (Nat.lt_of_lt_of_le (Heap.lt_size q) M.new))).trans (M.keep b o q)
  have ob : ObjOk X.prog X.w (upd H1 dx (.xd (fs.zip vs).reverse)) G' dx (.xd (fs.zip vs).reverse) :=
    ⟨_, hns.at (fun o q => (gk dx dne).trans q), fun f => relO_rev nd hl.symm r1⟩
  have J : Inv X pins σ (upd H1 dx (.xd (fs.zip vs).reverse)) ⟨G', g, dr, tk', os⟩ := I1.laid (t' := tk') old dbig ob
  refine ⟨e, oe, fv, ⟨G', g, dr, tk', os⟩, _, .ref C, some dx, rfl, J, fun b o q => ?_, ge, hoe, ⟨hc, hd, fun vs' e' => ?_⟩, hdat, h1, ?_, rfl, I1.bare, raises_own O.exC O.tyC, q1 dx (I1.hok.fresh dbig)⟩
  · by_cases hb : b = e
    · have q' : G'.get? b = some o := q
      rw [hb, ge] at q'; cases q'
    · exact (gk b hb).symm.trans q
  · rw [hdat] at e'; cases e'; exact h2
  · rw [upd_ne (Ne.symm dne)]
    exact I1.hok.fresh M.new
/-- the error at hand, by its address -/
structure AtHand (X : Cx) (a cl : Addr) (d : Option Addr) : Prop where
  ex : ∃ oe, (a, oe) ∈ X.pn ∧ Zc (.ref cl) d oe ∧ ∃ vs, oe.data = .fields vs
theorem AtHand.inst {X : Cx} {a cl : Addr} {d : Option Addr} (h : AtHand X a cl d) {pins : List (Addr × Obj)} {σ : L2.St} {H : Hp} {s : Shared} (I : Inv X pins σ H s) (hd : d = none ∨ ∃ dx kvs, d = some dx ∧ H dx = some (.xd kvs)) :
    ∃ oe od, PySem.W.InstAt s.heap a oe cl od := by
  obtain ⟨oe, hp, hz, vs, hv⟩ := h.ex
  obtain ⟨ha, _⟩ := I.pin (a, oe) (List.mem_append_left _ hp)
  rcases hd with rfl | ⟨dx, kvs, rfl, hx⟩
  · exact ⟨oe, none, ha, hz.1, by unfold PySem.W.notCls; rw [hv] <;> rfl, by rw [hz.2]; trivial⟩
  · obtain ⟨u, hu⟩ := objOk_get (I.hok dx _ hx)
    exact ⟨oe, some u, ha, hz.1, by unfold PySem.W.notCls; rw [hv] <;> rfl, by rw [hz.2]; exact hu⟩
/-- e.f, e the error at hand (in slot i) -/
def tFldE (X : Cx) (i : Nat) (f : Str) : TE := fun σ H Q => ∃ a cl d dx kvs v, σ[i]? = some (some (.ref a)) ∧ AtHand X a cl d ∧ ExcC X.K cl ∧ PySem.W.findIn X.K (.ref cl) f = some none ∧ d = some dx ∧ H dx = some (.xd kvs) ∧ kvs.lookup f = some v ∧ Q v H
theorem pe_fldE {i : Nat} {x f : Str} {p pos : Pos} (hN : X.N[i]? = some x) (hv : Vis X.env.scope x) (hd : (x == ("__debug__" : Str)) = false) (hcd : (x == ("__classdict__" : Str)) = false)
    (hb : attributeBase (.Name x p) f X.env (eval (.Name x p) X.env) = eval (.Name x p) X.env) : PE X (.Attribute (.Name x p) f pos) (tFldE X i f) := by
  refine ⟨fun pins s σ H Q I h => ?_⟩
  obtain ⟨a, cl, d, dx, kvs, v, hσ, at_, C, noN, rfl, hx, hl, q⟩ := h
  refine attr_of hb (thn ((pe_var (i := i) (pos := p) hN hv hd hcd).run pins s σ H (fun x H1 => x = .ref a ∧ H1 = H) I ⟨_, hσ, rfl, rfl⟩) fun u s1 hh => ?_)
  obtain ⟨x', H1, I1, rx, ex, eH⟩ := hh
  subst ex eH
  obtain rfl : u = Value.ref a := rx
  obtain ⟨oe, hp, hz, vs, hvs⟩ := at_.ex
  obtain ⟨ha, _⟩ := I1.pin (a, oe) (List.mem_append_left _ hp)
  have hx' : ObjOk X.prog X.w H1 s1.heap dx (.xd kvs) := I1.hok dx _ hx
  obtain ⟨mA, hns, hr⟩ := hx'
  obtain ⟨od, ho, hlk⟩ := lookIn_ns hns
  obtain ⟨u, hu, ru⟩ := RelO.some_of (v := v) (o := mA f) (by rw [← hl]; exact hr f)
  have J : PySem.W.InstAt s1.heap a oe cl (some od) := ⟨ha, hz.1, by unfold PySem.W.notCls; rw [hvs] <;> rfl, by rw [hz.2]; exact ho⟩
  exact HandSPX.exc_get I1.kIn J C.hg C.hk C.hs (PySem.W.findObj_own C.hd noN rfl (by rw [hlk, hu])) (handed_of ru) ⟨v, H1, I1.tok _, ru, q⟩
theorem kitX_of {x D : Addr} {ox : Obj} {od : Option Obj} {K : PySem.W.Frag} (C : ExcC K D) : PySem.W.KitX K (.ref x) (.ref D) (fun h => PySem.W.InstAt h x ox D od) := by
  obtain ⟨cd, hc, _⟩ := PySem.W.any_some C.hd
  exact PySem.W.kitx_exc (by rw [hc]; rfl) C.hg C.hk C.hs C.ha C.hn C.ht C.hm
/-- isinstance(e, c), e the error at hand -/
def rIsE1 (X : Cx) (u : Value) : List V → Hp → VK → Prop := fun xs H Q => ∃ a cl d b v, xs = [.ref a, v] ∧ (∀ w, RelV v w → w = u) ∧ AtHand X a cl d ∧ ExcC X.K cl ∧ (d = none ∨ ∃ dx kvs, d = some dx ∧ H dx = some (.xd kvs)) ∧ PySem.W.kitOne X.K (.ref cl) u = some b ∧ Q (.bl b) H
theorem call_isE1 {u : Value} : CallR X (.builtin "isinstance") (rIsE1 X u) := by
  intro pins s σ H xs us Q I r h
  obtain ⟨a, cl, d, b, v, rfl, hv, at_, C, hdd, e, q⟩ := h
  obtain ⟨u1, u2, rfl, r1, r2⟩ := vals2 r
  cases (show u1 = Value.ref a from r1)
  have e2 := hv _ r2
  subst e2
  obtain ⟨oe, od, J⟩ := at_.inst I hdd
  exact PySem.W.kia_one (kitX_of C) I.kIn J e (fun z => nomatch z) fun tk => ⟨.bl b, H, I.tok tk, rfl, q⟩
/-- isinstance(e, (c, ..)) -/
def rIsEs (X : Cx) (ws : List Value) : List V → Hp → VK → Prop := fun xs H Q => ∃ a cl d b tp cs, xs = [.ref a, .ref tp] ∧ H tp = some (.tup cs) ∧ Paired (fun v u => ∀ w, RelV v w → w = u) cs ws ∧ AtHand X a cl d ∧ ExcC X.K cl ∧ (d = none ∨ ∃ dx kvs, d = some dx ∧ H dx = some (.xd kvs)) ∧
  PySem.W.kitAny X.K (.ref cl) ws = some b ∧ Q (.bl b) H
theorem all_is : ∀ {cs : List V} {us ws : List Value}, Paired (fun v u => ∀ w, RelV v w → w = u) cs us → Vals cs ws → ws = us
  | _, _, _, .nil, .nil => rfl
  | _, _, _, .cons c k, .cons r t => by rw [c _ r, all_is k t]
theorem call_isEs {ws : List Value} : CallR X (.builtin "isinstance") (rIsEs X ws) := by
  intro pins s σ H xs us Q I r h
  obtain ⟨a, cl, d, b, tp, cs, rfl, hT, k, at_, C, hdd, e, q⟩ := h
  obtain ⟨u1, u2, rfl, r1, r2⟩ := vals2 r
  cases (show u1 = Value.ref a from r1)
  cases (show u2 = Value.ref tp from r2)
  obtain ⟨oe, od, J⟩ := at_.inst I hdd
  obtain ⟨_, its, rv, o, h1, h2, n, h3⟩ := (show ObjOk X.prog X.w H s.heap tp (.tup cs) from I.hok tp _ hT)
  have e3 := all_is k rv
  subst e3
  obtain ⟨oc, od', dt, sl⟩ := o
  simp only at h2 h3
  subst h2 h3
  exact PySem.W.kia_tup (kitX_of C) I.kIn J h1 e (fun z => nomatch z) fun tk => ⟨.bl b, H, I.tok tk, rfl, q⟩
end
/-! ### except clauses, each with a name or without -/
def setIo (σ : L2.St) (a : Addr) : Option Nat → L2.St
  | none => σ
  | some i => σ.set i (some (.ref a))
def clrIo (σ : L2.St) : Option Nat → L2.St
  | none => σ
  | some i => σ.set i none
def endsIo (D : Ends) (i : Option Nat) : Ends := { nx := fun σ' H' => D.nx (clrIo σ' i) H', rt := D.rt, bk := fun σ' H' => D.bk (clrIo σ' i) H', ct := fun σ' H' => D.ct (clrIo σ' i) H' }
abbrev Hnd := Value × Option Nat × (Addr → Value → Option Addr → TS)
def wGen (K : PySem.W.Frag) (Wout : WX) (D : Ends) : List Hnd → WX
  | [] => Wout
  | (c, i, ts) :: r => fun cls d σ H => ∃ b, PySem.W.exmOne K cls c = some b ∧ (b = true → ∀ a, H a = none → ts a cls d (endsIo D i) (setIo σ a i) H) ∧ (b = false → wGen K Wout D r cls d σ H)
inductive HdsG (X : Cx) : List ExceptHandler → List Hnd → Prop
  | nil : HdsG X [] []
  | cons {x : Str} {c : Value} {ts : Addr → Value → Option Addr → TS} {b₀ : Stmt} {suite : List Stmt} {np pos' : Pos} {hds : List ExceptHandler} {l : List Hnd} (hc : Names X x c)
      (hsu : ∀ (a : Addr) (oe : Obj) (cls : Value) (d : Option Addr) (pn : List (Addr × Obj)), L2N.Zn cls d oe → (∃ vs, oe.data = .fields vs) → PSs (X.suite a ((a, oe) :: pn)) (b₀ :: suite) (ts a cls d)) (r : HdsG X hds l) :
      HdsG X (.ExceptHandler (some (.Name x np)) none (b₀ :: suite) pos' :: hds) ((c, none, ts) :: l)
  | consAs {x n : Str} {i : Nat} {c : Value} {ts : Addr → Value → Option Addr → TS} {b₀ : Stmt} {suite : List Stmt} {np pos' : Pos} {hds : List ExceptHandler} {l : List Hnd} (hc : Names X x c) (hi : X.N[i]? = some n) (hln : X.env.kindOf n = some .local)
      (hsu : ∀ (a : Addr) (oe : Obj) (cls : Value) (d : Option Addr) (pn : List (Addr × Obj)), L2N.Zn cls d oe → (∃ vs, oe.data = .fields vs) → PSs (X.suite a ((a, oe) :: pn)) (b₀ :: suite) (ts a cls d)) (r : HdsG X hds l) :
      HdsG X (.ExceptHandler (some (.Name x np)) (some n) (b₀ :: suite) pos' :: hds) ((c, some i, ts) :: l)
section
variable {X : Cx} {body : List Stmt} {h₀ : ExceptHandler} {hds : List ExceptHandler} {l : List Hnd} {pos : Pos} {tb : WX → TS} {Wout : WX}
theorem ps_try_gen (hs : X.stack = X.env :: X.outer) (hf : X.env.frame = some X.env.locals) (hNd : X.N.Nodup) (tk : L2N.Takes X Wout)
    (hb : ∀ (W : WX) (pn : List (Addr × Obj)) (xe : Value → Shared → Prop), L2N.Takes (X.tr pn xe) W → PassesOwn (model X.prog X.w) X.A X.env xe → PSs (X.tr pn xe) body (tb W))
    (hh : HdsG X (h₀ :: hds) l) : PS X (.Try body (h₀ :: hds) [] [] pos) (fun D σ H => tb (wGen X.K Wout D l) D σ H) := by
  refine ⟨fun pins s σ H D I h => ?_⟩
  have ok := I.ok
  have hfr : X.A.frames = some (X.env :: X.outer) := by rw [ok.frames, hs]
  refine wpAny_Try_except ?_
  refine wpAny_mono ((hb (wGen X.K Wout D l) (X.pn ++ pins) (fun e s₁ => wpAny (model X.prog X.w) X.A (noteFrame e X.env) (fun _ s₂ => wpAny (model X.prog X.w) X.A (setFlight e none) (fun _ s₃ =>
    wpAny (model X.prog X.w) X.A (handleBy e X.env (h₀ :: hds)) (SP X pins D) X.xe s₃) X.xe s₂) X.xe s₁) (fun u s' xx => ?_) PassesOwn.looking).run [] s σ H D (I.toTry _) h) (fun f s1 hsp => ?_) (fun e s1 he => he)
  · obtain ⟨a, B, sI, pins', σ', H', cls, d, rfl, J', nb, up, sky, na, os, ag, w⟩ := xx
    have J : Inv X pins σ' H' sI := J'.ofTry ok
    have sky' : Sky B (X.env :: X.outer) a (L2N.Zn cls d) X.env.locals s'.heap := by rw [← hs]; exact sky
    show wpAny (model X.prog X.w) X.A (noteFrame (.ref a) X.env) _ _ _
    refine L2N.Sky.land L2N.Zn.steady hfr hf sky' fun h3 fl3 up3 => ?_
    have J3 : Inv X pins σ' H' { s' with heap := h3 } := J.landed nb fl3.1 (up.trans up3) os ag
    obtain ⟨oe3, vs3, he3, hz3, hd3⟩ := fl3.there
    have notFr : ∀ {h : Heap} {o : Obj} {vs : Array Value}, h.FunFrames B (X.env :: X.outer) → h.get? a = some o → o.data = .fields vs → a ∉ frs (X.env :: X.outer) := fun {h o vs} ff e dd hm => by
      obtain ⟨_, o', e', hnf⟩ := ff.mem hm
      rw [e] at e'; cases e'
      exact hnf _ dd
    have nfr := notFr fl3.2.2.1 he3 hd3
    have nL : a ≠ X.env.locals := fun z => nfr (List.mem_filterMap.mpr ⟨X.env, List.mem_cons_self, by rw [hf, z]⟩)
    have nF : a ∉ X.fs := fun hm => by
      obtain ⟨e, he, q⟩ := List.mem_filterMap.mp hm
      exact nfr (List.mem_filterMap.mpr ⟨e, List.mem_cons_of_mem _ he, q⟩)
    have S3 := J3.suite he3 hd3 na nL nF
    have test : ∀ {x : Str} {c : Value} {np : Pos} {Q : Value → Shared → Prop} {E : Value → Shared → Prop}, Names X x c → Q c { s' with heap := h3 } → wpAny (model X.prog X.w) (X.A.mark (some (.ref a))) (eval (.Name x np) X.env) Q E { s' with heap := h3 } := fun {x c np Q E} hc q => by
      obtain ⟨hg, hdbg, hm | ⟨hm, hv, hnn⟩⟩ := hc
      · exact ld_glob (X := X.suite a ((a, oe3) :: (X.pn ++ pins))) S3 hg hm q hdbg
      · exact ld_blt (X := X.suite a ((a, oe3) :: (X.pn ++ pins))) S3 hg hm hv q hnn hdbg
    have LT : PySem.W.Looks (model X.prog X.w) h3 (typeOf (.ref a)) cls := fun A Q E s k q => wpAny_typeOf_ref (k _ _ he3) (by rw [hz3.1]; exact q)
    have go : ∀ {hds' : List ExceptHandler} {l' : List Hnd}, HdsG X hds' l' → wGen X.K Wout D l' cls d σ' H' →
        wpAny (model X.prog X.w) X.A (handleBy (.ref a) X.env hds') (SP X pins D) X.xe { s' with heap := h3 } := by
      intro hds' l' hk
      induction hk with
      | nil =>
        intro w
        refine wpAny_handleBy_nil ?_
        obtain ⟨k1, k2, k3, oe, vs, T, oT, ts', he, hz, hd, h1, hr⟩ := id fl3
        unfold PySem.passOn
        refine wpAny_bind (wpAny_field he hd h1 ?_)
        rw [if_neg (show ¬ ((Value.ref T == Value.none) = true) from by simp)]
        have fin : wpAny (model X.prog X.w) X.A (setFlight (.ref a) X.env.frame) (fun _ s4 => wpAny (model X.prog X.w) X.A (throw (.ref a) : Sem Flow) (SP X pins D) X.xe s4) X.xe { s' with heap := h3 } := by
          rw [hf]
          refine HandSPX.setFlight_upZ fl3 fun h4 hh4 up4 => wpAny_throw (tk _ _ ?_)
          exact ⟨a, B, sI, pins, σ', H', cls, d, rfl, J, nb, (up.trans up3).trans up4, .inr (.inr (by rw [hs]; exact hh4)), na, os, ag, w⟩
        first
          | exact wpAny_bind (wpAny_pure (wpAny_bind fin))
          | exact wpAny_bind fin
      | @cons x c ts b₀ suite np pos' hds2 l2 hc hsu r ih =>
        intro w
        obtain ⟨b, hb1, hyes, hno⟩ := w
        refine wpAny_handleBy_cons (codeAny_handlers_test ?_) (by intro q; cases q)
        have LM := PySem.W.exm_one (M := model X.prog X.w) (J3.kIn) LT hb1
        refine test hc (LM.here ?_)
        cases b with
        | true =>
          refine codeAny_handlers_suite ?_
          refine HandSPX.lands_againZ fl3 fun h4 fl4 up4 => ?_
          have J4 : Inv X pins σ' H' { s' with heap := h4 } := J.landed nb fl4.1 ((up.trans up3).trans up4) os ag
          obtain ⟨oe4, vs4, he4, hz4, hd4⟩ := fl4.there
          have S4 := J4.suite he4 hd4 na nL nF
          refine wpAny_mono ((hsu a oe4 cls d (X.pn ++ pins) hz4 ⟨_, hd4⟩).run [] _ _ H' _ S4 (hyes rfl a na)) (fun f s6 hsp => ?_) (fun _ _ z => False.elim z)
          cases f with
          | next =>
            obtain ⟨σ6, H6, S6, q6⟩ := hsp
            exact ⟨_, _, S6.unsuite ok, q6⟩
          | brk =>
            obtain ⟨σ6, H6, S6, q6⟩ := hsp
            exact ⟨_, _, S6.unsuite ok, q6⟩
          | cont =>
            obtain ⟨σ6, H6, S6, q6⟩ := hsp
            exact ⟨_, _, S6.unsuite ok, q6⟩
          | ret u =>
            obtain ⟨v6, σ6, H6, S6, r6, q6⟩ := hsp
            exact ⟨_, _, _, S6.unsuite ok, r6, q6⟩
        | false =>
          show wpAny _ X.A (handleBy (.ref a) X.env hds2) _ _ _
          exact ih (hno rfl)
      | @consAs x n i c ts b₀ suite np pos' hds2 l2 hc hi hln hsu r ih =>
        intro w
        obtain ⟨b, hb1, hyes, hno⟩ := w
        have hloc : Loc X.env.scope n := .inl hln
        refine wpAny_handleBy_cons (codeAny_handlers_test ?_) (by intro q; cases q)
        have LM := PySem.W.exm_one (M := model X.prog X.w) (J3.kIn) LT hb1
        refine test hc (LM.here ?_)
        cases b with
        | true =>
          refine codeAny_handlers_suite_as ?_
          refine HandSPX.lands_againZ fl3 fun h4 fl4 up4 => ?_
          have J4 : Inv X pins σ' H' { s' with heap := h4 } := J.landed nb fl4.1 ((up.trans up3).trans up4) os ag
          obtain ⟨oe4, vs4, he4, hz4, hd4⟩ := fl4.there
          have S4 := J4.suite he4 hd4 na nL nF
          refine store_ok (X := X.suite a ((a, oe4) :: (X.pn ++ pins))) (v := .ref a) S4 hNd hi hloc rfl (fun s5 S5 => ?_) (.inr hln)
          refine wpAny_mono ((hsu a oe4 cls d (X.pn ++ pins) hz4 ⟨_, hd4⟩).run [] s5 _ H' _ S5 (hyes rfl a na)) (fun f s6 hsp => ?_) (fun _ _ z => False.elim z)
          have end_ : ∀ {σ6 : L2.St} {H6 : Hp} {Q : Shared → Prop}, Inv (X.suite a ((a, oe4) :: (X.pn ++ pins))) [] σ6 H6 s6 → (∀ s7, Inv X pins (σ6.set i none) H6 s7 → Q s7) →
              wpAny (model X.prog X.w) X.A (do bindName X.env n .none; unbindBehindTheSuite X.env n pos') (fun _ s7 => Q s7) X.xe s6 := fun {σ6 H6 Q} S6 hq => gone_ok (S6.unsuite ok) hNd hi hln hq
          cases f with
          | next =>
            obtain ⟨σ6, H6, S6, q6⟩ := hsp
            exact end_ S6 fun s7 J7 => ⟨_, _, J7, q6⟩
          | brk =>
            obtain ⟨σ6, H6, S6, q6⟩ := hsp
            exact end_ S6 fun s7 J7 => ⟨_, _, J7, q6⟩
          | cont =>
            obtain ⟨σ6, H6, S6, q6⟩ := hsp
            exact end_ S6 fun s7 J7 => ⟨_, _, J7, q6⟩
          | ret u =>
            obtain ⟨v6, σ6, H6, S6, r6, q6⟩ := hsp
            exact end_ S6 fun s7 J7 => ⟨_, _, _, J7, r6, q6⟩
        | false =>
          show wpAny _ X.A (handleBy (.ref a) X.env hds2) _ _ _
          exact ih (hno rfl)
    exact go hh w
  · cases f with
    | next =>
      obtain ⟨σ', H', J', q⟩ := hsp
      exact wpAny_execs_nil ⟨σ', H', J'.ofTry ok, q⟩
    | brk =>
      obtain ⟨σ', H', J', q⟩ := hsp
      exact ⟨σ', H', J'.ofTry ok, q⟩
    | cont =>
      obtain ⟨σ', H', J', q⟩ := hsp
      exact ⟨σ', H', J'.ofTry ok, q⟩
    | ret u =>
      obtain ⟨v, σ', H', J', r, q⟩ := hsp
      exact ⟨v, σ', H', J'.ofTry ok, r, q⟩
end
end DLX
set_option maxHeartbeats 2000000
/-! zip of a tuple and a list: the library's and the hand layer's proofs for two tuples (HandS.Zip0, HandS.Zip), turned to a list as the second. -/
namespace DLX
open PySem
open PySem.Sem (wp)
section
variable {prog : Program} {w : World} {A : Around} {E : Value → Shared → Prop} {s : Shared}
theorem zipM_next_item {z TI TO i1 i2 l1 l2 : Addr} {k1 k2 : Nat} {xs ys : Array Value} {x y a b : Value} {Q : Value → Shared → Prop} (D : ZipApart z TI TO i1 i2 l1 l2)
    (hz : IsZip s.heap z TI TO .none) (hTI : IsPair s.heap TI (.ref i1) (.ref i2)) (hTO : IsPair s.heap TO a b)
    (h1 : s.heap.IsTupleIter i1 l1 k1) (h2 : s.heap.IsListIter i2 l2 k2) (hl1 : s.heap.IsTuple l1 xs) (hl2 : s.heap.IsList l2 ys) (hx : xs[k1]? = some x) (hy : ys[k2]? = some y)
    (hQ : ∀ h', IsZip h' z TI TO (rawInt s.heap.objs.size) → IsPair h' TO x y → h'.IsTupleIter i1 l1 (k1 + 1) → h'.IsListIter i2 l2 (k2 + 1) → IsPair h' s.heap.objs.size x y → h'.objs.size = s.heap.objs.size + 1 →
      (∀ c o, c ≠ z → c ≠ TO → c ≠ i1 → c ≠ i2 → s.heap.get? c = some o → h'.get? c = some o) → Q (.ref s.heap.objs.size) { s with heap := h' }) :
    wpAny (model prog w) A (Builtin.«zip.__next__» ⟨[.ref z], []⟩) (fun fin s' => ∃ v, fin = .done (.ret v) ∧ Q v s') E s := by
  show wpAny _ _ (field (.ref z) 2 >>= _) _ _ _
  refine wpAny_bind (wpAny_field hz rfl (x := .bool false) rfl ?_)
  show wpAny _ _ (field (.ref z) 3 >>= _) _ _ _
  refine wpAny_bind (wpAny_field hz rfl (x := .ref TI) rfl ?_)
  refine wpAny_bind (wpAny_seqItems hTI rfl ?_)
  show wpAny _ _ (Builtin.SmallTypes.ownedTupleIsFree (.ref z) >>= _) _ _ _
  refine wpAny_bind ?_
  unfold Builtin.SmallTypes.ownedTupleIsFree
  refine wpAny_bind (wpAny_field hz rfl (x := .none) rfl (wpAny_pure ?_))
  simp only [if_true]
  refine wpAny_bind (wpAny_rule ?_)
  refine wpAny_bind (wpAny_field hz rfl (x := .ref TO) rfl ?_)
  refine wpAny_bind (wpAny_setField_rec hz (by simp) fun h₁ hz₁ hs₁ => ?_)
  replace hz₁ : IsZip h₁ z TI TO .ellipsis := hz₁
  refine wpAny_bind ?_
  simp only [List.zipIdx_cons, List.zipIdx_nil, List.forIn_cons, List.forIn_nil]

  refine wpAny_bind (wpAny_bind (wpAny_onRaise ?_))
  show wpAny _ _ (Builtin.SmallTypes.nextOf (.ref i1) >>= _) _ _ _
  refine wpAny_bind (RZ.nextOf_tuple_item (h1.extBut hs₁.extBut D.i1z) (hl1.extBut hs₁.extBut D.l1z) hx fun h₂ h1₂ hs₂ => wpAny_pure ?_)
  have hTO₂ : IsPair h₂ TO a b := hs₂.extBut _ _ D.TOi1 (hs₁.extBut _ _ D.TOz hTO)
  refine wpAny_bind (wpAny_seqItems hTO₂ rfl ?_)
  refine wpAny_bind (wpAny_updateSeq_pair hTO₂ fun h₃ hTO₃ hs₃ => ?_)
  replace hTO₃ : IsPair h₃ TO x b := hTO₃
  refine wpAny_bind (wpAny_letGo (wpAny_pure ?_))

  refine wpAny_bind (wpAny_bind (wpAny_onRaise ?_))
  show wpAny _ _ (Builtin.SmallTypes.nextOf (.ref i2) >>= _) _ _ _
  refine wpAny_bind (wpAny_nextOf_list_item (((h2.extBut hs₁.extBut D.i2z).extBut hs₂.extBut D.i12.symm).extBut hs₃.extBut D.TOi2.symm)
    (((hl2.extBut hs₁.extBut D.l2z).extBut hs₂.extBut D.l2i1).extBut hs₃.extBut D.l2TO) hy fun h₄ h2₄ hs₄ => wpAny_pure ?_)
  have hTO₄ : IsPair h₄ TO x b := hs₄.extBut _ _ D.TOi2 hTO₃
  refine wpAny_bind (wpAny_seqItems hTO₄ rfl ?_)
  refine wpAny_bind (wpAny_updateSeq_pair hTO₄ fun h₅ hTO₅ hs₅ => ?_)
  replace hTO₅ : IsPair h₅ TO x y := hTO₅
  refine wpAny_bind (wpAny_letGo (wpAny_pure (wpAny_pure ?_)))

  refine wpAny_bind (wpAny_seqItems hTO₅ rfl ?_)
  refine wpAny_bind (wpAny_newTuple ?_)
  have hsz : h₅.objs.size = s.heap.objs.size := by rw [hs₅.1, hs₄.1, hs₃.1, hs₂.1, hs₁.1]
  have hz₅ : IsZip h₅ z TI TO .ellipsis := hs₅.extBut _ _ D.TOz.symm (hs₄.extBut _ _ D.i2z.symm (hs₃.extBut _ _ D.TOz.symm (hs₂.extBut _ _ D.i1z.symm hz₁)))
  have hk₅ : ∀ c o, c ≠ z → c ≠ TO → c ≠ i1 → c ≠ i2 → s.heap.get? c = some o → h₅.get? c = some o := fun c o c1 c2 c3 c4 e =>
    hs₅.extBut _ _ c2 (hs₄.extBut _ _ c4 (hs₃.extBut _ _ c2 (hs₂.extBut _ _ c3 (hs₁.extBut _ _ c1 e))))
  have h1₅ : h₅.IsTupleIter i1 l1 (k1 + 1) := ((h1₂.extBut hs₃.extBut D.TOi1.symm).extBut hs₄.extBut D.i12).extBut hs₅.extBut D.TOi1.symm
  have h2₅ : h₅.IsListIter i2 l2 (k2 + 1) := h2₄.extBut hs₅.extBut D.TOi2.symm
  have hzlt : z < h₅.objs.size := Heap.lt_size hz₅
  have hTOlt : TO < h₅.objs.size := Heap.lt_size hTO₅
  have hi1lt : i1 < h₅.objs.size := by obtain ⟨_, e, _⟩ := h1₅; exact Heap.lt_size e
  have hi2lt : i2 < h₅.objs.size := by obtain ⟨_, e, _⟩ := h2₅; exact Heap.lt_size e
  show wpAny _ _ (Builtin.SmallTypes.ownedTupleHandOut (.ref z) (.ref h₅.objs.size) >>= _) _ _ _
  refine wpAny_bind ?_
  unfold Builtin.SmallTypes.ownedTupleHandOut
  have hz₆ : IsZip (h₅.push { cls := .type "tuple", data := .seq #[x, y] }) z TI TO .ellipsis := Heap.get?_push_of_some _ hz₅
  refine wpAny_bind (wpAny_setField_rec hz₆ (by simp) fun h₇ hz₇ hs₇ => ?_)
  replace hz₇ : IsZip h₇ z TI TO (rawInt h₅.objs.size) := hz₇
  refine wpAny_setField_rec hz₇ (by simp) fun h₈ hz₈ hs₈ => ?_
  replace hz₈ : IsZip h₈ z TI TO (rawInt h₅.objs.size) := hz₈
  have up : ∀ c o, c ≠ z → h₅.get? c = some o → h₈.get? c = some o := fun c o c1 e => hs₈.extBut _ _ c1 (hs₇.extBut _ _ c1 (Heap.get?_push_of_some _ e))
  have hT₈ : IsPair h₈ h₅.objs.size x y := hs₈.extBut _ _ (Nat.ne_of_gt hzlt) (hs₇.extBut _ _ (Nat.ne_of_gt hzlt) (Heap.get?_push_size _ rfl))
  have hz8 : h₈.objs.size = h₅.objs.size + 1 := by rw [hs₈.1, hs₇.1, Heap.size_push]
  rw [hsz] at hz₈ hT₈ hz8
  refine wpAny_pure ⟨_, rfl, ?_⟩
  show Q (.ref h₅.objs.size) _
  rw [hsz]
  exact hQ h₈ hz₈ (up _ _ D.TOz hTO₅) (h1₅.at fun o e => up _ o D.i1z e) (h2₅.at fun o e => up _ o D.i2z e) hT₈ hz8 fun c o c1 c2 c3 c4 e => up c o c1 (hk₅ c o c1 c2 c3 c4 e)
theorem zipM_next_end {z TI TO i1 i2 l1 l2 : Addr} {k1 k2 : Nat} {xs ys : Array Value} {a b : Value} {Q : Fin → Shared → Prop} (hh : A.handled = none) (D : ZipApart z TI TO i1 i2 l1 l2)
    (hz : IsZip s.heap z TI TO .none) (hTI : IsPair s.heap TI (.ref i1) (.ref i2)) (hTO : IsPair s.heap TO a b)
    (h1 : s.heap.IsTupleIter i1 l1 k1) (h2 : s.heap.IsListIter i2 l2 k2) (hl1 : s.heap.IsTuple l1 xs) (hl2 : s.heap.IsList l2 ys) (hend : xs[k1]? = none ∨ ys[k2]? = none)
    (hE : ∀ h' e, (∀ c o, c ≠ z → c ≠ TO → c ≠ i1 → c ≠ i2 → s.heap.get? c = some o → h'.get? c = some o) → (∃ o, h'.get? e = some o ∧ o.cls = .type "StopIteration") → E (.ref e) { s with heap := h' }) :
    wpAny (model prog w) A (Builtin.«zip.__next__» ⟨[.ref z], []⟩) Q E s := by
  show wpAny _ _ (field (.ref z) 2 >>= _) _ _ _
  refine wpAny_bind (wpAny_field hz rfl (x := .bool false) rfl ?_)
  show wpAny _ _ (field (.ref z) 3 >>= _) _ _ _
  refine wpAny_bind (wpAny_field hz rfl (x := .ref TI) rfl ?_)
  refine wpAny_bind (wpAny_seqItems hTI rfl ?_)
  show wpAny _ _ (Builtin.SmallTypes.ownedTupleIsFree (.ref z) >>= _) _ _ _
  refine wpAny_bind ?_
  unfold Builtin.SmallTypes.ownedTupleIsFree
  refine wpAny_bind (wpAny_field hz rfl (x := .none) rfl (wpAny_pure ?_))
  simp only [if_true]
  refine wpAny_bind (wpAny_rule ?_)
  refine wpAny_bind (wpAny_field hz rfl (x := .ref TO) rfl ?_)
  refine wpAny_bind (wpAny_setField_rec hz (by simp) fun h₁ hz₁ hs₁ => ?_)
  replace hz₁ : IsZip h₁ z TI TO .ellipsis := hz₁
  refine wpAny_bind ?_
  simp only [List.zipIdx_cons, List.zipIdx_nil, List.forIn_cons, List.forIn_nil]
  refine wpAny_bind (wpAny_bind (wpAny_onRaise ?_))
  show wpAny _ _ (Builtin.SmallTypes.nextOf (.ref i1) >>= _) _ _ _
  cases hx : xs[k1]? with
  | none =>
    refine wpAny_bind (RZ.nextOf_tuple_end hh (h1.extBut hs₁.extBut D.i1z) (hl1.extBut hs₁.extBut D.l1z) hx fun h₂ e hs₂ he => ?_)
    obtain ⟨oe, hoe, hce⟩ := he
    have hz₂ : IsZip h₂ z TI TO .ellipsis := hs₂ _ _ D.i1z.symm hz₁
    have hez : e ≠ z := fun x => by subst x; rw [hz₂] at hoe; cases hoe; simp at hce
    refine wpAny_setField_rec hz₂ (by simp) fun h₃ _ hs₃ => hE h₃ e (fun c o c1 _ c3 _ x => hs₃.extBut _ _ c1 (hs₂ _ _ c3 (hs₁.extBut _ _ c1 x))) ⟨oe, hs₃.extBut _ _ hez hoe, hce⟩
  | some x =>
    have hy : ys[k2]? = none := by rcases hend with h | h; rw [hx] at h; cases h; exact h
    refine wpAny_bind (RZ.nextOf_tuple_item (h1.extBut hs₁.extBut D.i1z) (hl1.extBut hs₁.extBut D.l1z) hx fun h₂ h1₂ hs₂ => wpAny_pure ?_)
    have hTO₂ : IsPair h₂ TO a b := hs₂.extBut _ _ D.TOi1 (hs₁.extBut _ _ D.TOz hTO)
    refine wpAny_bind (wpAny_seqItems hTO₂ rfl ?_)
    refine wpAny_bind (wpAny_updateSeq_pair hTO₂ fun h₃ hTO₃ hs₃ => ?_)
    refine wpAny_bind (wpAny_letGo (wpAny_pure ?_))
    refine wpAny_bind (wpAny_bind (wpAny_onRaise ?_))
    show wpAny _ _ (Builtin.SmallTypes.nextOf (.ref i2) >>= _) _ _ _
    refine wpAny_bind (wpAny_nextOf_list_end hh (((h2.extBut hs₁.extBut D.i2z).extBut hs₂.extBut D.i12.symm).extBut hs₃.extBut D.TOi2.symm)
      (((hl2.extBut hs₁.extBut D.l2z).extBut hs₂.extBut D.l2i1).extBut hs₃.extBut D.l2TO) hy fun h₄ e hs₄ he => ?_)
    obtain ⟨oe, hoe, hce⟩ := he
    have hz₄ : IsZip h₄ z TI TO .ellipsis := hs₄ _ _ D.i2z.symm (hs₃.extBut _ _ D.TOz.symm (hs₂.extBut _ _ D.i1z.symm hz₁))
    have hez : e ≠ z := fun x => by subst x; rw [hz₄] at hoe; cases hoe; simp at hce
    refine wpAny_setField_rec hz₄ (by simp) fun h₅ _ hs₅ => hE h₅ e (fun c o c1 c2 c3 c4 x => hs₅.extBut _ _ c1 (hs₄ _ _ c4 (hs₃.extBut _ _ c2 (hs₂.extBut _ _ c3 (hs₁.extBut _ _ c1 x))))) ⟨oe, hs₅.extBut _ _ hez hoe, hce⟩
theorem pyNext_zipM_item {z TI TO i1 i2 l1 l2 : Addr} {k1 k2 : Nat} {xs ys : Array Value} {x y a b : Value} {Q : Option Value → Shared → Prop} (D : ZipApart z TI TO i1 i2 l1 l2)
    (hz : IsZip s.heap z TI TO .none) (hTI : IsPair s.heap TI (.ref i1) (.ref i2)) (hTO : IsPair s.heap TO a b)
    (h1 : s.heap.IsTupleIter i1 l1 k1) (h2 : s.heap.IsListIter i2 l2 k2) (hl1 : s.heap.IsTuple l1 xs) (hl2 : s.heap.IsList l2 ys) (hx : xs[k1]? = some x) (hy : ys[k2]? = some y)
    (hQ : ∀ h', IsZip h' z TI TO (rawInt s.heap.objs.size) → IsPair h' TO x y → h'.IsTupleIter i1 l1 (k1 + 1) → h'.IsListIter i2 l2 (k2 + 1) → IsPair h' s.heap.objs.size x y → h'.objs.size = s.heap.objs.size + 1 →
      (∀ c o, c ≠ z → c ≠ TO → c ≠ i1 → c ≠ i2 → s.heap.get? c = some o → h'.get? c = some o) → Q (some (.ref s.heap.objs.size)) { s with heap := h' }) :
    wpAny (model prog w) A (pyNext (.ref z)) Q E s := by
  have hT : s.TypeIs (.ref z) "zip" := ⟨_, hz, rfl⟩
  unfold pyNext
  exact wpAny_bind (wpAny_attempt (wpAny_callSpecial?_slot (name := Str.ofString "__next__") hT F.slot_zip_next
    (wpAny_call_entry F.slot_zip_next hT F.entry_zip_next
      (zipM_next_item D hz hTI hTO h1 h2 hl1 hl2 hx hy fun h' a1 a2 a3 a4 a5 a6 a7 => wpAny_pure (hQ h' a1 a2 a3 a4 a5 a6 a7)) (F.args_zip_next_1 _))))
theorem pyNext_zipM_end {z TI TO i1 i2 l1 l2 : Addr} {k1 k2 : Nat} {xs ys : Array Value} {a b : Value} {Q : Option Value → Shared → Prop} (hh : A.handled = none) (D : ZipApart z TI TO i1 i2 l1 l2)
    (hz : IsZip s.heap z TI TO .none) (hTI : IsPair s.heap TI (.ref i1) (.ref i2)) (hTO : IsPair s.heap TO a b)
    (h1 : s.heap.IsTupleIter i1 l1 k1) (h2 : s.heap.IsListIter i2 l2 k2) (hl1 : s.heap.IsTuple l1 xs) (hl2 : s.heap.IsList l2 ys) (hend : xs[k1]? = none ∨ ys[k2]? = none)
    (hQ : ∀ h', (∀ c o, c ≠ z → c ≠ TO → c ≠ i1 → c ≠ i2 → s.heap.get? c = some o → h'.get? c = some o) → Q none { s with heap := h' }) : wpAny (model prog w) A (pyNext (.ref z)) Q E s := by
  have hT : s.TypeIs (.ref z) "zip" := ⟨_, hz, rfl⟩
  unfold pyNext
  refine wpAny_bind (wpAny_attempt (wpAny_callSpecial?_slot (name := Str.ofString "__next__") hT F.slot_zip_next
    (wpAny_call_entry F.slot_zip_next hT F.entry_zip_next (zipM_next_end hh D hz hTI hTO h1 h2 hl1 hl2 hend fun h' e hk he => ?_) (F.args_zip_next_1 _))))
  obtain ⟨o, ho, hc⟩ := he
  refine wpAny_bind (wpAny_isInstance (T := "StopIteration") (b := true) ⟨o, ho, hc⟩ isSubtype_stop ?_)
  exact wpAny_pure (hQ _ hk)
end
abbrev zipMH1 (h : Heap) (l1 : Addr) : Heap := h.push { cls := .type "tuple_iterator", data := .fields #[.ref l1, .int 0 0] }
abbrev zipMH2 (h : Heap) (l1 l2 : Addr) : Heap := (zipMH1 h l1).push { cls := .type "list_iterator", data := .fields #[.ref l2, .int 0 0] }
abbrev zipMH3 (h : Heap) (l1 l2 : Addr) : Heap := (zipMH2 h l1 l2).push { cls := .type "tuple", data := .seq #[.ref h.objs.size, .ref (zipMH1 h l1).objs.size] }
abbrev zipMH4 (h : Heap) (l1 l2 : Addr) : Heap := (zipMH3 h l1 l2).push { cls := .type "tuple", data := .seq #[.none, .none] }
abbrev zipMH5 (h : Heap) (l1 l2 : Addr) : Heap := (zipMH4 h l1 l2).push { cls := .type "zip", data := .fields #[.none, .bool false, .bool false, .ref (zipMH2 h l1 l2).objs.size, .ref (zipMH3 h l1 l2).objs.size] }
theorem meets_zipM_new (l1 l2 : Addr) (xs ys : Array Value) :
    Meets (Builtin.«zip.__new__» ⟨[.type "zip", .ref l1, .ref l2], []⟩) (fun _ R s => s.heap.IsTuple l1 xs ∧ s.heap.IsList l2 ys ∧
      R (.ok (.ret (.ref (zipMH4 s.heap l1 l2).objs.size))) { s with heap := zipMH5 s.heap l1 l2 }) :=
  .of_wp fun prog w A R s h => by
    obtain ⟨hp, g, d, tk, os⟩ := s; obtain ⟨hl1, hl2, h⟩ := h
    have hsub := sub_zip
    have hL1 : Heap.IsTuple (Shared.heap ⟨hp, g, d, tk, os⟩) l1 xs := hl1
    have hL2 : Heap.IsList (Shared.heap ⟨hp.push { cls := .type "tuple_iterator", data := .fields #[.ref l1, .int 0 0] }, g, d, tk, os⟩) l2 ys := Heap.IsList.push hl2 _
    wp_walk using wpAny_pyIter_tuple hL1, wpAny_pyIter_list hL2
    exact ⟨_, rfl, h⟩
section
variable {prog : Program} {w : World} {A : Around} {E : Value → Shared → Prop} {s : Shared}
theorem call_zipM {l1 l2 : Addr} {xs ys : Array Value} {Q : Value → Shared → Prop} (hl1 : s.heap.IsTuple l1 xs) (hl2 : s.heap.IsList l2 ys)
    (h : ∀ h', IsZip h' (s.heap.objs.size + 4) (s.heap.objs.size + 2) (s.heap.objs.size + 3) .none → IsPair h' (s.heap.objs.size + 2) (.ref s.heap.objs.size) (.ref (s.heap.objs.size + 1)) →
      IsPair h' (s.heap.objs.size + 3) .none .none → h'.IsTupleIter s.heap.objs.size l1 0 → h'.IsListIter (s.heap.objs.size + 1) l2 0 → h'.objs.size = s.heap.objs.size + 5 →
      (∀ c o, s.heap.get? c = some o → h'.get? c = some o) → Q (.ref (s.heap.objs.size + 4)) { s with heap := h' }) :
    wpAny (model prog w) A (call (.type "zip") [.ref l1, .ref l2]) Q E s := by
  refine callType_new F.called_zip (by decide) (F.typeCall_zip_2 _ _) (F.newCall_zip_2 _ _) (fun obj => F.args_object_init_3 obj _ _) F.entry_zip_new
    (meets_zipM_new l1 l2 xs ys) ⟨hl1, hl2, ?_⟩
  have z1 : (zipMH1 s.heap l1).objs.size = s.heap.objs.size + 1 := Heap.size_push ..
  have z2 : (zipMH2 s.heap l1 l2).objs.size = s.heap.objs.size + 2 := by rw [Heap.size_push, z1]
  have z3 : (zipMH3 s.heap l1 l2).objs.size = s.heap.objs.size + 3 := by rw [Heap.size_push, z2]
  have z4 : (zipMH4 s.heap l1 l2).objs.size = s.heap.objs.size + 4 := by rw [Heap.size_push, z3]
  have z5 : (zipMH5 s.heap l1 l2).objs.size = s.heap.objs.size + 5 := by rw [Heap.size_push, z4]
  have g5 : (zipMH5 s.heap l1 l2).get? (zipMH4 s.heap l1 l2).objs.size = some _ := Heap.get?_push_size _ rfl
  have g4 : (zipMH5 s.heap l1 l2).get? (zipMH3 s.heap l1 l2).objs.size = some _ := Heap.get?_push_of_some _ (Heap.get?_push_size _ rfl)
  have g3 : (zipMH5 s.heap l1 l2).get? (zipMH2 s.heap l1 l2).objs.size = some _ := Heap.get?_push_of_some _ (Heap.get?_push_of_some _ (Heap.get?_push_size _ rfl))
  have g2 : (zipMH5 s.heap l1 l2).get? (zipMH1 s.heap l1).objs.size = some _ := Heap.get?_push_of_some _ (Heap.get?_push_of_some _ (Heap.get?_push_of_some _ (Heap.get?_push_size _ rfl)))
  have g1 : (zipMH5 s.heap l1 l2).get? s.heap.objs.size = some _ := Heap.get?_push_of_some _ (Heap.get?_push_of_some _ (Heap.get?_push_of_some _ (Heap.get?_push_of_some _ (Heap.get?_push_size _ rfl))))
  show _ ∧ _
  rw [z2, z3, z4] at g5
  rw [z1, z2] at g3
  rw [z3] at g4
  rw [z1] at g2
  rw [z4]
  exact ⟨⟨_, g5, rfl⟩, h _ g5 g3 g4 ⟨_, g1, rfl, rfl⟩ ⟨_, g2, rfl, rfl⟩ z5 fun c o x =>
    Heap.get?_push_of_some _ (Heap.get?_push_of_some _ (Heap.get?_push_of_some _ (Heap.get?_push_of_some _ (Heap.get?_push_of_some _ x))))⟩
end
section
open PySem.Spec PyProof.Rows L2
/-- the tuples at a and b as they stand at each turn, the items in new pairs -/
def ItzM (K : PySem.W.Frag) (a b : Addr) : It :=
  ⟨fun i H => ∃ (xs ys : List V) (x y : V), SqT K H a xs ∧ SqL K H b ys ∧ xs[i]? = some x ∧ ys[i]? = some y,
    fun i H v H' => ∃ T x y, v = .ref T ∧ H T = none ∧ H' = upd H T (.tup [x, y]) ∧ (∀ xs, SqT K H a xs → xs[i]? = some x) ∧ ∀ ys, SqL K H b ys → ys[i]? = some y,
    fun i H => ∃ xs ys : List V, SqT K H a xs ∧ SqL K H b ys ∧ (xs.length ≤ i ∨ ys.length ≤ i)⟩
theorem turn_zipM {P : Program} {w : World} {K : PySem.W.Frag} {elts : List Expr} {kk : Nat} {tpos : Pos} {a b z TI TO i1 i2 : Addr} (D : ZipApart z TI TO i1 i2 a b) :
    Turn P w K (.Tuple elts kk tpos) (ItzM K a b) [z, TI, TO, i1, i2] z (fun i h => IsZip h z TI TO .none ∧ IsPair h TI (.ref i1) (.ref i2) ∧ (∃ x y, IsPair h TO x y) ∧ h.IsTupleIter i1 a i ∧ h.IsListIter i2 b i) where
  mem := by simp
  obj := fun i h st c hc => by
    obtain ⟨hz, hTI, ⟨x, y, hTO⟩, ⟨o1, e1, _, d1⟩, ⟨o2, e2, _, d2⟩⟩ := st
    have e' : c = z ∨ c = TI ∨ c = TO ∨ c = i1 ∨ c = i2 := by simpa using hc
    rcases e' with q | q | q | q | q
    · rw [q]; exact ⟨_, hz, fun v q => nomatch q⟩
    · rw [q]; exact ⟨_, hTI, fun v q => nomatch q⟩
    · rw [q]; exact ⟨_, hTO, fun v q => nomatch q⟩
    · rw [q]; exact ⟨o1, e1, fun v q => by rw [d1] at q; cases q⟩
    · rw [q]; exact ⟨o2, e2, fun v q => by rw [d2] at q; cases q⟩
  keep := fun i h h' st k => by
    obtain ⟨hz, hTI, ⟨x, y, hTO⟩, h1, h2⟩ := st
    exact ⟨k z (by simp) _ hz, k TI (by simp) _ hTI, ⟨x, y, k TO (by simp) _ hTO⟩, h1.at fun o q => k i1 (by simp) o q, h2.at fun o q => k i2 (by simp) o q⟩
  item := by
    intro X hP hw hK hc i pins s σ H E I hf st hg
    subst hP hw hK
    obtain ⟨hz, hTI, ⟨x0, y0, hTO⟩, h1, h2⟩ := st
    obtain ⟨xs, ys, x, y, hqx, hqy, hx, hy⟩ := hg
    obtain ⟨its, rv, p, _⟩ := I.tuple hqx
    obtain ⟨its2, rv2, p2, _⟩ := I.list hqy
    obtain ⟨u, hu, ru⟩ := rv.get hx
    obtain ⟨u2, hu2, ru2⟩ := rv2.get hy
    have hzl : z < s.heap.objs.size := Heap.lt_size hz
    refine pyNext_zipM_item D hz hTI hTO h1 h2 p p2.isList (x := u) (y := u2) (by simpa using hu) (by simpa using hu2) fun h' z' TO' h1' h2' hT hsz hk => ?_
    refine ⟨_, rfl, wpAny_letOwnedTupleGo_zip (s := { s with heap := h' }) z' fun h'' z'' sb => ?_⟩
    have hT2 : h''.get? s.heap.objs.size = some { cls := .type "tuple", data := .seq #[u, u2] } := (sb.2 _ (Nat.ne_of_gt hzl)).trans hT
    have new : ObjOk X.prog X.w (upd H s.heap.objs.size (.tup [x, y])) h'' s.heap.objs.size (.tup [x, y]) :=
      ⟨by show 2 ≤ sizeLine; decide, [u, u2], .cons ru (.cons ru2 .nil), ⟨_, hT2, rfl, _, rfl⟩⟩
    have I1 : Inv X pins σ (upd H s.heap.objs.size (.tup [x, y])) { s with heap := h'' } :=
      I.turnedNew (t' := s.toks) (ch := [z, TI, TO, i1, i2]) (fun c o hb q => (sb.2 c (fun q' => hb (by simp [q']))).trans (hk c o (fun q' => hb (by simp [q'])) (fun q' => hb (by simp [q'])) (fun q' => hb (by simp [q'])) (fun q' => hb (by simp [q'])) q)) hf (Nat.le_refl _) new
    refine ⟨.ref s.heap.objs.size, _, I1, rfl, ⟨_, x, y, rfl, I.hok.fresh (Nat.le_refl _), rfl, fun l hl => by rw [I.tuple_inj hl hqx]; exact hx, fun l hl => by rw [I.list_inj hl hqy]; exact hy⟩, ⟨z'', ?_, ⟨u, u2, ?_⟩, ?_, ?_⟩, fun c hcm => ?_⟩
    · exact (sb.2 _ D.TIz).trans (hk _ _ D.TIz D.TITO D.TIi1 D.TIi2 hTI)
    · exact (sb.2 _ D.TOz).trans TO'
    · exact h1'.at fun o q => (sb.2 _ D.i1z).trans q
    · exact h2'.at fun o q => (sb.2 _ D.i2z).trans q
    · have hlt : c < s.heap.objs.size := by
        have e' : c = z ∨ c = TI ∨ c = TO ∨ c = i1 ∨ c = i2 := by simpa using hcm
        rcases e' with q | q | q | q | q
        · rw [q]; exact hzl
        · rw [q]; exact Heap.lt_size hTI
        · rw [q]; exact Heap.lt_size hTO
        · rw [q]; obtain ⟨_, e1, _⟩ := h1; exact Heap.lt_size e1
        · rw [q]; obtain ⟨_, e2, _⟩ := h2; exact Heap.lt_size e2
      rw [upd_ne (Nat.ne_of_lt hlt)]
      exact (hf c hcm).1
  done := by
    intro X hP hw hK hc i pins s σ H E I hf st hg
    subst hP hw hK
    obtain ⟨hz, hTI, ⟨x0, y0, hTO⟩, h1, h2⟩ := st
    obtain ⟨xs, ys, hqx, hqy, hend⟩ := hg
    obtain ⟨its, rv, p, _⟩ := I.tuple hqx
    obtain ⟨its2, rv2, p2, _⟩ := I.list hqy
    have l1 := rv.length
    have l2 := rv2.length
    have he : its.toArray[i]? = none ∨ its2.toArray[i]? = none := by
      rcases hend with q | q
      · exact .inl (by simp; omega)
      · exact .inr (by simp; omega)
    exact pyNext_zipM_end (I.ok.hd hc) D hz hTI hTO h1 h2 p p2.isList he fun h' hk => ⟨rfl, I.turnedL (t' := s.toks) (ch := [z, TI, TO, i1, i2]) (fun c o hb q =>
      hk c o (fun q' => hb (by simp [q'])) (fun q' => hb (by simp [q'])) (fun q' => hb (by simp [q'])) (fun q' => hb (by simp [q'])) q) hf⟩
  self := fun A i s Q E st h => wpAny_pyIter_zip st.1 h
def iZipM (K : PySem.W.Frag) (ta : TA) : TI := fun σ H R => ta σ H fun vs H1 => ∃ a b xs ys, vs = [.ref a, .ref b] ∧ ((SqL K H1 a xs ∧ SqL K H1 b ys ∧ R (Itz K a b) H1) ∨ (SqT K H1 a xs ∧ SqT K H1 b ys ∧ R (RZ.ItzT K a b) H1) ∨ (SqT K H1 a xs ∧ SqL K H1 b ys ∧ R (ItzM K a b) H1))
theorem pi_zipM {X : Cx} {e e2 : Expr} {ta : TA} {p pos tpos : Pos} {elts : List Expr} {kk : Nat} (hg : Gl X "zip") (hm : X.mg "zip" = none) (ha : PA X [e, e2] ta)
    (hs : starEach [e, e2] X.env = (false, eval e X.env) :: starEach [e2] X.env := by rfl) (hpl : (backTo pos (starEach [e2] X.env)).any (·.1) = false := by rfl) :
    PI X (.Tuple elts kk tpos) (.Call (.Name "zip" p) [e, e2] [] pos) (iZipM X.K ta) := by
  refine ⟨fun pins s σ H R I h => ?_⟩
  refine Call_ (ld_blt I hg hm PyProof.Rows.boot_zip (PyProof.Rows.callWith_type1 (thn (ha.run pos pins s σ H _ I h) fun us s1 ⟨vs, H1, I1, r1, q1⟩ => ?_) hs hpl))
  obtain ⟨a, b, xs, ys, ex, q1⟩ := q1
  subst ex
  cases r1 with
  | cons r rr =>
    cases rr with
    | cons r' rr =>
      cases rr
      cases r
      cases r'
      have fresh5 : ∀ c, c ∈ [s1.heap.objs.size + 4, s1.heap.objs.size + 2, s1.heap.objs.size + 3, s1.heap.objs.size, s1.heap.objs.size + 1] → FpOk X pins H1 c := fun c hcm => by
        have e' : c = s1.heap.objs.size + 4 ∨ c = s1.heap.objs.size + 2 ∨ c = s1.heap.objs.size + 3 ∨ c = s1.heap.objs.size ∨ c = s1.heap.objs.size + 1 := by simpa using hcm
        have hle : s1.heap.objs.size ≤ c := by
          rcases e' with z | z | z | z | z
          · rw [z]; exact Nat.le_add_right _ _
          · rw [z]; exact Nat.le_add_right _ _
          · rw [z]; exact Nat.le_add_right _ _
          · rw [z]; exact Nat.le_refl _
          · rw [z]; exact Nat.le_add_right _ _
        exact I1.fpOk hle (I1.hok.fresh hle)
      rcases q1 with ⟨hqx, hqy, q⟩ | ⟨hqx, hqy, q⟩ | ⟨hqx, hqy, q⟩
      · obtain ⟨its, rv, p1, _⟩ := I1.list hqx
        obtain ⟨its2, rv2, p2, _⟩ := I1.list hqy
        refine call_zip_2 p1.isList p2.isList fun h' hz hTI hTO h1 h2 hsz hk => wpAny_pyIter_zip hz ?_
        have I2 : Inv X pins σ H1 { s1 with heap := h' } := I1.kept (t' := s1.toks) hk
        exact ⟨s1.heap.objs.size + 4, [s1.heap.objs.size + 4, s1.heap.objs.size + 2, s1.heap.objs.size + 3, s1.heap.objs.size, s1.heap.objs.size + 1], _, _, H1, rfl, I2, turn_zip (PySem.W.ktu_apart s1.heap.objs.size a b p1.lt p2.lt), ⟨hz, hTI, ⟨_, _, hTO⟩, h1, h2⟩, fresh5, q⟩
      · obtain ⟨its, rv, p1, _⟩ := I1.tuple hqx
        obtain ⟨its2, rv2, p2, _⟩ := I1.tuple hqy
        obtain ⟨o1, ho1, _⟩ := id p1
        obtain ⟨o2, ho2, _⟩ := id p2
        refine RZ.call_zipT (show s1.heap.IsTuple a its.toArray from p1) (show s1.heap.IsTuple b its2.toArray from p2) fun h' hz hTI hTO h1 h2 hsz hk => wpAny_pyIter_zip hz ?_
        have I2 : Inv X pins σ H1 { s1 with heap := h' } := I1.kept (t' := s1.toks) hk
        exact ⟨s1.heap.objs.size + 4, [s1.heap.objs.size + 4, s1.heap.objs.size + 2, s1.heap.objs.size + 3, s1.heap.objs.size, s1.heap.objs.size + 1], _, _, H1, rfl, I2, RZ.turn_zipT (PySem.W.ktu_apart s1.heap.objs.size a b (Heap.lt_size ho1) (Heap.lt_size ho2)), ⟨hz, hTI, ⟨_, _, hTO⟩, h1, h2⟩, fresh5, q⟩
      · obtain ⟨its, rv, p1, _⟩ := I1.tuple hqx
        obtain ⟨its2, rv2, p2, _⟩ := I1.list hqy
        obtain ⟨o1, ho1, _⟩ := id p1
        refine call_zipM (show s1.heap.IsTuple a its.toArray from p1) p2.isList fun h' hz hTI hTO h1 h2 hsz hk => wpAny_pyIter_zip hz ?_
        have I2 : Inv X pins σ H1 { s1 with heap := h' } := I1.kept (t' := s1.toks) hk
        exact ⟨s1.heap.objs.size + 4, [s1.heap.objs.size + 4, s1.heap.objs.size + 2, s1.heap.objs.size + 3, s1.heap.objs.size, s1.heap.objs.size + 1], _, _, H1, rfl, I2, turn_zipM (PySem.W.ktu_apart s1.heap.objs.size a b (Heap.lt_size ho1) p2.lt), ⟨hz, hTI, ⟨_, _, hTO⟩, h1, h2⟩, fresh5, q⟩
end
end DLX
set_option maxHeartbeats 2000000
/-! tuple(reversed(a tuple)). -/
namespace DLX
open PySem PySem.Spec PyProof.Rows
theorem nolen_rt : typeLookup (.type "reversed") "__len__" = pure none := by rw [typeLookup_type, builtinLookup_eq_fast]; kernel_rfl
theorem slot_rt_hint : Slot "reversed" "__length_hint__" "reversed.__length_hint__" :=
  .of (owner := "reversed") (n := "__length_hint__") (by rw [typeLookup_type, builtinLookup_eq_fast]; kernel_rfl) (by decide +kernel) (by decide +kernel) (by decide +kernel)
    (by first | exact .inl (by decide +kernel) | exact .inr (by decide +kernel)) (by rw [isSubtype_type]; kernel_rfl)
theorem entry_rt_hint : entryFor table "reversed.__length_hint__" = some Builtin.«reversed.__length_hint__» := entryFor_of_tree (by kernel_rfl)
theorem args_rt_hint (a : Value) : argsOk "reversed.__length_hint__" ⟨[a], []⟩ := by
  unfold argsOk; rw [signature?_of (id := "reversed.__length_hint__") (n := ['_', '_', 't', 'n', 'i', 'h', '_', 'h', 't', 'g', 'n', 'e', 'l', '_', '_']) (o := ['d', 'e', 's', 'r', 'e', 'v', 'e', 'r']) (by kernel_rfl) RT.owner_rt]; kernel_rfl
section
variable {prog : Program} {w : World} {A : Around} {E : Value → Shared → Prop} {s : Shared}
/-- how long reversed(t) is, all its items ahead -/
theorem call_rt_hint {it t : Addr} {items : Array Value} {Q : Value → Shared → Prop} (hit : RT.IsRt s.heap it t ((items.size : Int) - 1)) (ht : IsTup s.heap t items) (hn : items.size ≤ sizeLine) (hQ : ∀ tk tk', s.toks ≤ tk → Q (.int (items.size : Int) tk') { s with toks := tk }) :
    wpAny (model prog w) A (call (.builtin "reversed.__length_hint__") [.ref it]) Q E s := by
  obtain ⟨o, ho, hc, hd⟩ := id hit
  refine wpAny_call_entry slot_rt_hint hit.typeIs entry_rt_hint ?_ (args_rt_hint _)
  unfold Builtin.«reversed.__length_hint__»
  refine wpAny_bind (wpAny_of_eq (a := Value.ref it) rfl ?_)
  try dsimp only
  refine wpAny_bind (wpAny_field ho hd (x := .ref t) rfl ?_)
  try dsimp only
  show wpAny _ _ (if (Value.ref t == Value.none) = true then _ else _) _ _ s
  rw [if_neg (show ¬ ((Value.ref t == Value.none) = true) from Bool.false_ne_true)]
  refine wpAny_bind (len_tuple ht (by have h := hn; rw [sizeLine_eq] at h; omega) ?_)
  refine wpAny_bind (wpAny_of_eq (a := some (items.size : Int)) rfl ?_)
  try dsimp only
  refine wpAny_bind (wpAny_field (s := { s with toks := s.toks + 1 + 1 }) ho hd (x := rawInt ((items.size : Int) - 1)) rfl ?_)
  try dsimp only
  show wpAny _ _ (if (items.size : Int) < (items.size : Int) - 1 + 1 then _ else _) _ _ _
  rw [if_neg (by omega)]
  rw [show (items.size : Int) - 1 + 1 = (items.size : Int) from by omega]
  unfold retInt
  refine wpAny_bind (wpAny_mkInt ?_)
  refine wpAny_pure ⟨_, rfl, hQ _ _ (by show s.toks ≤ s.toks + 1 + 1 + 1; omega)⟩
theorem walks_rt (hh : A.handled = none) {it t : Addr} (items : Array Value) (hne : t ≠ it) (hn : items.size ≤ sizeLine) : WalksS prog w A it [it, t] [it] (fun a b => b = a) items.size (fun i v => items[items.size - 1 - i]? = some v) (fun i s => i ≤ items.size ∧ RT.IsRt s.heap it t ((items.size : Int) - 1 - (i : Int)) ∧ IsTup s.heap t items) where
  sub := by simp
  grefl := fun _ => rfl
  gtrans := fun _ _ _ h1 h2 => h2.trans h1
  frame := fun i s h' tk st htk hk => ⟨st.1, st.2.1.at fun o e => hk it (by simp) o e, by
    obtain ⟨o, ho, r⟩ := st.2.2
    exact ⟨o, hk t (by simp) o ho, r⟩⟩
  item := fun i s Q E hi st hQ => by
    obtain ⟨h1, h2, h3⟩ := st
    have e1 : (items.size : Int) - 1 - (i : Int) = ((items.size - 1 - i : Nat) : Int) := by omega
    rw [e1] at h2
    have hx : items[items.size - 1 - i]? = some items[items.size - 1 - i] := Array.getElem?_eq_getElem (by omega)
    refine RT.next_rt_item h2 h3 hx hn fun h' h4 h5 => hQ _ _ hx ⟨by omega, ?_, ?_⟩ ⟨fun b o hb e => h5.extBut b o (by simpa using hb) e, rfl, rfl, rfl, Nat.le_succ _⟩
    · rw [show (items.size : Int) - 1 - ((i + 1 : Nat) : Int) = ((items.size - 1 - i : Nat) : Int) - 1 from by omega]; exact h4
    · obtain ⟨o, ho, r⟩ := h3
      exact ⟨o, h5.extBut t o hne ho, r⟩
  done := fun s Q E st hQ => by
    obtain ⟨h1, h2, h3⟩ := st
    rw [show (items.size : Int) - 1 - (items.size : Int) = -1 from by omega] at h2
    exact RT.next_rt_end hh h2 fun h' eb => hQ _ ⟨fun b o hb e => eb b o (by simpa using hb) e, rfl, rfl, rfl, Nat.le_refl _⟩
  self := fun i s Q E st hQ => RT.iter_rt st.2.1 hQ
theorem line_one : 1 ≤ sizeLine := by decide
theorem collect_rt {it t : Addr} {items : Array Value} {Q : List Value → Shared → Prop} (hh : A.handled = none) (hit : RT.IsRt s.heap it t ((items.size : Int) - 1)) (ht : IsTup s.heap t items) (hne : t ≠ it) (hn : items.size ≤ sizeLine)
    (hQ : ∀ (h' : Heap) (tk : Nat) (acc : Array Value), (∀ b o, b ≠ it → s.heap.get? b = some o → h'.get? b = some o) → ItemsOf (fun i v => items[items.size - 1 - i]? = some v) acc items.size → Q acc.toList { s with heap := h', toks := tk }) :
    wpAny (model prog w) A (collect (.ref it)) Q E s := by
  have W := walks_rt (prog := prog) (w := w) (A := A.in1) hh (it := it) items hne hn
  obtain ⟨oi, hoi, _⟩ := id hit
  obtain ⟨ol, hol, _⟩ := id ht
  have hSi : s.heap.objs.size ≠ it := Nat.ne_of_gt (Heap.lt_size hoi)
  have hSl : s.heap.objs.size ≠ t := Nat.ne_of_gt (Heap.lt_size hol)
  have hSf : s.heap.objs.size ∉ [it, t] := by simp only [List.mem_cons, List.not_mem_nil, or_false, not_or]; exact ⟨hSi, hSl⟩
  unfold collect
  refine wpAny_bind (wpAny_runValue (codeAny_builtin F.entry_proto_collect ?_))
  rw [Around.under_plainId F.plain_proto_collect _]
  show wpAny _ A.in1 (newList [] >>= fun l' => again (.builtin "list.__iadd__" ⟨[l', .ref it], []⟩)) _ _ s
  refine wpAny_bind (wpAny_newObj_type ?_)
  refine wpAny_pure ⟨plainId_quiet F.plain_list_iadd _, codeAny_builtin F.entry_list_iadd ?_⟩
  rw [Around.under_plainId F.plain_list_iadd _]
  have hS₁ : (s.heap.push { cls := .type "list", data := .seq ([] : List Value).toArray }).get? s.heap.objs.size = some { cls := .type "list", data := .seq ([] : List Value).toArray } := Heap.get?_push_size _ rfl
  have hit1 : RT.IsRt (s.heap.push { cls := .type "list", data := .seq ([] : List Value).toArray }) it t ((items.size : Int) - 1) := hit.at fun o e => Heap.get?_push_of_some _ e
  have ht1 : IsTup (s.heap.push { cls := .type "list", data := .seq ([] : List Value).toArray }) t items := ht.push _
  have hT : ({ s with heap := s.heap.push { cls := .type "list", data := .seq ([] : List Value).toArray } } : Shared).TypeIs (.ref it) "reversed" := RT.IsRt.typeIs (s := { s with heap := s.heap.push { cls := .type "list", data := .seq ([] : List Value).toArray } }) hit1
  have h1 : Builtin.List.listSameRef (.ref s.heap.objs.size) (.ref it) = false := by simp [Builtin.List.listSameRef, hSi]
  show wpAny _ A.in1 (Builtin.List.listExtendWith (.ref s.heap.objs.size) (.ref it) (.ref s.heap.objs.size)) _ _ _
  unfold Builtin.List.listExtendWith
  refine wpAny_bind (wpAny_typeOf hT ?_)
  rw [if_neg (by rw [h1]; decide)]
  refine wpAny_bind (RT.iter_rt (s := { s with heap := s.heap.push { cls := .type "list", data := .seq ([] : List Value).toArray } }) hit1 ?_)
  refine wpAny_bind (wpAny_holding ?_)
  unfold Builtin.List.listLengthHint
  refine wpAny_bind (wpAny_specialOf hT nolen_rt ?_)
  show wpAny _ A.in1 (specialOf (Value.ref it) (Str.ofString "__length_hint__") >>= _) _ _ _
  refine wpAny_bind (wpAny_specialOf hT slot_rt_hint.lookup ?_)
  generalize hid : ("reversed.__length_hint__" : String) = id0
  wp_delta
  rw [show splitId id0 = some ("reversed", "__length_hint__") from by subst hid; decide +kernel]
  subst hid
  refine wpAny_bind (wpAny_isInstance (b := true) hT (by rw [isSubtype_type]; kernel_rfl) ?_)
  simp only [Bool.not_true, Bool.false_eq_true, if_false]
  rw [if_neg (by decide +kernel)]
  refine wpAny_bind (wpAny_rule ?_)
  rw [slot_rt_hint.bind]
  refine wpAny_bind (wpAny_pure ?_)
  refine wpAny_bind (wpAny_attempt (call_rt_hint (s := { s with heap := s.heap.push { cls := .type "list", data := .seq ([] : List Value).toArray } }) hit1 ht1 hn fun tk tk' htk => ?_))
  show wpAny _ A.in1 (asInt? (Value.int (items.size : Int) tk') >>= _) _ _ _
  have ea : asInt? (Value.int (items.size : Int) tk') = (pure (some (items.size : Int)) : Sem (Option Int)) := rfl
  rw [ea]
  simp only [pure_bind]
  have hsz : items.size < 2 ^ 62 := by have h := hn; rw [sizeLine_eq] at h; omega
  have c1 : (!Builtin.List.listFitsIndex (items.size : Int)) = false := by
    unfold Builtin.List.listFitsIndex
    rw [decide_eq_true (show -(2 ^ 63 : Int) ≤ (items.size : Int) by omega), decide_eq_true (show (items.size : Int) < 2 ^ 63 by omega)]
    rfl
  have c2 : Builtin.List.listTooLong (items.size : Int).toNat = false := by
    unfold Builtin.List.listTooLong
    rw [Int.toNat_natCast]
    exact decide_eq_false (by omega)
  simp only [c1, c2, Bool.false_eq_true, if_false, show ¬ ((items.size : Int) < 0) by omega]
  refine wpAny_pure ?_
  have e0 : ((items.size : Nat) : Int) - 1 - ((0 : Nat) : Int) = (items.size : Int) - 1 := by omega
  split
  · show wpAny _ A.in1 (rule "list.extend.makes-room" >>= fun _ => Builtin.List.listTouch (.ref s.heap.objs.size) >>= fun _ =>
      again (.builtin "list.extend.loop" ⟨[.ref s.heap.objs.size, .ref it, .ref s.heap.objs.size], []⟩)) _ _ _
    refine wpAny_bind (wpAny_rule ?_)
    refine wpAny_bind ?_
    show wpAny _ A.in1 (updateSeq s.heap.objs.size (·.push .none) >>= fun _ => updateSeq s.heap.objs.size (·.pop)) _ _ _
    refine wpAny_bind (wpAny_updateSeq (hz := Nat.zero_le _) (_hz' := (Nat.succ_le_succ (Nat.zero_le _) : 1 ≤ sizeLine + 1)) hS₁ rfl ?_)
    have hS₂ := Heap.get?_update_self (Obj.mapSeq (·.push Value.none)) hS₁ rfl
    refine wpAny_updateSeq (hz := line_one) (_hz' := Nat.zero_le _) hS₂ rfl ?_
    have hS₃ := Heap.get?_update_self (Obj.mapSeq (·.pop)) hS₂ rfl
    have oth : ∀ b o, b ≠ s.heap.objs.size → (s.heap.push { cls := .type "list", data := .seq ([] : List Value).toArray }).get? b = some o →
        (((s.heap.push { cls := .type "list", data := .seq ([] : List Value).toArray }).update s.heap.objs.size (Obj.mapSeq (·.push Value.none))).update s.heap.objs.size (Obj.mapSeq (·.pop))).get? b = some o :=
      fun b o hb e => (Heap.get?_update_other _ _ (Ne.symm hb)).trans ((Heap.get?_update_other _ _ (Ne.symm hb)).trans e)
    have hit2 := hit1.at fun o e => oth it o (Ne.symm hSi) e
    have ht2 : IsTup (((s.heap.push { cls := .type "list", data := .seq ([] : List Value).toArray }).update s.heap.objs.size (Obj.mapSeq (·.push Value.none))).update s.heap.objs.size (Obj.mapSeq (·.pop))) t items := by
      obtain ⟨o, ho, r⟩ := ht1
      exact ⟨o, oth t o (Ne.symm hSl) ho, r⟩
    refine wpAny_pure ⟨plainId_quiet F.plain_extend_loop _, codeAny_extend_loopS W hn _ hSf _ items.size 0 _ _ _ rfl (Nat.zero_le _) ⟨Nat.zero_le _, by rw [e0]; exact hit2, ht2⟩ hS₃ (ItemsOf.nil _) fun s' acc' c' hm hS' hacc => ?_⟩
    show wpAny _ A (load s.heap.objs.size >>= _) _ _ s'
    refine wpAny_bind (wpAny_load hS' ?_)
    refine wpAny_pure ?_
    rw [Moved.eq_with hm]
    refine hQ s'.heap s'.toks acc' (fun b o hb e => hm.heap b o (fun hmem => ?_) (oth b o (Nat.ne_of_lt (Heap.lt_size e)) (Heap.get?_push_of_some _ e))) hacc
    rcases List.mem_cons.mp hmem with e' | hmem
    · exact absurd (Heap.lt_size e) (by rw [e']; exact Nat.lt_irrefl _)
    · exact hb (List.mem_singleton.mp hmem)
  · refine wpAny_pure ⟨plainId_quiet F.plain_extend_loop _, codeAny_extend_loopS W hn _ hSf _ items.size 0 _ _ _ rfl (Nat.zero_le _) ⟨Nat.zero_le _, by rw [e0]; exact hit1, ht1⟩ hS₁ (ItemsOf.nil _) fun s' acc' c' hm hS' hacc => ?_⟩
    show wpAny _ A (load s.heap.objs.size >>= _) _ _ s'
    refine wpAny_bind (wpAny_load hS' ?_)
    refine wpAny_pure ?_
    rw [Moved.eq_with hm]
    refine hQ s'.heap s'.toks acc' (fun b o hb e => hm.heap b o (fun hmem => ?_) (Heap.get?_push_of_some _ e)) hacc
    rcases List.mem_cons.mp hmem with e' | hmem
    · exact absurd (Heap.lt_size e) (by rw [e']; exact Nat.lt_irrefl _)
    · exact hb (List.mem_singleton.mp hmem)
theorem code_tuple_new_rt {it t : Addr} {items : Array Value} {Q₁ : Value → Shared → Prop} (hh : A.handled = none) (hit : RT.IsRt s.heap it t ((items.size : Int) - 1)) (ht : IsTup s.heap t items) (hne : t ≠ it) (hn : items.size ≤ sizeLine)
    (h : ∀ (h' : Heap) (tk : Nat) (acc : Array Value), (∀ b o, b ≠ it → s.heap.get? b = some o → h'.get? b = some o) → ItemsOf (fun i v => items[items.size - 1 - i]? = some v) acc items.size →
      Q₁ (.ref h'.objs.size) { s with heap := h'.push { cls := .type "tuple", data := .seq acc }, toks := tk }) :
    codeAny (model prog w) A (.call (.builtin "tuple.__new__") ⟨[.type "tuple", .ref it], []⟩) (wants Q₁ E) s := by
  refine codeAny_of_tree ?_
  show wpAny _ A.in1 (do checkBuiltinCall "tuple.__new__" ⟨[.type "tuple", .ref it], []⟩; again (.builtin "tuple.__new__" ⟨[.type "tuple", .ref it], []⟩)) _ _ s
  refine wpAny_bind (wpAny_of_eq (F.newCall_tuple_1 _) (wpAny_pure ⟨plainId_quiet F.plain_tuple_new _, codeAny_builtin F.entry_tuple_new ?_⟩))
  rw [Around.under_plainId F.plain_tuple_new _]
  have hsub := sub_tuple_self
  have hinit := init_tuple_lookup
  have hmh := madeHere_tuple
  have hTI : s.TypeIs (.ref it) "reversed" := hit.typeIs
  have hh1 : A.in1.handled = none := hh
  wp_walk using wpAny_typeOf hTI, collect_rt (A := A.in1) hh1 hit ht hne hn
  intro h' tk acc hk hacc
  show wpAny _ _ (Builtin.Tuple.tupleExact acc.toList.toArray >>= fun v => ret v) _ _ _
  unfold Builtin.Tuple.tupleExact
  refine wpAny_bind (wpAny_newObj_type ?_ (by show acc.toList.toArray.size ≤ sizeLine; simp only [Array.toArray_toList]; rw [hacc.1]; exact hn))
  refine wpAny_pure ?_
  have e : acc.toList.toArray = acc := by simp
  rw [e]
  exact h h' tk acc hk hacc
theorem call_tuple_rt {it t : Addr} {items : Array Value} {Q : Value → Shared → Prop} (hh : A.handled = none) (hit : RT.IsRt s.heap it t ((items.size : Int) - 1)) (ht : IsTup s.heap t items) (hne : t ≠ it) (hn : items.size ≤ sizeLine)
    (hQ : ∀ (h' : Heap) (tk : Nat) (acc : Array Value), (∀ b o, b ≠ it → s.heap.get? b = some o → h'.get? b = some o) → ItemsOf (fun i v => items[items.size - 1 - i]? = some v) acc items.size →
      Q (.ref h'.objs.size) { s with heap := h'.push { cls := .type "tuple", data := .seq acc }, toks := tk }) :
    wpAny (model prog w) A (call (.type "tuple") [.ref it]) Q E s := by
  refine callType_codes (Q₁ := fun obj s₁ => s₁.TypeIs obj "tuple" ∧ Q obj s₁) F.called_tuple (F.typeCall_tuple_1 _) F.entry_object_init
    (code_tuple_new_rt (A := A.in1) hh hit ht hne hn fun h' tk acc hk hacc => ⟨⟨_, Heap.get?_push_size _ rfl, rfl⟩, hQ h' tk acc hk hacc⟩) fun obj s₁ h₁ => ?_
  exact ⟨h₁.1, F.args_object_init_2 obj _, object_init_meets F.called_tuple.init.lookup F.called_tuple.made (by decide) prog w A.in1 _ s₁ ⟨h₁.1, rfl, h₁.2⟩⟩
end
open L2
/-- tuple(reversed(x)), x a tuple: a new tuple -/
def tTupRevT (K : PySem.W.Frag) (te : TE) : TE := fun σ H Q => te σ H fun v H1 => ∃ (a : Addr) (xs : List V), v = .ref a ∧ SqT K H1 a xs ∧ ∀ q, H1 q = none → Q (.ref q) (upd H1 q (.tup xs.reverse))
section
variable {X : Cx}
theorem pe_tupRevT {e : Expr} {te : TE} {p p2 pos pos2 : Pos} (hc : X.calm = true) (hg : Gl X "tuple") (hm : X.mg "tuple" = none) (hg2 : Gl X "reversed") (hm2 : X.mg "reversed" = none) (he : PE X e te)
    (hs : starEach [e] X.env = (false, eval e X.env) :: starEach [] X.env := by rfl)
    (hs2 : starEach [.Call (.Name "reversed" p2) [e] [] pos2] X.env = (false, eval (.Call (.Name "reversed" p2) [e] [] pos2) X.env) :: starEach [] X.env := by rfl) :
    PE X (.Call (.Name "tuple" p) [.Call (.Name "reversed" p2) [e] [] pos2] [] pos) (tTupRevT X.K te) := by
  refine ⟨fun pins s σ H Q I h => ?_⟩
  refine Call_ (ld_blt I hg hm boot_tuple (PyProof.Rows.callWith_type1 (args_cons (Call_ (ld_blt I hg2 hm2 PyProof.Rows.boot_reversed (PyProof.Rows.callWith_type1 (args_cons (thn (he.run pins s σ H _ I h) fun u s1 ⟨v, H1, I1, r1, q1⟩ => args_nil ?_) hs) hs rfl))) hs2) hs2 rfl))
  obtain ⟨a, xs, ev, hq, q⟩ := q1
  subst ev
  obtain rfl : u = Value.ref a := r1
  obtain ⟨its, rv, p', hz⟩ := I1.tuple hq
  have hl0 := rv.length
  have hn63 := line63
  have hn : its.toArray.size ≤ sizeLine := by rw [List.size_toArray, ← rv.length]; exact hz
  refine RT.call_reversed_tup p' (fun A E Q k => len_tuple p' (by simp only [List.size_toArray] <;> omega) k) (args_nil ?_)
  have k0 : ∀ b o, s1.heap.get? b = some o → (s1.heap.push (RT.rtObj a ((its.toArray.size : Int) - 1))).get? b = some o := fun b o e => Heap.get?_push_of_some _ e
  have I2 : Inv X pins σ H1 { s1 with heap := s1.heap.push (RT.rtObj a ((its.toArray.size : Int) - 1)), toks := s1.toks + 1 + 1 } := I1.kept (t' := s1.toks + 1 + 1) k0
  obtain ⟨f0, f1, f2, f3, f4, f5⟩ := I1.fpOk (H' := H1) (b := s1.heap.objs.size) (Nat.le_refl _) (I1.hok.fresh (Nat.le_refl _))
  obtain ⟨ol, hol, _⟩ := id p'
  have hne : a ≠ s1.heap.objs.size := Nat.ne_of_lt (Heap.lt_size hol)
  refine call_tuple_rt (s := { s1 with heap := s1.heap.push (RT.rtObj a ((its.toArray.size : Int) - 1)), toks := s1.toks + 1 + 1 }) (I1.ok.hd hc) ⟨_, Heap.get?_push_size _ rfl, rfl, rfl⟩ (p'.push _) hne hn fun h' tk acc hk hi => ?_
  have I3 : Inv X pins σ H1 { s1 with heap := h', toks := tk } := I2.turned (t' := tk) (fun b o hb e => hk b o hb e) f0 f1 f3 f4 f5
  refine ⟨.ref h'.objs.size, upd H1 h'.objs.size (.tup xs.reverse), I3.laid (t' := tk) (fun c o e => Heap.get?_push_of_some _ e) (Nat.le_refl _) (show ObjOk X.prog X.w _ _ _ (.tup xs.reverse) from ⟨by rw [List.length_reverse]; exact hz, acc.toList, RT.vals_rev rv hi, ?_⟩), rfl, q _ (I3.hok.fresh (Nat.le_refl _))⟩
  rw [Array.toArray_toList]
  exact IsTup.new _ _
end
end DLX
/-! Objects of classes of the text: what is made, what is called on them, where what is raised is wished for at the caller's slots. -/
namespace DLM
open PySem PySem.Spec PyProof.Rows L2
section
variable {X : Cx} {CX : CXT} {k : Nat} {f C : Addr} {fd : FuncData} {ps : List Str} {sp : Sp} {E : L2.St → XK} {x m : Str} {p pos apos : Pos} {e o : Expr} {es : List Expr} {ta : TE} {t : TA}
/-- how o.m(..) is evaluated -/
def MtOk (X : Cx) (o : Expr) (m : Str) (es : List Expr) (apos pos : Pos) : Prop := ∃ pl : Sem Bool, eval (.Call (.Attribute o m apos) es [] pos) X.env = (do
      let ov ← eval o X.env
      standAt apos.atName; let (g, first) ← holding [ov] (getMethod ov m pl)
      callWith pos g first (backTo pos (starEach es X.env)) (backToKw pos (keywordEach [] X.env)))
def tMethE (C : Addr) (m : Str) (sp : Sp) (E : L2.St → XK) (ta : TE) (t : TA) : TE := fun σ H Q => ta σ H fun x H1 => ∃ a dx fs, x = .ref a ∧ H1 a = some (.ins C dx fs) ∧ fs.lookup m = none ∧ t σ H1 fun vs H2 => sp (x :: vs) H2 Q (E σ)
theorem pe_methE (he : PE X o ta) (c : Cls X.K C) (hm : Meth X.K C m f) (fo : FnOk X.prog X.w X.K X.mg X.base CX k f fd ps sp) (hr : Room k X.A) (hb : Binds X.K fd ps []) (hx : ∀ σ, PassesAt CX X σ (E σ)) (ha : PA X (e :: es) t)
    (mt : MtOk X o m (e :: es) apos pos) (hst : starEach (e :: es) X.env = (false, eval e X.env) :: starEach es X.env) (hpl : (backTo pos (starEach es X.env)).any (·.1) = false) :
    PE X (.Call (.Attribute o m apos) (e :: es) [] pos) (tMethE C m sp E ta t) := by
  obtain ⟨pl, ht⟩ := mt
  refine ⟨fun pins s σ H Q I h => PySem.W.methodCall_KW (pl := pl) (thn (he.run pins s σ H _ I h) fun u s1 ⟨x, H1, I1, rx, a, dx, fs, ex, ea, l, q⟩ => ?_) ht⟩
  subst ex; cases rx
  refine getmeth_ok I1 ea c hm l (PySem.W.callWith_K (first := [.ref a]) (h₀ := X.base) I.ok.mod.kin hm.kp (thn (ha.run pos pins s1 σ H1 _ I1 q) fun us s2 ⟨vs, H2, I2, r, q2⟩ => ⟨I2.kIn, ?_⟩) hst hpl)
  exact run_fnS (us := .ref a :: us) (vs := .ref a :: vs) fo hr hb (hx σ) I2 (.cons rfl r) q2
theorem pe_methE0 (he : PE X o ta) (c : Cls X.K C) (hm : Meth X.K C m f) (fo : FnOk X.prog X.w X.K X.mg X.base CX k f fd ps sp) (hr : Room k X.A) (hb : Binds X.K fd ps []) (hx : ∀ σ, PassesAt CX X σ (E σ))
    (mt : MtOk X o m [] apos pos) : PE X (.Call (.Attribute o m apos) [] [] pos) (tMethE C m sp E ta tNil) := by
  obtain ⟨pl, ht⟩ := mt
  refine ⟨fun pins s σ H Q I h => PySem.W.methodCall_KW (pl := pl) (thn (he.run pins s σ H _ I h) fun u s1 ⟨x, H1, I1, rx, a, dx, fs, ex, ea, l, q⟩ => ?_) ht⟩
  subst ex; cases rx
  exact getmeth_ok I1 ea c hm l (PySem.W.callWith_K0 (first := [.ref a]) I1.kIn hm.kp (run_fnS (us := [.ref a]) (vs := [.ref a]) fo hr hb (hx σ) I1 (.cons rfl .nil) q))
def tMakeE (C : Addr) (sp : Sp) (E : L2.St → XK) (t : TA) : TE := fun σ H Q => t σ H fun vs H1 => ∀ x dx, H1 x = none → H1 dx = none → dx ≠ x →
  sp (.ref x :: vs) (L2.upd (L2.upd H1 dx (.own x)) x (.ins C dx [])) (fun v H2 => v = .non ∧ Q (.ref x) H2) (E σ)
theorem run_makeE {pins : List (Addr × Obj)} {σ : L2.St} {H : Hp} {s : Shared} {Q : VK} {us : List Value} {vs : List V} (M : Mk X.K C f) (fo : FnOk X.prog X.w X.K X.mg X.base CX k f fd ps sp) (hr : Room (k + 1) X.A) (hb : Binds X.K fd ps [])
    (hx : PassesAt CX X σ (E σ)) (I : Inv X pins σ H s) (r : Vals vs us)
    (h : ∀ x dx, H x = none → H dx = none → dx ≠ x → sp (.ref x :: vs) (L2.upd (L2.upd H dx (.own x)) x (.ins C dx [])) (fun v H2 => v = .non ∧ Q (.ref x) H2) (E σ)) :
    wpAny (model X.prog X.w) X.A (call (.ref C) us) (EP X pins σ Q) X.xe s := by
  have q1 := h (s.heap.objs.size + 1) s.heap.objs.size (I.hok.fresh (Nat.le_succ _)) (I.hok.fresh (Nat.le_refl _)) (Nat.ne_of_lt (Nat.lt_succ_self s.heap.objs.size))
  have I2 := Inv.made (C := C) I
  have r2 : Vals (V.ref (s.heap.objs.size + 1) :: vs) (Value.ref (s.heap.objs.size + 1) :: us) := .cons rfl r
  have hl : (Value.ref (s.heap.objs.size + 1) :: us).length = ps.length := by rw [← r2.length]; exact fo.len _ _ _ _ q1
  have b := hb _ (Value.ref (s.heap.objs.size + 1) :: us) I2.kIn (by rw [List.append_nil]; exact hl)
  rw [List.append_nil] at b
  refine wpAny_call (make_map (f := f) I.kIn M.makes M.init (beq_iff_eq.mp M.fn) (codeAny_mono (fo.run _ X.stack _ _ ⟨Value.ref (s.heap.objs.size + 1) :: us, []⟩ _ _ _ (E σ) (hr.make C us []) (I2.env0.make C us []) b r2 q1) fun r s' hq => ?_))
  cases r with
  | error e => exact hx pins _ _ e s' I2 hq
  | ok fl =>
    cases fl with
    | ret u =>
      obtain ⟨v, H', I3, rv, ev, q3⟩ := I2.after hq
      subst ev
      exact ⟨rv, V.ref (s.heap.objs.size + 1), H', I3, rfl, q3⟩
    | _ => exact hq.elim
theorem pe_makeE (M : Mk X.K C f) (fo : FnOk X.prog X.w X.K X.mg X.base CX k f fd ps sp) (hr : Room (k + 1) X.A) (hg : Gl X x) (hm : X.mg x = some (.ref C)) (hb : Binds X.K fd ps []) (hx : ∀ σ, PassesAt CX X σ (E σ)) (ha : PA X (e :: es) t)
    (hdb : (x == ("__debug__" : Str)) = false) (he : starEach (e :: es) X.env = (false, eval e X.env) :: starEach es X.env) (hpl : (backTo pos (starEach es X.env)).any (·.1) = false) :
    PE X (.Call (.Name x p) (e :: es) [] pos) (tMakeE C sp E t) :=
  ⟨fun pins s σ H Q I h => wpAny_Call_Name_kw (ld_glob I hg hm (PySem.W.callWith_K (h₀ := X.base) I.ok.mod.kin M.kp (thn (ha.run pos pins s σ H _ I h) fun us s1 ⟨vs, H1, I1, r, q⟩ => ⟨I1.kIn, run_makeE M fo hr hb (hx σ) I1 r q⟩) he hpl) hdb)⟩
theorem pe_makeE0 (M : Mk X.K C f) (fo : FnOk X.prog X.w X.K X.mg X.base CX k f fd ps sp) (hr : Room (k + 1) X.A) (hg : Gl X x) (hm : X.mg x = some (.ref C)) (hb : Binds X.K fd ps []) (hx : ∀ σ, PassesAt CX X σ (E σ)) (hdb : (x == ("__debug__" : Str)) = false) :
    PE X (.Call (.Name x p) [] [] pos) (tMakeE C sp E tNil) :=
  ⟨fun pins s σ H Q I h => wpAny_Call_Name_kw (ld_glob I hg hm (PySem.W.callWith_K0 I.kIn M.kp (run_makeE (us := []) M fo hr hb (hx σ) I .nil h)) hdb)⟩
end
end DLM
/-! {elt for t0 in i0 for t1 in i1}, elt a whole number: two clauses (turned from the kit's list of two clauses and its set of truth values). -/
namespace DLS
open PySem PySem.Spec PyProof.Rows L2
open PpSet (eval_SetComp codeAny_compStart_set newSet_ok)
theorem cs2_out (elt t0 i0 t1 i1 : Expr) (ifs0 ifs1 : List Expr) (scope : Scope) (pos : Pos) (it acc : Value) (env : PySem.Env) :
    compTurn (.SetComp elt [⟨t0, i0, ifs0, 0⟩, ⟨t1, i1, ifs1, 0⟩] scope pos) 0 it acc env = (do
      standAt i0.pos
      match ← pyNext it with
      | none => pure (.done .next)
      | some v =>
        letOwnedTupleGo t0 it v
        assign t0 env v
        let mut ok := true
        for c in ifs0 do
          if ok then ok ← isTrue c env (eval c env)
        if ok then
          let x ← eval i1 env
          standAt i1.pos
          let x ← foldedSetIterable i1 env x
          let _ ← runOwn (.compStart (.SetComp elt [⟨t0, i0, ifs0, 0⟩, ⟨t1, i1, ifs1, 0⟩] scope pos) 1 (← holding [x] (pyIter x)) acc env) env
        again (.compLoop (.SetComp elt [⟨t0, i0, ifs0, 0⟩, ⟨t1, i1, ifs1, 0⟩] scope pos) 0 it acc env)) := by rfl
theorem cs2_in (elt t0 i0 t1 i1 : Expr) (ifs0 ifs1 : List Expr) (scope : Scope) (pos : Pos) (it acc : Value) (env : PySem.Env) :
    compTurn (.SetComp elt [⟨t0, i0, ifs0, 0⟩, ⟨t1, i1, ifs1, 0⟩] scope pos) 1 it acc env = (do
      standAt i1.pos
      match ← pyNext it with
      | none => pure (.done .next)
      | some v =>
        letOwnedTupleGo t1 it v
        assign t1 env v
        let mut ok := true
        for c in ifs1 do
          if ok then ok ← isTrue c env (eval c env)
        if ok then
          (do let v ← eval elt env; standAt elt.pos; let _ ← call (.builtin "set.add") [acc, v])
        again (.compLoop (.SetComp elt [⟨t0, i0, ifs0, 0⟩, ⟨t1, i1, ifs1, 0⟩] scope pos) 1 it acc env)) := by rfl
section
variable {prog : Program} {w : World} {A : Around} {R : Result → Shared → Prop} {s : Shared} {elt t0 i0 t1 i1 : Expr} {ifs0 ifs1 : List Expr} {scope : Scope} {pos : Pos} {it acc : Value} {env : PySem.Env}
theorem loopS_out (hs : ∀ x, foldedSetIterable i1 env x = pure x) (I : Nat → Shared → Prop)
    (turn : ∀ n s, I n s → wpAny (model prog w) A (pyNext it) (fun r s₁ => match r with
      | none => R (.ok .next) s₁
      | some v => wpAny (model prog w) A (letOwnedTupleGo t0 it v) (fun _ s₁' => wpAny (model prog w) A (assign t0 env v) (fun _ s₂ =>
          wpAny (model prog w) A (forIn ifs0 true fun c r => if r = true then do let ok ← isTrue c env (eval c env); pure (ForInStep.yield ok) else pure (ForInStep.yield r)) (fun ok s₃ =>
            if ok = true then wpAny (model prog w) A (eval i1 env) (fun x s₄ => wpAny (model prog w) A (pyIter x) (fun it1 s₅ =>
              codeAny (model prog w) A (.compStart (.SetComp elt [⟨t0, i0, ifs0, 0⟩, ⟨t1, i1, ifs1, 0⟩] scope pos) 1 it1 acc env) (fun r s' => match r with
                | .ok _ => ∃ m, m < n ∧ I m s'
                | .error _ => False) s₅) (notedBy (model prog w) A env fun e s' => R (.error e) s') s₄) (notedBy (model prog w) A env fun e s' => R (.error e) s') s₃
            else ∃ m, m < n ∧ I m s₃) (notedBy (model prog w) A env fun e s' => R (.error e) s') s₂) (notedBy (model prog w) A env fun e s' => R (.error e) s') s₁') (notedBy (model prog w) A env fun e s' => R (.error e) s') s₁) (notedBy (model prog w) A env fun e s' => R (.error e) s') s)
    (n : Nat) (h : I n s) :
    codeAny (model prog w) A (.compLoop (.SetComp elt [⟨t0, i0, ifs0, 0⟩, ⟨t1, i1, ifs1, 0⟩] scope pos) 0 it acc env) R s := by
  refine codeAny_loop rfl I (fun n s hI => ?_) n h
  show wpAny _ A ((compTurn (.SetComp elt [⟨t0, i0, ifs0, 0⟩, ⟨t1, i1, ifs1, 0⟩] scope pos) 0 it acc env).onRaise (fun x => do noteFrame x env; theTreesLotGoes x)) _ _ s
  refine wpAny_noted ?_
  rw [cs2_out]
  refine wpAny_bind (wpAny_standAt (wpAny_bind (wpAny_mono (turn n s hI) (fun r s₁ h₁ => ?_) fun _ _ h' => h')))
  cases r with
  | none => exact wpAny_pure h₁
  | some v =>
    refine wpAny_bind (wpAny_mono h₁ (fun _ s₁' h₁' => ?_) fun _ _ h' => h')
    refine wpAny_bind (wpAny_mono h₁' (fun _ s₂ h₂ => wpAny_bind (wpAny_mono h₂ (fun ok s₃ h₃ => ?_) fun _ _ h' => h')) fun _ _ h' => h')
    cases ok with
    | false => exact wpAny_pure ⟨rfl, h₃⟩
    | true =>
      refine wpAny_bind (wpAny_mono h₃ (fun x s₄ h₄ => ?_) fun _ _ h' => h')
      refine wpAny_bind (wpAny_standAt (wpAny_bind (wpAny_of_eq (hs x) (wpAny_bind (wpAny_holding (wpAny_mono h₄ (fun it1 s₅ h₅ => ?_) fun _ _ h' => h'))))))
      refine wpAny_bind (wpAny_runOwn ?_)
      rw [Around.mark_none]
      refine codeAny_mono h₅ fun r s' hr => ?_
      cases r with
      | ok f =>
        first
          | exact wpAny_pure ⟨rfl, hr⟩
          | exact wpAny_bind (wpAny_pure (wpAny_pure ⟨rfl, hr⟩))
      | error e => exact hr.elim
theorem loopS_in (I : Nat → Shared → Prop)
    (turn : ∀ n s, I n s → wpAny (model prog w) A (pyNext it) (fun r s₁ => match r with
      | none => R (.ok .next) s₁
      | some v => wpAny (model prog w) A (letOwnedTupleGo t1 it v) (fun _ s₁' => wpAny (model prog w) A (assign t1 env v) (fun _ s₂ =>
          wpAny (model prog w) A (forIn ifs1 true fun c r => if r = true then do let ok ← isTrue c env (eval c env); pure (ForInStep.yield ok) else pure (ForInStep.yield r)) (fun ok s₃ =>
            if ok = true then wpAny (model prog w) A (eval elt env) (fun x s₄ =>
              wpAny (model prog w) A (call (.builtin "set.add") [acc, x]) (fun _ s₅ => ∃ m, m < n ∧ I m s₅) (notedBy (model prog w) A env fun e s' => R (.error e) s') s₄) (notedBy (model prog w) A env fun e s' => R (.error e) s') s₃
            else ∃ m, m < n ∧ I m s₃) (notedBy (model prog w) A env fun e s' => R (.error e) s') s₂) (notedBy (model prog w) A env fun e s' => R (.error e) s') s₁') (notedBy (model prog w) A env fun e s' => R (.error e) s') s₁) (notedBy (model prog w) A env fun e s' => R (.error e) s') s)
    (n : Nat) (h : I n s) :
    codeAny (model prog w) A (.compLoop (.SetComp elt [⟨t0, i0, ifs0, 0⟩, ⟨t1, i1, ifs1, 0⟩] scope pos) 1 it acc env) R s := by
  refine codeAny_loop rfl I (fun n s hI => ?_) n h
  show wpAny _ A ((compTurn (.SetComp elt [⟨t0, i0, ifs0, 0⟩, ⟨t1, i1, ifs1, 0⟩] scope pos) 1 it acc env).onRaise (fun x => do noteFrame x env; theTreesLotGoes x)) _ _ s
  refine wpAny_noted ?_
  rw [cs2_in]
  refine wpAny_bind (wpAny_standAt (wpAny_bind (wpAny_mono (turn n s hI) (fun r s₁ h₁ => ?_) fun _ _ h' => h')))
  cases r with
  | none => exact wpAny_pure h₁
  | some v =>
    refine wpAny_bind (wpAny_mono h₁ (fun _ s₁' h₁' => ?_) fun _ _ h' => h')
    refine wpAny_bind (wpAny_mono h₁' (fun _ s₂ h₂ => wpAny_bind (wpAny_mono h₂ (fun ok s₃ h₃ => ?_) fun _ _ h' => h')) fun _ _ h' => h')
    cases ok with
    | false => exact wpAny_pure ⟨rfl, h₃⟩
    | true =>
      exact wpAny_bind (wpAny_bind (wpAny_mono h₃ (fun x s₄ h₄ => wpAny_bind (wpAny_standAt (wpAny_bind (wpAny_mono h₄ (fun _ s₅ h₅ => wpAny_pure (wpAny_pure ⟨rfl, h₅⟩)) fun _ _ h' => h')))) fun _ _ h' => h'))
theorem startS1_ok (h0 : codeAny (model prog w) A (.compLoop (.SetComp elt [⟨t0, i0, ifs0, 0⟩, ⟨t1, i1, ifs1, 0⟩] scope pos) 1 it acc env) R s)
    (h : wpAny (model prog w) A (pyIter it) (fun it' s' => codeAny (model prog w) A (.compLoop (.SetComp elt [⟨t0, i0, ifs0, 0⟩, ⟨t1, i1, ifs1, 0⟩] scope pos) 1 it' acc env) R s')
      (notedBy (model prog w) A env fun x s' => R (.error x) s') s) :
    codeAny (model prog w) A (.compStart (.SetComp elt [⟨t0, i0, ifs0, 0⟩, ⟨t1, i1, ifs1, 0⟩] scope pos) 1 it acc env) R s := by
  refine codeAny_of_tree ?_
  show wpAny _ _ ((compStart (.SetComp elt [⟨t0, i0, ifs0, 0⟩, ⟨t1, i1, ifs1, 0⟩] scope pos) 1 it acc env).onRaise (fun x => do noteFrame x env; standAt theWindowsPlace)) _ _ s
  refine wpAny_notedAt ?_
  unfold compStart
  show wpAny _ _ (ask >>= _) _ _ s
  refine wpAny_bind (wpAny_askSetting (wpAny_ite ?_))
  split
  · first
      | exact wpAny_bind (wpAny_pure (wpAny_pure (And.intro rfl h0)))
      | exact wpAny_pure (And.intro rfl h0)
  · first
      | exact wpAny_bind (wpAny_rule (wpAny_bind (wpAny_standAt (wpAny_bind (wpAny_mono h (fun it' s' h' => wpAny_pure (And.intro rfl h')) fun _ _ x => x)))))
      | (refine wpAny_bind (wpAny_rule ?_); show wpAny _ _ (standAt i1.pos >>= _) _ _ s; exact wpAny_bind (wpAny_standAt (wpAny_bind (wpAny_mono h (fun it' s' h' => wpAny_pure (And.intro rfl h')) fun _ _ x => x))))
end
section
variable {X : Cx}
theorem addI_ok {pins : List (Addr × Obj)} {σ : L2.St} {H : Hp} {s : Shared} {E : Value → Shared → Prop} {D : Addr} {S : Int → Bool} {n : Nat} {y : Int} {v : Value} {Q : Value → Shared → Prop} (I : Inv X pins σ H s) (hD : H D = some (SetO X.w D S n)) (room : n + 1 < scanBound) (hv : RelV (.int y) v)
    (h : ∀ s', Inv X pins σ (L2.upd H D (SetO X.w D (fun j => S j || decide (j = y)) (if S y = true then n else n + 1))) s' → Q .none s') : wpAny (model X.prog X.w) X.A (call (.builtin "set.add") [.ref D, v]) Q E s := by
  obtain ⟨tk, rfl⟩ := hv
  have R := setO_get I hD
  refine setR_add R room fun h' sb new => ?_
  have he : ∃ u, h'.get? D = some u := by
    have ⟨o, _, _, _, ho, _⟩ := new
    exact ⟨o, ho⟩
  exact h _ (I.write (e := D) (t' := s.toks + 1) (by rw [hD]; trivial) (.inl rfl) (fun b u hb hu => (sb.2 b hb).trans hu) he (setO_new new))
/-- the two clauses; D the new set -/
def tSc2 (w : World) (wi : TI) (g : TG) (tt : TT) (wi1 : TI) (g1 : TG) (tt1 : TT) (te : TE) (vs vs1 : List Nat) : TE := fun σ H Q => wi σ H fun J H1 => ∀ D, H1 D = none → ∃ W : Nat → Nat → Hp → Prop, (∃ m, W 0 m (L2.upd H1 D (SetO w D (fun _ => false) 0))) ∧ ∀ i m H, W i m H →
  (J.stop i H ∧ Q (.ref D) H) ∨ (J.go i H ∧ ∃ Nx : Hp → Prop, (∀ H', Nx H' → ∃ m', m' < m ∧ W (i + 1) m' H') ∧ ∀ x H', J.yld i H x H' → g x (L2.wipe σ vs) H' fun σ2 H2 => L2.wipe σ2 vs = L2.wipe σ vs ∧ tt σ2 H2 fun b H3 =>
    if b = true then wi1 σ2 H3 fun J1 H4 => ∃ W1 : Nat → Nat → Hp → Prop, (∃ m, W1 0 m H4) ∧ ∀ j k H, W1 j k H →
      (J1.stop j H ∧ Nx H) ∨ (J1.go j H ∧ ∃ Nx1 : Hp → Prop, (∀ H', Nx1 H' → ∃ k', k' < k ∧ W1 (j + 1) k' H') ∧ ∀ x H', J1.yld j H x H' → g1 x (L2.wipe σ2 vs1) H' fun σ3 H5 => L2.wipe σ3 vs1 = L2.wipe σ2 vs1 ∧ tt1 σ3 H5 fun b H6 =>
        if b = true then te σ3 H6 fun y H7 => ∃ (c : Int) (S : Int → Bool) (n : Nat), y = .int c ∧ H7 D = some (SetO w D S n) ∧ n + 1 < scanBound ∧ Nx1 (L2.upd H7 D (SetO w D (fun j => S j || decide (j = c)) (if S c = true then n else n + 1))) else Nx1 H6)
    else Nx H3)
theorem sc2_core {pins : List (Addr × Obj)} {s : Shared} {σ : L2.St} {H : Hp} {Q : VK} {elt tg iter tg1 iter1 : Expr} {ifs ifs1 : List Expr} {scope : Scope} {own : List (Str × Nat)} {vs1 : List Nat} {pos pos' : Pos} {wi wi1 : TI} {g g1 : TG} {tt tt1 : TT} {te : TE} {use : Option (Value → Sem Unit)} {Qf : Value → Shared → Prop}
    (hc : X.calm = true) (hN : X.N.Nodup) (I : Inv X pins σ H s) (hi : PI X tg iter wi) (ok : BlkOk X.N X.env.scope scope own) (hv : ∀ i ∈ vs1, i ∈ own.map (·.2))
    (hg : ∀ (s : Shared) (H : Hp) (C : Addr) (cl : List (Str × Addr)) (fp : List Addr), PG (X.blk s H scope (compEnvC scope cl C X.env) fp) tg g) (ht : ∀ (s : Shared) (H : Hp) (C : Addr) (cl : List (Str × Addr)) (fp : List Addr), PTs (X.blk s H scope (compEnvC scope cl C X.env) fp) ifs tt)
    (he : ∀ (s : Shared) (H : Hp) (C : Addr) (cl : List (Str × Addr)) (fp : List Addr), PE (X.blk s H scope (compEnvC scope cl C X.env) fp) elt te) (hs : ∀ x, foldedSetIterable iter X.env x = pure x)
    (hi1 : ∀ (s : Shared) (H : Hp) (C : Addr) (cl : List (Str × Addr)) (fp : List Addr), PI (X.blk s H scope (compEnvC scope cl C X.env) fp) tg1 iter1 wi1)
    (hg1 : ∀ (s : Shared) (H : Hp) (C : Addr) (cl : List (Str × Addr)) (fp : List Addr), PG (X.blk s H scope (compEnvC scope cl C X.env) fp) tg1 g1)
    (ht1 : ∀ (s : Shared) (H : Hp) (C : Addr) (cl : List (Str × Addr)) (fp : List Addr), PTs (X.blk s H scope (compEnvC scope cl C X.env) fp) ifs1 tt1)
    (hs1 : ∀ env x, foldedSetIterable iter1 env x = pure x)
    (h : tSc2 X.w wi g tt wi1 g1 tt1 te (own.map (·.2)) vs1 σ H Q)
    (hRR : ∀ D C s' m H', Inv X pins σ H' s' → Q (.ref D) H' → s'.heap.Ns C m → FpOk X pins H' C → compPost (model X.prog X.w) X.A X.xe use Qf (.ref D) C (.ok .next) s') :
    wpAny (model X.prog X.w) X.A (comprehension (.SetComp elt [⟨tg, iter, ifs, 0⟩, ⟨tg1, iter1, ifs1, 0⟩] scope pos) scope X.env pos' (newSet (.type "set")) false (eval iter X.env) use) Qf X.xe s := by
  have hfree : ∀ y ∈ scope.names, y.2 = .free → ∃ c, X.env.cells.lookup y.1 = some c := fun y hy e => by
    rcases ok.free y hy e with k | k
    · exact I.ok.has _ (.inl k)
    · exact I.ok.has _ (.inr k)
  refine wpAny_comprehension_free (use := use) rfl hs (closure_ok hfree) ok.kind (fun y hy e => by rw [ok.uniq y hy, e])
    (thn (hi.run pins s σ H _ I h) fun xv s1 hx => thn hx fun itv s2 h2 => ?_)
  obtain ⟨it, fp, tn, J, H2, e, I2, T, st2, f2, q⟩ := h2
  subst e
  refine newSet_ok (newEnv_comp ?_)
  generalize hD : s2.heap.objs.size = D
  have hDn : H2 D = none := I2.hok.fresh (Nat.le_of_eq hD)
  obtain ⟨W, ⟨m0, w0⟩, turn⟩ := q D hDn
  generalize hs3 : ({ s2 with heap := s2.heap.push { cls := .type "set", dict := none, data := .set #[] 0 (.fresh 0 0 (!X.w.params.followText "set-order")) } } : Shared) = s3
  have I3 : Inv X pins σ (L2.upd H2 D (SetO X.w D (fun _ => false) 0)) s3 := by
    rw [← hs3]
    refine I2.laid (t' := s2.toks) (fun b o e => Heap.get?_push_of_some _ e) (Nat.le_of_eq hD) ?_
    rw [← hD]
    exact setO_new (setR_fresh X.w)
  have h3 : s3.heap = s2.heap.push { cls := .type "set", dict := none, data := .set #[] 0 (.fresh 0 0 (!X.w.params.followText "set-order")) } := by rw [← hs3]
  have sz : ∀ b ∈ fp, b < s2.heap.objs.size := fun b hb => by
    obtain ⟨o, e, _⟩ := T.obj _ _ st2 b hb
    exact Heap.lt_size e
  have f3 : ∀ b ∈ fp, FpOk X pins (L2.upd H2 D (SetO X.w D (fun _ => false) 0)) b ∧ b < s3.heap.objs.size := fun b hb => by
    have hlt := sz b hb
    refine ⟨⟨?_, (f2 b hb).2⟩, by rw [h3, Heap.size_push]; exact Nat.lt_succ_of_lt hlt⟩
    rw [L2.upd_ne (by rw [← hD]; exact Nat.ne_of_lt hlt)]
    exact (f2 b hb).1
  have st3 : tn 0 s3.heap := T.keep _ _ _ st2 fun b _ o e => by rw [h3]; exact Heap.get?_push_of_some _ e
  have I4 := block_start I3 ok hN f3
  have pg := hg s3 (L2.upd H2 D (SetO X.w D (fun _ => false) 0)) s3.heap.objs.size (cellsFrom (s3.heap.objs.size + 1) scope.names (cloFrom X.env.cells scope.names [])) fp
  have pt := ht s3 (L2.upd H2 D (SetO X.w D (fun _ => false) 0)) s3.heap.objs.size (cellsFrom (s3.heap.objs.size + 1) scope.names (cloFrom X.env.cells scope.names [])) fp
  have pe := he s3 (L2.upd H2 D (SetO X.w D (fun _ => false) 0)) s3.heap.objs.size (cellsFrom (s3.heap.objs.size + 1) scope.names (cloFrom X.env.cells scope.names [])) fp
  have pi1 := hi1 s3 (L2.upd H2 D (SetO X.w D (fun _ => false) 0)) s3.heap.objs.size (cellsFrom (s3.heap.objs.size + 1) scope.names (cloFrom X.env.cells scope.names [])) fp
  have pg1 := hg1 s3 (L2.upd H2 D (SetO X.w D (fun _ => false) 0)) s3.heap.objs.size (cellsFrom (s3.heap.objs.size + 1) scope.names (cloFrom X.env.cells scope.names [])) fp
  have pt1 := ht1 s3 (L2.upd H2 D (SetO X.w D (fun _ => false) 0)) s3.heap.objs.size (cellsFrom (s3.heap.objs.size + 1) scope.names (cloFrom X.env.cells scope.names [])) fp
  show codeAny _ _ (.compStart (.SetComp elt [⟨tg, iter, ifs, 0⟩, ⟨tg1, iter1, ifs1, 0⟩] scope pos) 0 (.ref it) (.ref D) (compEnvC scope (cellsFrom (s3.heap.objs.size + 1) scope.names (cloFrom X.env.cells scope.names [])) s3.heap.objs.size X.env)) (compPost (model X.prog X.w) X.A X.xe use Qf (.ref D) s3.heap.objs.size) { s3 with heap := pushCells (s3.heap.push { cls := .type "dict", data := .dict #[] }) scope.names }
  have nfp : ∀ b ∈ fp, (L2.upd H2 D (SetO X.w D (fun _ => false) 0)) b = none := fun b hb => (f3 b hb).1.1
  generalize hce : compEnvC scope (cellsFrom (s3.heap.objs.size + 1) scope.names (cloFrom X.env.cells scope.names [])) s3.heap.objs.size X.env = ce at I4 pg pt pe pi1 pg1 pt1 ⊢
  have cL : ce.locals = s3.heap.objs.size := by subst hce; rfl
  generalize hH3 : L2.upd H2 D (SetO X.w D (fun _ => false) 0) = H3 at I3 I4 pg pt pe pi1 pg1 pt1 w0 nfp f3
  generalize hs4 : ({ s3 with heap := pushCells (s3.heap.push { cls := .type "dict", data := .dict #[] }) scope.names } : Shared) = s4 at I4 ⊢
  have st4 : tn 0 s4.heap := T.keep _ _ _ st3 fun b _ o e => by rw [← hs4]; exact pushCells_keeps _ _ _ _ (Heap.get?_push_of_some _ e)
  have stat : ∀ {σ' : L2.St} {H' : Hp} {s' : Shared}, Inv (X.blk s3 H3 scope ce fp) [] σ' H' s' → (∀ b ∈ fp, H' b = none) → ∀ b ∈ fp, FpOk (X.blk s3 H3 scope ce fp) [] H' b := fun {σ' H' s'} I' hn b hb =>
    ⟨hn b hb, (I'.ok.exf b hb).1, I'.ok.exfs b hb, .inl hb, fun x c e => (I'.ok.exf b hb).2 x c e, fun p hp => absurd (show p ∈ ([] : List (Addr × Obj)) ++ [] from hp) (by simp)⟩
  have loop : codeAny (model X.prog X.w) X.A (.compLoop (.SetComp elt [⟨tg, iter, ifs, 0⟩, ⟨tg1, iter1, ifs1, 0⟩] scope pos) 0 (.ref it) (.ref D) ce) (compPost (model X.prog X.w) X.A X.xe use Qf (.ref D) s3.heap.objs.size) s4 := by
    refine loopS_out (hs1 ce) (fun n s' => ∃ i H', Inv (X.blk s3 H3 scope ce fp) [] (L2.wipe σ (own.map (·.2))) H' s' ∧ tn i s'.heap ∧ (∀ b ∈ fp, H' b = none) ∧ W i n H') ?_ m0 ⟨0, H3, I4, st4, nfp, w0⟩
    rintro n s5 ⟨i, H5, I5, st5, n5, w5⟩
    rcases turn i n H5 w5 with ⟨stop, qq⟩ | ⟨go, Nx, hNx, step⟩
    · have td := T.done (X.blk s3 H3 scope ce fp) rfl rfl rfl hc i [] s5 _ H5 (fun _ _ => False) I5 (stat I5 n5) st5 stop
      refine thnF td fun r s6 ⟨hr, I6⟩ => ?_
      subst hr
      have I7 : Inv X pins σ H5 s6 := I3.call' (ch := fp) I6.os I6.base I6.hok I6.bare fun b hb => ⟨(f3 b hb).1.2.2.2.1, (f3 b hb).1.2.1, (f3 b hb).1.2.2.2.2.1, (f3 b hb).1.2.2.2.2.2⟩
      have nC : H5 s3.heap.objs.size = none := by
        have z : H5 ce.locals = none := I6.free
        rw [cL] at z
        exact z
      obtain ⟨m, hn, _⟩ := I6.loc
      have hn : s6.heap.Ns ce.locals m := hn
      rw [cL] at hn
      exact hRR D s3.heap.objs.size s6 m H5 I7 qq hn (I3.fpOk (Nat.le_refl _) nC)
    · have ti := T.item (X.blk s3 H3 scope ce fp) rfl rfl rfl hc i [] s5 _ H5 (fun _ _ => False) I5 (stat I5 n5) st5 go
      refine thnF ti fun r s6 ⟨u, hr, h6⟩ => ?_
      subst hr
      refine thnF h6 fun _ s7 ⟨x, H7, I7, r7, y7, st7, n7⟩ => ?_
      have I7' := I7.pinned (stat I7 n7) (T.obj _ _ st7)
      refine thnF (pg.run _ s7 _ H7 x u _ I7' r7 (step x H7 y7)) fun _ s8 ⟨σ8, H8, I8, hw8, q8⟩ => ?_
      refine thnF (pt.run _ s8 σ8 H8 _ I8 q8) fun b s9 ⟨H9, I9, q9⟩ => ?_
      have fin : ∀ {σ9 : L2.St} {s' : Shared} {H' : Hp}, Inv (X.blk s3 H3 scope ce fp) ([] ++ pinsAt fp s7.heap) σ9 H' s' → (L2.wipe σ (own.map (·.2))).length = σ9.length → (∀ (j : Nat) v, (L2.wipe σ (own.map (·.2)))[j]? = some (some v) → σ9[j]? = some (some v)) → Nx H' →
          ∃ m, m < n ∧ ∃ i H', Inv (X.blk s3 H3 scope ce fp) [] (L2.wipe σ (own.map (·.2))) H' s' ∧ tn i s'.heap ∧ (∀ b ∈ fp, H' b = none) ∧ W i m H' := fun {σ9 s' H'} I' hl hk nx => by
        obtain ⟨m', hm, w'⟩ := hNx H' nx
        have pin' : ∀ b ∈ fp, ∀ o, s7.heap.get? b = some o → s'.heap.get? b = some o ∧ H' b = none := fun b hb o e =>
          let z := I'.pin (b, o) (List.mem_append_right _ (List.mem_append_right _ (mem_pinsAt hb e)))
          ⟨z.1, z.2.1⟩
        refine ⟨m', hm, i + 1, H', (I'.unpinned (pins := [])).weak hl hk, T.keep _ _ _ st7 fun b hb o e => (pin' b hb o e).1, fun b hb => ?_, w'⟩
        obtain ⟨o, e, _⟩ := T.obj _ _ st7 b hb
        exact (pin' b hb o e).2
      have hl8 : (L2.wipe σ (own.map (·.2))).length = σ8.length := by rw [← hw8, wipe_length]
      have hk8 : ∀ (j : Nat) v, (L2.wipe σ (own.map (·.2)))[j]? = some (some v) → σ8[j]? = some (some v) := fun j v e => by
        rw [← hw8] at e
        exact (wipe_some e).1
      have hk9 : ∀ (j : Nat) v, (L2.wipe σ (own.map (·.2)))[j]? = some (some v) → (L2.wipe σ8 vs1)[j]? = some (some v) := fun j v e => by
        rw [← hw8] at e
        obtain ⟨e1, e2⟩ := wipe_some e
        rw [wipe_out fun z => e2 (hv j z)]
        exact e1
      cases b with
      | false =>
        simp only [Bool.false_eq_true, if_false] at q9 ⊢
        exact fin I9 hl8 hk8 q9
      | true =>
        simp only [if_true] at q9 ⊢
        refine thnF (pi1.run _ s9 σ8 H9 _ I9 q9) fun xv s10 hx => thnF hx fun itv s11 h11 => ?_
        obtain ⟨it1, fp1, tn1, J1, H11, e1, I11, T1, st11, f11, W1, ⟨m1, w1⟩, turn1⟩ := h11
        subst e1
        have stat1 : ∀ {H' : Hp}, (∀ b ∈ fp1, H' b = none) → ∀ b ∈ fp1, FpOk (X.blk s3 H3 scope ce fp) ([] ++ pinsAt fp s7.heap) H' b := fun hn b hb => ⟨hn b hb, (f11 b hb).2⟩
        have loop1 : codeAny (model X.prog X.w) X.A (.compLoop (.SetComp elt [⟨tg, iter, ifs, 0⟩, ⟨tg1, iter1, ifs1, 0⟩] scope pos) 1 (.ref it1) (.ref D) ce)
            (fun r s' => match r with
              | .ok _ => ∃ m, m < n ∧ ∃ i H', Inv (X.blk s3 H3 scope ce fp) [] (L2.wipe σ (own.map (·.2))) H' s' ∧ tn i s'.heap ∧ (∀ b ∈ fp, H' b = none) ∧ W i m H'
              | .error _ => False) s11 := by
          refine loopS_in (fun k s' => ∃ j H', Inv (X.blk s3 H3 scope ce fp) ([] ++ pinsAt fp s7.heap) (L2.wipe σ8 vs1) H' s' ∧ tn1 j s'.heap ∧ (∀ b ∈ fp1, H' b = none) ∧ W1 j k H') ?_ m1 ⟨0, H11, I11.weak (wipe_length _ _) (fun j v e => (wipe_some e).1), st11, fun b hb => (f11 b hb).1, w1⟩
          rintro k s12 ⟨j, H12, I12, st12, n12, w12⟩
          rcases turn1 j k H12 w12 with ⟨stop1, nx1⟩ | ⟨go1, Nx1, hNx1, step1⟩
          · refine thnF (T1.done (X.blk s3 H3 scope ce fp) rfl rfl rfl hc j _ s12 (L2.wipe σ8 vs1) H12 (fun _ _ => False) I12 (stat1 n12) st12 stop1) fun r s13 ⟨hr, I13⟩ => ?_
            subst hr
            exact fin I13 (hl8.trans (wipe_length σ8 vs1).symm) hk9 nx1
          · refine thnF (T1.item (X.blk s3 H3 scope ce fp) rfl rfl rfl hc j _ s12 (L2.wipe σ8 vs1) H12 (fun _ _ => False) I12 (stat1 n12) st12 go1) fun r s13 ⟨u1, hr, h13⟩ => ?_
            subst hr
            refine thnF h13 fun _ s14 ⟨x1, H14, I14, r14, y14, st14, n14⟩ => ?_
            have I14' := I14.pinned (stat1 n14) (T1.obj _ _ st14)
            refine thnF (pg1.run _ s14 (L2.wipe σ8 vs1) H14 x1 u1 _ I14' r14 (step1 x1 H14 y14)) fun _ s15 ⟨σ15, H15, I15, hw15, q15⟩ => ?_
            refine thnF (pt1.run _ s15 σ15 H15 _ I15 q15) fun b1 s16 ⟨H16, I16, q16⟩ => ?_
            have fin1 : ∀ {s' : Shared} {H' : Hp}, Inv (X.blk s3 H3 scope ce fp) (([] ++ pinsAt fp s7.heap) ++ pinsAt fp1 s14.heap) σ15 H' s' → Nx1 H' → ∃ m, m < k ∧ ∃ j H', Inv (X.blk s3 H3 scope ce fp) ([] ++ pinsAt fp s7.heap) (L2.wipe σ8 vs1) H' s' ∧ tn1 j s'.heap ∧ (∀ b ∈ fp1, H' b = none) ∧ W1 j m H' := fun {s' H'} I' nx => by
              obtain ⟨m', hm, w'⟩ := hNx1 H' nx
              have pin' : ∀ b ∈ fp1, ∀ o, s14.heap.get? b = some o → s'.heap.get? b = some o ∧ H' b = none := fun b hb o e =>
                let z := I'.pin (b, o) (List.mem_append_right _ (List.mem_append_right _ (mem_pinsAt hb e)))
                ⟨z.1, z.2.1⟩
              refine ⟨m', hm, j + 1, H', I'.unpinned.weak (by rw [← hw15, wipe_length]) (fun j v e => by rw [← hw15] at e; exact (wipe_some e).1), T1.keep _ _ _ st14 fun b hb o e => (pin' b hb o e).1, fun b hb => ?_, w'⟩
              obtain ⟨o, e, _⟩ := T1.obj _ _ st14 b hb
              exact (pin' b hb o e).2
            cases b1 with
            | false =>
              simp only [Bool.false_eq_true, if_false] at q16 ⊢
              exact fin1 I16 q16
            | true =>
              simp only [if_true] at q16 ⊢
              refine thnF (pe.run _ s16 σ15 H16 _ I16 q16) fun z s17 ⟨yv, H17, I17, r17, cb, S0, n0, ey, hD17, hz17, nx⟩ => ?_
              subst ey
              exact addI_ok (X := X.blk s3 H3 scope ce fp) I17 hD17 hz17 r17 fun s18 I18 => fin1 I18 nx
        exact startS1_ok loop1 (T1.self X.A 0 _ _ _ st11 loop1)
  exact codeAny_compStart_set loop (T.self X.A 0 _ _ _ st4 loop)
theorem pe_sc2 {elt tg iter tg1 iter1 : Expr} {ifs ifs1 : List Expr} {scope : Scope} {own : List (Str × Nat)} {vs1 : List Nat} {pos : Pos} {wi wi1 : TI} {g g1 : TG} {tt tt1 : TT} {te : TE} (hc : X.calm = true) (hN : X.N.Nodup) (hi : PI X tg iter wi) (ok : BlkOk X.N X.env.scope scope own) (hv : ∀ i ∈ vs1, i ∈ own.map (·.2))
    (hg : ∀ (s : Shared) (H : Hp) (C : Addr) (cl : List (Str × Addr)) (fp : List Addr), PG (X.blk s H scope (compEnvC scope cl C X.env) fp) tg g) (ht : ∀ (s : Shared) (H : Hp) (C : Addr) (cl : List (Str × Addr)) (fp : List Addr), PTs (X.blk s H scope (compEnvC scope cl C X.env) fp) ifs tt)
    (hi1 : ∀ (s : Shared) (H : Hp) (C : Addr) (cl : List (Str × Addr)) (fp : List Addr), PI (X.blk s H scope (compEnvC scope cl C X.env) fp) tg1 iter1 wi1)
    (hg1 : ∀ (s : Shared) (H : Hp) (C : Addr) (cl : List (Str × Addr)) (fp : List Addr), PG (X.blk s H scope (compEnvC scope cl C X.env) fp) tg1 g1) (ht1 : ∀ (s : Shared) (H : Hp) (C : Addr) (cl : List (Str × Addr)) (fp : List Addr), PTs (X.blk s H scope (compEnvC scope cl C X.env) fp) ifs1 tt1)
    (he : ∀ (s : Shared) (H : Hp) (C : Addr) (cl : List (Str × Addr)) (fp : List Addr), PE (X.blk s H scope (compEnvC scope cl C X.env) fp) elt te) (hs : ∀ x, foldedSetIterable iter X.env x = pure x) (hs1 : ∀ env x, foldedSetIterable iter1 env x = pure x) :
    PE X (.SetComp elt [⟨tg, iter, ifs, 0⟩, ⟨tg1, iter1, ifs1, 0⟩] scope pos) (tSc2 X.w wi g tt wi1 g1 tt1 te (own.map (·.2)) vs1) := by
  refine ⟨fun pins s σ H Q I h => ?_⟩
  rw [eval_SetComp]
  refine sc2_core hc hN I hi ok hv hg ht he hs hi1 hg1 ht1 hs1 h fun D C s' m H' I' q hn f => ⟨m, hn, fun h'' sb => ?_⟩
  obtain ⟨f0, f1, f2, f3, f4, f5⟩ := f
  exact ⟨.ref D, H', I'.turned (t' := s'.toks) (fun b o hb e => (sb.2 b hb).trans e) f0 f1 f3 f4 f5, rfl, q⟩
end
end DLS
/-! Soundness of the small language over the hand layer: what stands for what. -/
namespace DL
open PySem PySem.Spec PyProof.Rows L2
/-- a list that nobody writes -/
def FzL (K : PySem.W.Frag) (H : Hp) (a : Addr) (vs : List V) : Prop := (∃ o, H a = some (.frz o (.lst vs))) ∨
  ∃ (o : Obj) (its : Array Value) (n : Nat), K.lookup a = some o ∧ o.cls = .type "list" ∧ o.dict = none ∧ o.data = .seq its n ∧ its.size ≤ sizeLine ∧ Vals vs its.toList
theorem FzL.sq {K : PySem.W.Frag} {H : Hp} {a : Addr} {vs : List V} (h : FzL K H a vs) : SqL K H a vs := by
  rcases h with ⟨o, h⟩ | h
  · exact .inl (.inr ⟨o, h⟩)
  · exact .inr h
/-- the keys of dicts -/
def D.pk : D → Option L2.Key
  | .int i => some (.inl i)
  | .str x => some (.inr x)
  | _ => none
mutual
def D.nk : D → NestedKey
  | .int i => .num i
  | .tup xs => .tup (D.nks xs)
  | _ => .none
def D.nks : List D → List NestedKey
  | [] => []
  | x :: xs => x.nk :: D.nks xs
end
section
variable (K : PySem.W.Frag) (H : Hp)
mutual
/-- a value of the layer stands for a datum -/
def Rep : D → V → Prop
  | .non, v => v = .non
  | .bl b, v => v = .bl b
  | .int i, v => v = .int i
  | .str x, v => v = .str x
  | .tup ds, v => ∃ a vs, v = .ref a ∧ SqT K H a vs ∧ Reps ds vs
  | .ref a, v => v = .ref a
  | .rl ds, v => ∃ a vs, v = .ref a ∧ FzL K H a vs ∧ Reps ds vs
def Reps : List D → List V → Prop
  | [], vs => vs = []
  | d :: ds, vs => ∃ v r, vs = v :: r ∧ Rep d v ∧ Reps ds r
end
/-- what stands at an address -/
def OOk (a : Addr) : MO → Prop
  | .lst xs => ∃ vs, H a = some (.lst vs) ∧ Reps K H xs vs
  | .dct es => (∃ kvs : List (L2.Key × V), H a = some (.dK kvs) ∧ Paired (fun (p : D × D) (q : L2.Key × V) => p.1.pk = some q.1 ∧ Rep K H p.2 q.2) es kvs) ∨
      (es ≠ [] ∧ ∃ xs : List DLK.XE, H a = some (DLK.ND a xs) ∧ Paired (fun (p : D × D) (q : DLK.XE) => p.1.kt 8 = true ∧ p.1.nk = q.1 ∧ Rep K H p.1 (.ref q.2.1) ∧ ∃ v, RelV v q.2.2 ∧ Rep K H p.2 v) es xs)
  | .ins c fs => ∃ (Ca dx : Addr) (kvs : List (Str × V)), PySem.W.nsIn K mainGlobals (c : Str) = some (some (.ref Ca)) ∧ H a = some (.ins Ca dx kvs) ∧ Paired (fun (p : String × D) (q : Str × V) => (p.1 : Str) = q.1 ∧ Rep K H p.2 q.2) fs kvs
def MemOk (M : Mem) : Prop := ∀ a o, M a = some o → OOk K H a o
end
def Ext (env : Env) (H : Hp) (M : Mem) (H' : Hp) (M' : Mem) : Prop :=
  ∀ a o, H a = some o → M a = none → (∀ (i : Nat) q o', env[i]? = some (.own q o') → q ≠ a) → H' a = some o ∧ M' a = none
def BO (B : Hp) (H : Hp) (env : Env) (M : Mem) : Prop :=
  ∀ a o, B a = some o → H a = some o ∧ M a = none ∧ ∀ (i : Nat) q o', env[i]? = some (.own q o') → q ≠ a
def BR (B : Hp) (H : Hp) (M : Mem) : Prop := ∀ a o, B a = some o → H a = some o ∧ M a = none
/-- tuples stay -/
def Tm (K : PySem.W.Frag) (H H' : Hp) : Prop := ∀ a vs, (SqT K H a vs → SqT K H' a vs) ∧ (FzL K H a vs → FzL K H' a vs)
def Alc (H H' : Hp) : Prop := ∀ a o, H a = some o → H' a = some o
/-- a caught error: its class, its fields -/
def XF (K : PySem.W.Frag) (H : Hp) (cl : Nat) (d : Option Nat) (x : Xn) : Prop :=
  PySem.W.nsIn K mainGlobals (x.cls : Str) = some (some (.ref cl)) ∧ L2.ExcC K cl ∧ (d = none ∨ ∃ dx kvs, d = some dx ∧ H dx = some (.xd kvs)) ∧ ∀ f v, x.fs.lookup f = some v → PySem.W.findIn K (.ref cl) (f : Str) = some none ∧ ∃ dx kvs u, d = some dx ∧ H dx = some (.xd kvs) ∧ kvs.lookup (f : Str) = some u ∧ Rep K H v u
structure StE (K : PySem.W.Frag) (σ : L2.St) (H : Hp) (env : Env) (M : Mem) : Prop where
  len : env.length = σ.length
  vals : ∀ (i : Nat) d, env[i]? = some (.val d) → ∃ v, σ[i]? = some (some v) ∧ Rep K H d v
  owns : ∀ (i : Nat) p o, env[i]? = some (.own p o) → σ[i]? = some (some (.ref p)) ∧ OOk K H p o ∧ M p = none
  inj : ∀ (i j : Nat) p o o', env[i]? = some (.own p o) → env[j]? = some (.own p o') → i = j
  mem : MemOk K H M
  excs : ∀ (i : Nat) a cl d x, env[i]? = some (.exc a cl d x) → σ[i]? = some (some (.ref a)) ∧ XF K H cl d x
section
variable {K : PySem.W.Frag} {H H' H'' : Hp} {M M' M'' : Mem} {env : Env} {σ : L2.St}
mutual
theorem Rep.mono (t : Tm K H H') : ∀ {d : D} {v : V}, Rep K H d v → Rep K H' d v
  | .non, _, r => r
  | .bl _, _, r => r
  | .int _, _, r => r
  | .str _, _, r => r
  | .ref _, _, r => r
  | .tup ds, _, r => by
    obtain ⟨a, vs, e, h, q⟩ := r
    exact ⟨a, vs, e, (t a vs).1 h, Reps.mono t q⟩
  | .rl ds, _, r => by
    obtain ⟨a, vs, e, h, q⟩ := r
    exact ⟨a, vs, e, (t a vs).2 h, Reps.mono t q⟩
theorem Reps.mono (t : Tm K H H') : ∀ {ds : List D} {vs : List V}, Reps K H ds vs → Reps K H' ds vs
  | [], _, r => r
  | _ :: _, _, r => by
    obtain ⟨v, r', e, h, q⟩ := r
    exact ⟨v, r', e, Rep.mono t h, Reps.mono t q⟩
end
theorem Reps.length : ∀ {ds : List D} {vs : List V}, Reps K H ds vs → ds.length = vs.length
  | [], _, r => by cases r; rfl
  | _ :: _, _, r => by
    obtain ⟨v, r', rfl, _, q⟩ := r
    simp [Reps.length q]
theorem Reps.get : ∀ {ds : List D} {vs : List V} {i : Nat} {d : D}, Reps K H ds vs → ds[i]? = some d → ∃ v, vs[i]? = some v ∧ Rep K H d v
  | [], _, _, _, _, e => by simp at e
  | _ :: _, _, 0, _, r, e => by
    obtain ⟨v, r', rfl, h, _⟩ := r
    simp at e; subst e
    exact ⟨v, rfl, h⟩
  | _ :: _, _, i + 1, _, r, e => by
    obtain ⟨v, r', rfl, _, q⟩ := r
    obtain ⟨u, h1, h2⟩ := Reps.get (i := i) q (by simpa using e)
    exact ⟨u, by simpa using h1, h2⟩
theorem Reps.get' : ∀ {ds : List D} {vs : List V} {i : Nat} {v : V}, Reps K H ds vs → vs[i]? = some v → ∃ d, ds[i]? = some d ∧ Rep K H d v
  | [], _, _, _, r, e => by cases r; simp at e
  | d :: _, _, 0, _, r, e => by
    obtain ⟨v, r', rfl, h, _⟩ := r
    simp at e; subst e
    exact ⟨d, rfl, h⟩
  | _ :: _, _, i + 1, _, r, e => by
    obtain ⟨v, r', rfl, _, q⟩ := r
    obtain ⟨u, h1, h2⟩ := Reps.get' (i := i) q (by simpa using e)
    exact ⟨u, by simpa using h1, h2⟩
theorem Reps.set {d : D} {v : V} (h : Rep K H d v) : ∀ {ds : List D} {vs : List V} (i : Nat), Reps K H ds vs → Reps K H (ds.set i d) (vs.set i v)
  | [], _, _, r => by cases r; exact rfl
  | _ :: _, _, 0, r => by
    obtain ⟨u, r', rfl, _, q⟩ := r
    exact ⟨v, r', rfl, h, q⟩
  | _ :: _, _, i + 1, r => by
    obtain ⟨u, r', rfl, k, q⟩ := r
    exact ⟨u, r'.set i v, rfl, k, Reps.set h i q⟩
theorem Reps.append : ∀ {ds es : List D} {vs us : List V}, Reps K H ds vs → Reps K H es us → Reps K H (ds ++ es) (vs ++ us)
  | [], _, _, _, r, s => by cases r; exact s
  | _ :: _, _, _, _, r, s => by
    obtain ⟨v, r', rfl, h, q⟩ := r
    exact ⟨v, _, rfl, h, Reps.append q s⟩
theorem Reps.take : ∀ {ds : List D} {vs : List V} (n : Nat), Reps K H ds vs → Reps K H (ds.take n) (vs.take n)
  | _, _, 0, _ => rfl
  | [], _, _ + 1, r => by cases r; exact rfl
  | _ :: _, _, n + 1, r => by
    obtain ⟨v, r', rfl, h, q⟩ := r
    exact ⟨v, _, rfl, h, Reps.take n q⟩
theorem Reps.drop : ∀ {ds : List D} {vs : List V} (n : Nat), Reps K H ds vs → Reps K H (ds.drop n) (vs.drop n)
  | _, _, 0, r => r
  | [], _, _ + 1, r => by cases r; exact rfl
  | _ :: _, _, n + 1, r => by
    obtain ⟨v, r', rfl, h, q⟩ := r
    exact Reps.drop n q
theorem Reps.cut {ds : List D} {vs : List V} (lo hi : Option Int) (r : Reps K H ds vs) : Reps K H (cutD ds lo hi) (cutV vs lo hi) := by
  unfold cutD cutV
  rw [r.length]
  exact (r.drop _).take _
theorem Reps.dropLast {ds : List D} {vs : List V} (r : Reps K H ds vs) : Reps K H ds.dropLast vs.dropLast := by
  rw [List.dropLast_eq_take, List.dropLast_eq_take, r.length]
  exact r.take _
theorem Reps.reverse : ∀ {ds : List D} {vs : List V}, Reps K H ds vs → Reps K H ds.reverse vs.reverse
  | [], _, r => by cases r; exact rfl
  | _ :: _, _, r => by
    obtain ⟨v, r', rfl, h, q⟩ := r
    rw [List.reverse_cons, List.reverse_cons]
    exact Reps.append (Reps.reverse q) ⟨v, [], rfl, h, rfl⟩
theorem Reps.atI {ds : List D} {vs : List V} {i : Int} {d : D} (r : Reps K H ds vs) (h : atI ds i = some d) : ∃ v, L2.atI vs i = some v ∧ Rep K H d v := by
  unfold L2.atI at h ⊢
  rw [← r.length]
  cases e : ixN ds.length i with
  | none => rw [e] at h; simp at h
  | some j =>
    rw [e] at h
    exact r.get h
theorem upd_self {M : Mem} {p : Nat} {o : MO} : upd M p o p = some o := by unfold upd; rw [if_pos rfl]
theorem upd_other {M : Mem} {p q : Nat} {o : MO} (h : q ≠ p) : upd M p o q = M q := by unfold upd; rw [if_neg h]
theorem drp_self {M : Mem} {p : Nat} : drp M p p = none := by unfold drp; rw [if_pos rfl]
theorem drp_other {M : Mem} {p q : Nat} (h : q ≠ p) : drp M p q = M q := by unfold drp; rw [if_neg h]
theorem Alc.refl : Alc H H := fun _ _ h => h
theorem Alc.trans (a : Alc H H') (b : Alc H' H'') : Alc H H'' := fun x o h => b x o (a x o h)
theorem Alc.new {p : Addr} {o : HO} (h : H p = none) : Alc H (L2.upd H p o) := fun a u e => by
  rw [L2.upd_ne (ne_of_none e h)]; exact e
theorem tm_mk (h1 : ∀ a vs, H a = some (.tup vs) → H' a = some (.tup vs)) (h2 : ∀ a o vs, H a = some (.frz o (.tup vs)) → H' a = some (.frz o (.tup vs))) (h3 : ∀ a o vs, H a = some (.frz o (.lst vs)) → H' a = some (.frz o (.lst vs))) : Tm K H H' := fun a vs => by
  refine ⟨fun h => ?_, fun h => ?_⟩
  · rcases h with (h | ⟨o, h⟩) | h
    · exact .inl (.inl (h1 _ _ h))
    · exact .inl (.inr ⟨o, h2 _ _ _ h⟩)
    · exact .inr h
  · rcases h with ⟨o, h⟩ | h
    · exact .inl ⟨o, h3 _ _ _ h⟩
    · exact .inr h
theorem Alc.tm (a : Alc H H') : Tm K H H' := tm_mk (fun _ _ h => a _ _ h) (fun _ _ _ h => a _ _ h) (fun _ _ _ h => a _ _ h)
theorem Tm.refl : Tm K H H := fun _ _ => ⟨fun h => h, fun h => h⟩
theorem Tm.trans (a : Tm K H H') (b : Tm K H' H'') : Tm K H H'' := fun x vs => ⟨fun h => (b x vs).1 ((a x vs).1 h), fun h => (b x vs).2 ((a x vs).2 h)⟩
theorem OOk.step {a : Addr} {o : MO} (e : ∀ u, H a = some u → H' a = some u) (t : Tm K H H') (h : OOk K H a o) : OOk K H' a o := by
  cases o with
  | lst xs => obtain ⟨vs, h1, h2⟩ := h; exact ⟨vs, e _ h1, h2.mono t⟩
  | dct es =>
    rcases h with ⟨kvs, h1, h2⟩ | ⟨h0, xs, h1, h2⟩
    · exact .inl ⟨kvs, e _ h1, L2.Paired.mapP h2 fun p q z => ⟨z.1, z.2.mono t⟩⟩
    · exact .inr ⟨h0, xs, e _ h1, L2.Paired.mapP h2 fun p q ⟨z1, z2, z3, v, z4, z5⟩ => ⟨z1, z2, z3.mono t, v, z4, z5.mono t⟩⟩
  | ins c fs =>
    obtain ⟨Ca, dx, kvs, h0, h1, h2⟩ := h
    exact ⟨Ca, dx, kvs, h0, e _ h1, L2.Paired.mapP h2 fun p q z => ⟨z.1, z.2.mono t⟩⟩
/-- it is no tuple, and nothing locked -/
theorem OOk.notTup {a : Addr} {o : MO} (h : OOk K H a o) : (∀ vs, H a ≠ some (.tup vs)) ∧ (∀ ob u, H a ≠ some (.frz ob u)) ∧ H a ≠ none := by
  have go : ∀ u, H a = some u → (∀ vs, u ≠ .tup vs) → (∀ ob w, u ≠ .frz ob w) → (∀ vs, H a ≠ some (.tup vs)) ∧ (∀ ob w, H a ≠ some (.frz ob w)) ∧ H a ≠ none := fun u e h1 h2 => by
    rw [e]
    refine ⟨fun vs z => h1 vs ?_, fun ob w z => h2 ob w ?_, fun z => ?_⟩
    · exact Option.some.inj z
    · exact Option.some.inj z
    · cases z
  cases o with
  | lst xs =>
    obtain ⟨vs, h1, h2⟩ := h
    exact go _ h1 (fun _ z => by cases z) (fun _ _ z => by cases z)
  | dct es =>
    rcases h with ⟨kvs, h1, h2⟩ | ⟨h0, xs, h1, h2⟩
    · exact go _ h1 (fun _ z => by cases z) (fun _ _ z => by cases z)
    · exact go _ h1 (fun _ z => by unfold DLK.ND at z; cases z) (fun _ _ z => by unfold DLK.ND at z; cases z)
  | ins c fs =>
    obtain ⟨Ca, dx, kvs, h0, h1, h2⟩ := h
    exact go _ h1 (fun _ z => by cases z) (fun _ _ z => by cases z)
theorem OOk.notXd {a : Addr} {o : MO} (h : OOk K H a o) : ∀ kvs, H a ≠ some (.xd kvs) := fun kvs z => by
  cases o with
  | lst xs =>
    obtain ⟨vs, h1, h2⟩ := h
    rw [z] at h1; cases h1
  | dct es =>
    rcases h with ⟨kvs, h1, h2⟩ | ⟨h0, xs, h1, h2⟩
    · rw [z] at h1; cases h1
    · rw [z] at h1; unfold DLK.ND at h1; cases h1
  | ins c fs =>
    obtain ⟨Ca, dx, kvs', h0, h1, h2⟩ := h
    rw [z] at h1; cases h1
theorem XF.step {cl : Nat} {d : Option Nat} {x : Xn} (h : XF K H cl d x) (e : ∀ a kvs, H a = some (.xd kvs) → H' a = some (.xd kvs)) (t : Tm K H H') : XF K H' cl d x :=
  ⟨h.1, h.2.1, h.2.2.1.imp id fun ⟨dx, kvs, h1, h2⟩ => ⟨dx, kvs, h1, e _ _ h2⟩, fun f v hf => by obtain ⟨h0, dx, kvs, u, h1, h2, h3, h4⟩ := h.2.2.2 f v hf; exact ⟨h0, dx, kvs, u, h1, e _ _ h2, h3, h4.mono t⟩⟩
theorem XF.upd {cl : Nat} {d : Option Nat} {x : Xn} {p : Addr} {o : HO} (h : XF K H cl d x) (hp : ∀ kvs, H p ≠ some (.xd kvs)) (t : Tm K H (L2.upd H p o)) : XF K (L2.upd H p o) cl d x :=
  h.step (fun a kvs e => by rw [L2.upd_ne (fun z => by subst z; exact hp kvs e)]; exact e) t
theorem StE.excsStep (s : StE K σ H env M) (e : ∀ a kvs, H a = some (.xd kvs) → H' a = some (.xd kvs)) (t : Tm K H H') : ∀ (i : Nat) a cl d x, env[i]? = some (.exc a cl d x) → σ[i]? = some (some (.ref a)) ∧ XF K H' cl d x := fun i a cl d x h => by
  obtain ⟨h1, h2⟩ := s.excs i a cl d x h
  exact ⟨h1, h2.step e t⟩
theorem StE.excsUpd {p : Addr} {o : HO} (s : StE K σ H env M) (hp : ∀ kvs, H p ≠ some (.xd kvs)) (t : Tm K H (L2.upd H p o)) : ∀ (i : Nat) a cl d x, env[i]? = some (.exc a cl d x) → σ[i]? = some (some (.ref a)) ∧ XF K (L2.upd H p o) cl d x := fun i a cl d x h => by
  obtain ⟨h1, h2⟩ := s.excs i a cl d x h
  exact ⟨h1, h2.upd hp t⟩
theorem StE.excsExt0 (s : StE K σ H env M) (x : Ext [] H M H' M') (t : Tm K H H') : ∀ (i : Nat) a cl d y, env[i]? = some (.exc a cl d y) → σ[i]? = some (some (.ref a)) ∧ XF K H' cl d y :=
  s.excsStep (fun a kvs e => (x a _ e (by
    cases q : M a with
    | none => rfl
    | some o => exact absurd e ((s.mem a o q).notXd kvs)) (fun i q o' e' z => by simp at e')).1) t
theorem MemOk.alc (a : Alc H H') (h : MemOk K H M) : MemOk K H' M := fun p o e => (h p o e).step (fun u q => a _ _ q) a.tm
theorem StE.alc (a : Alc H H') (s : StE K σ H env M) : StE K σ H' env M where
  len := s.len
  vals := fun i d e => by obtain ⟨v, h1, h2⟩ := s.vals i d e; exact ⟨v, h1, h2.mono a.tm⟩
  owns := fun i p o e => by obtain ⟨h1, h2, h3⟩ := s.owns i p o e; exact ⟨h1, h2.step (fun u q => a _ _ q) a.tm, h3⟩
  inj := s.inj
  mem := s.mem.alc a
  excs := s.excsStep (fun _ _ e => a _ _ e) a.tm
theorem StE.fresh (s : StE K σ H env M) {p : Addr} (h : H p = none) : M p = none := by
  cases e : M p with
  | none => rfl
  | some o => exact absurd h (s.mem p o e).notTup.2.2
theorem MemOk.fresh (s : MemOk K H M) {p : Addr} (h : H p = none) : M p = none := by
  cases e : M p with
  | none => rfl
  | some o => exact absurd h (s p o e).notTup.2.2
theorem Ext.refl : Ext env H M H M := fun a o h n _ => ⟨h, n⟩
theorem Ext.trans (a : Ext env H M H' M') (b : Ext env H' M' H'' M'') : Ext env H M H'' M'' := fun x o h n k =>
  let ⟨h1, h2⟩ := a x o h n k
  b x o h1 h2 k
theorem Ext.alc (a : Alc H H') : Ext env H M H' M := fun x o h n _ => ⟨a _ _ h, n⟩
theorem Ext.tm (s : StE K σ H env M) (x : Ext env H M H' M') : Tm K H H' := by
  have go : ∀ a u, H a = some u → (∀ o, ¬ OOk K H a o) → H' a = some u := fun a u e n => (x a u e (by
    cases q : M a with
    | none => rfl
    | some o => exact absurd (s.mem a o q) (n o)) (fun i q o' e' z => by subst z; exact n o' (s.owns i q o' e').2.1)).1
  exact tm_mk (fun a vs h => go a _ h fun o q => q.notTup.1 vs h) (fun a o vs h => go a _ h fun o' q => q.notTup.2.1 o _ h) (fun a o vs h => go a _ h fun o' q => q.notTup.2.1 o _ h)
theorem Ext.tm0 (s : MemOk K H M) (x : Ext [] H M H' M') : Tm K H H' := by
  have go : ∀ a u, H a = some u → (∀ o, ¬ OOk K H a o) → H' a = some u := fun a u e n => (x a u e (by
    cases q : M a with
    | none => rfl
    | some o => exact absurd (s a o q) (n o)) (fun i q o' e' z => by simp at e')).1
  exact tm_mk (fun a vs h => go a _ h fun o q => q.notTup.1 vs h) (fun a o vs h => go a _ h fun o' q => q.notTup.2.1 o _ h) (fun a o vs h => go a _ h fun o' q => q.notTup.2.1 o _ h)
/-- a new list goes into the memory -/
theorem StE.put {p : Addr} {xs : List D} {vs : List V} (s : StE K σ H env M) (h : H p = some (.lst vs)) (r : Reps K H xs vs) (n : M p = none) (no : ∀ (i : Nat) q o', env[i]? = some (.own q o') → q ≠ p) : StE K σ H env (upd M p (.lst xs)) where
  len := s.len
  vals := s.vals
  owns := fun i q o e => by
    obtain ⟨h1, h2, h3⟩ := s.owns i q o e
    exact ⟨h1, h2, by rw [upd_other (no i q o e)]; exact h3⟩
  inj := s.inj
  mem := fun a o e => by
    by_cases hp : a = p
    · subst hp; rw [upd_self] at e; cases e; exact ⟨vs, h, r⟩
    · rw [upd_other hp] at e; exact s.mem a o e
  excs := s.excs
theorem upd_tm {p : Addr} {o : HO} (h : ∀ vs, H p ≠ some (.tup vs)) (h2 : ∀ ob u, H p ≠ some (.frz ob u)) : Tm K H (L2.upd H p o) :=
  tm_mk (fun a vs q => by rw [L2.upd_ne (fun z => by subst z; exact h vs q)]; exact q) (fun a ob vs q => by rw [L2.upd_ne (fun z => by subst z; exact h2 ob _ q)]; exact q) (fun a ob vs q => by rw [L2.upd_ne (fun z => by subst z; exact h2 ob _ q)]; exact q)
/-- a list of the memory is written -/
theorem StE.write {p : Addr} {o : MO} {vs vs' : List V} {xs' : List D} (s : StE K σ H env M) (h : H p = some (.lst vs)) (hm : M p = some o) (r : Reps K H xs' vs') :
    StE K σ (L2.upd H p (.lst vs')) env (upd M p (.lst xs')) := by
  have t : Tm K H (L2.upd H p (.lst vs')) := upd_tm (fun _ z => by rw [h] at z; cases z) fun _ _ z => by rw [h] at z; cases z
  refine ⟨s.len, fun i d e => ?_, fun i q o' e => ?_, s.inj, fun a u e => ?_, s.excsUpd (fun _ z => by rw [h] at z; cases z) t⟩
  · obtain ⟨v, h1, h2⟩ := s.vals i d e; exact ⟨v, h1, h2.mono t⟩
  · obtain ⟨h1, h2, h3⟩ := s.owns i q o' e
    have ne : q ≠ p := fun z => by subst z; rw [hm] at h3; cases h3
    exact ⟨h1, h2.step (fun u e => by rw [L2.upd_ne ne]; exact e) t, by rw [upd_other ne]; exact h3⟩
  · by_cases hp : a = p
    · subst hp; rw [upd_self] at e; cases e; exact ⟨vs', L2.upd_same, r.mono t⟩
    · rw [upd_other hp] at e; exact (s.mem a u e).step (fun u e => by rw [L2.upd_ne hp]; exact e) t
/-- an object goes into the memory, is written -/
theorem StE.putO {p : Addr} {o : MO} (s : StE K σ H env M) (h : OOk K H p o) (n : M p = none) (no : ∀ (i : Nat) q o', env[i]? = some (.own q o') → q ≠ p) : StE K σ H env (upd M p o) where
  len := s.len
  vals := s.vals
  owns := fun i q o e => by
    obtain ⟨h1, h2, h3⟩ := s.owns i q o e
    exact ⟨h1, h2, by rw [upd_other (no i q o e)]; exact h3⟩
  inj := s.inj
  mem := fun a o e => by
    by_cases hp : a = p
    · subst hp; rw [upd_self] at e; cases e; exact h
    · rw [upd_other hp] at e; exact s.mem a o e
  excs := s.excs
theorem StE.tmO {p : Addr} {o : MO} {ho : HO} (s : StE K σ H env M) (hm : M p = some o) : Tm K H (L2.upd H p ho) := upd_tm (s.mem p o hm).notTup.1 (s.mem p o hm).notTup.2.1
theorem StE.writeO {p : Addr} {o o' : MO} {ho : HO} (s : StE K σ H env M) (hm : M p = some o) (new : OOk K (L2.upd H p ho) p o') : StE K σ (L2.upd H p ho) env (upd M p o') := by
  have t : Tm K H (L2.upd H p ho) := s.tmO hm
  refine ⟨s.len, fun i d e => ?_, fun i q o' e => ?_, s.inj, fun a u e => ?_, s.excsUpd (s.mem p o hm).notXd t⟩
  · obtain ⟨v, h1, h2⟩ := s.vals i d e; exact ⟨v, h1, h2.mono t⟩
  · obtain ⟨h1, h2, h3⟩ := s.owns i q o' e
    have ne : q ≠ p := fun z => by subst z; rw [hm] at h3; cases h3
    exact ⟨h1, h2.step (fun u e => by rw [L2.upd_ne ne]; exact e) t, by rw [upd_other ne]; exact h3⟩
  · by_cases hp : a = p
    · subst hp; rw [upd_self] at e; cases e; exact new
    · rw [upd_other hp] at e; exact (s.mem a u e).step (fun u e => by rw [L2.upd_ne hp]; exact e) t
theorem Sub.trans (a : Sub M M') (b : Sub M' M'') : Sub M M'' := fun x o h => b x o (a x o h)
theorem Sub.none {p : Nat} (s : Sub M' M) (h : M p = none) : M' p = none := by
  cases e : M' p with
  | none => rfl
  | some o => rw [s p o e] at h; cases h
theorem StE.sub (b : Sub M' M) (s : StE K σ H env M) : StE K σ H env M' where
  len := s.len
  vals := s.vals
  owns := fun i p o e => by obtain ⟨h1, h2, h3⟩ := s.owns i p o e; exact ⟨h1, h2, b.none h3⟩
  inj := s.inj
  mem := fun a o e => s.mem a o (b a o e)
  excs := s.excs
theorem Sub.drp {p : Nat} : Sub (drp M p) M := fun a o e => by
  by_cases h : a = p
  · subst h; rw [drp_self] at e; cases e
  · rw [drp_other h] at e; exact e
end
/-! ### readings -/
abbrev RXT := Hp → Value → Option Addr → Xn → Prop
section
variable (K : PySem.W.Frag) (RX : RXT) (W : WX)
def postE (σ : L2.St) (H : Hp) (env : Env) (M : Mem) (Q : VK) : QE := fun d M' => ∀ v H', Ext env H M H' M' → StE K σ H' env M' → Rep K H' d v → Q v H'
def postX (σ : L2.St) (H : Hp) (env : Env) (M : Mem) : QX := fun x M' => ∀ c dd H', Ext env H M H' M' → StE K σ H' env M' → RX H' c dd x → W c dd σ H'
def liftE (t : Env → Mem → QE → QX → Prop) : TE := fun σ H Q => ∃ env M, StE K σ H env M ∧ t env M (postE K σ H env M Q) (postX K RX W σ H env M)
def liftT (t : Env → Mem → (Bool → Mem → Prop) → QX → Prop) : TT := fun σ H Q => ∃ env M, StE K σ H env M ∧
  t env M (fun b M' => ∀ H', Ext env H M H' M' → StE K σ H' env M' → Q b H') (postX K RX W σ H env M)
def liftA (t : Env → Mem → QL → QX → Prop) : TA := fun σ H Q => ∃ env M, StE K σ H env M ∧
  t env M (fun ds M' => ∀ vs H', Ext env H M H' M' → StE K σ H' env M' → Reps K H' ds vs → Q vs H') (postX K RX W σ H env M)
/-- a list that may be read -/
def liftL (t : Env → Mem → QL → QX → Prop) : TE := fun σ H Q => ∃ env M, StE K σ H env M ∧
  t env M (fun xs M' => ∀ p vs H', Ext env H M H' M' → StE K σ H' env M' → SqL K H' p vs → Reps K H' xs vs → Q (.ref p) H') (postX K RX W σ H env M)
/-- a new list: of its own -/
def liftN (t : Env → Mem → QL → QX → Prop) : TE := fun σ H Q => ∃ env M, StE K σ H env M ∧
  t env M (fun xs M' => ∀ p vs H', Ext env H M H' M' → StE K σ H' env M' → H' p = some (.lst vs) → Reps K H' xs vs → M' p = none → (M p = none → H p = none) → (∀ (i : Nat) q o', env[i]? = some (.own q o') → q ≠ p) → Q (.ref p) H') (postX K RX W σ H env M)
end
end DL
/-! Soundness: expressions. -/
namespace DL
open PySem PySem.Spec PyProof.Rows L2
section
variable {X : Cx} {RX : RXT} {W : WX} {F : FS}
theorem PE.imp {e : Expr} {t t' : TE} (h : PE X e t) (w : ∀ σ H Q, t' σ H Q → t σ H Q) : PE X e t' := ⟨fun pins s σ H Q I q => h.run pins s σ H Q I (w σ H Q q)⟩
theorem PT.imp {e : Expr} {t t' : TT} (h : PT X e t) (w : ∀ σ H Q, t' σ H Q → t σ H Q) : PT X e t' := ⟨fun pins s σ H Q I q => h.run pins s σ H Q I (w σ H Q q)⟩
theorem PS.imp {e : Stmt} {t t' : TS} (h : PS X e t) (w : ∀ D σ H, t' D σ H → t D σ H) : PS X e t' := ⟨fun pins s σ H D I q => h.run pins s σ H D I (w D σ H q)⟩
theorem PSs.imp {e : List Stmt} {t t' : TS} (h : PSs X e t) (w : ∀ D σ H, t' D σ H → t D σ H) : PSs X e t' := ⟨fun pins s σ H D I q => h.run pins s σ H D I (w D σ H q)⟩
theorem PA.imp {e : List Expr} {t t' : TA} (h : PA X e t) (w : ∀ σ H Q, t' σ H Q → t σ H Q) : PA X e t' := ⟨fun pos pins s σ H Q I q => h.run pos pins s σ H Q I (w σ H Q q)⟩
theorem PI.imp {tg e : Expr} {t t' : TI} (h : PI X tg e t) (w : ∀ σ H Q, t' σ H Q → t σ H Q) : PI X tg e t' := ⟨fun pins s σ H Q I q => h.run pins s σ H Q I (w σ H Q q)⟩
theorem PO.imp {e : Option Expr} {t t' : TO} (h : PO X e t) (w : ∀ σ H Q, t' σ H Q → t σ H Q) : PO X e t' := ⟨fun pins s σ H Q I q => h.run pins s σ H Q I (w σ H Q q)⟩
variable {K : PySem.W.Frag} {σ : L2.St} {H H1 H2 : Hp} {env : Env} {M M1 M2 : Mem} {Q : VK}
/-- further on -/
theorem postE.go (x : Ext env H M H1 M1) {d : D} {M' : Mem} (h : postE K σ H env M Q d M') : postE K σ H1 env M1 Q d M' := fun v H' x' s' r => h v H' (x.trans x') s' r
theorem postX.go (x : Ext env H M H1 M1) {y : Xn} {M' : Mem} (h : postX K RX W σ H env M y M') : postX K RX W σ H1 env M1 y M' := fun v d H' x' s' r => h v d H' (x.trans x') s' r
theorem postE.at (s : StE K σ H env M) {d : D} {v : V} (r : Rep K H d v) (h : postE K σ H env M Q d M) : Q v H := h v H Ext.refl s r
theorem postE.alc (s : StE K σ H env M) {d : D} {v : V} {H' : Hp} (a : Alc H H') (r : Rep K H' d v) (h : postE K σ H env M Q d M) : Q v H' := h v H' (Ext.alc a) (s.alc a) r
/-! ### names and constants -/
theorem je_var {i : Nat} {x : Str} {pos : Pos} (hN : X.N[i]? = some x) (hv : Vis X.env.scope x) (hd : (x == ("__debug__" : Str)) = false) (hcd : (x == ("__classdict__" : Str)) = false) :
    PE X (.Name x pos) (liftE X.K RX W (wE F (.var i))) :=
  PE.imp (pe_var (i := i) hN hv hd hcd) fun σ H Q ⟨env, M, s, d, e, q⟩ => by
    obtain ⟨v, h1, h2⟩ := s.vals i d e
    exact ⟨v, h1, q.at s h2⟩
theorem je_int {i j pos} : PE X (.Constant (.int i) j pos) (liftE X.K RX W (wE F (.cst (.int i)))) := PE.imp pe_int fun σ H Q ⟨env, M, s, q⟩ => postE.at s (d := .int i) rfl q
theorem je_bl {b j pos} : PE X (.Constant (.bool b) j pos) (liftE X.K RX W (wE F (.cst (.bl b)))) := PE.imp pe_bl fun σ H Q ⟨env, M, s, q⟩ => postE.at s (d := .bl b) rfl q
theorem je_non {j pos} : PE X (.Constant .none j pos) (liftE X.K RX W (wE F (.cst .non))) := PE.imp pe_non fun σ H Q ⟨env, M, s, q⟩ => postE.at s (d := .non) rfl q
theorem je_str {x j pos} : PE X (.Constant (.str x) j pos) (liftE X.K RX W (wE F (.cst (.str x)))) := PE.imp pe_str fun σ H Q ⟨env, M, s, q⟩ => postE.at s (d := .str x) rfl q
theorem je_glb {x : Str} {y : String} {d : D} {v : V} {u : Value} {pos : Pos} (hg : Gl X x) (hm : X.mg x = some u) (r : RelV v u) (hr : ∀ H, Rep X.K H d v) (hd : (x == ("__debug__" : Str)) = false) :
    PE X (.Name x pos) (liftE X.K RX W (wE F (.glb y d))) := PE.imp (pe_glob hg hm r hd) fun σ H Q ⟨env, M, s, q⟩ => postE.at s (hr H) q
/-! ### operators -/
def BOp.py : BOp → Operator
  | .add => .Add | .sub => .Sub | .mul => .Mult | .fdiv => .FloorDiv | .mod => .Mod | .pow => .Pow | .shl => .LShift | .shr => .RShift | .band => .BitAnd | .bor => .BitOr | .bxor => .BitXor
def rBin (K : PySem.W.Frag) (o : BOp) : R2 := fun x y H Q => ∃ dx dy, Rep K H dx x ∧ Rep K H dy y ∧ wBin o dx dy fun z => ∀ v H', Alc H H' → Rep K H' z v → Q v H'
theorem reps_ne {xs : List D} {vs : List V} (h : Reps K H xs vs) : vs = [] ↔ xs = [] := by
  have := h.length
  constructor
  · rintro rfl; exact List.eq_nil_of_length_eq_zero (by simpa using this)
  · rintro rfl; exact h
theorem reps_flat {xs : List D} {vs : List V} (h : Reps K H xs vs) : ∀ {k : Nat}, Reps K H (List.replicate k xs).flatten (List.replicate k vs).flatten
  | 0 => rfl
  | k + 1 => by
    rw [List.replicate_succ, List.replicate_succ, List.flatten_cons, List.flatten_cons]
    exact Reps.append h (reps_flat h)
theorem op_bin (o : BOp) : OpR X (binaryOp o.py) (rBin X.K o) := by
  intro pins s σ H x y v u Q I rx ry h
  obtain ⟨dx, dy, hx, hy, w⟩ := h
  unfold wBin at w
  split at w
  · cases hx; cases hy; exact op_add pins s σ H _ _ _ _ _ I rx ry ⟨_, _, rfl, rfl, w _ _ Alc.refl rfl⟩
  · cases hx; cases hy; exact op_add_str pins s σ H _ _ _ _ _ I rx ry ⟨_, _, rfl, rfl, w.1, w.2 _ _ Alc.refl rfl⟩
  · rename_i Q' xs ys
    obtain ⟨a, vs, rfl, hs, hr⟩ := hx
    obtain ⟨b, us, rfl, hs2, hr2⟩ := hy
    refine op_catA pins s σ H _ _ _ _ _ I rx ry ⟨a, b, vs, us, rfl, rfl, hs, hs2, by rw [← hr.length, ← hr2.length]; exact w.1, fun e => ?_, fun e e2 => ?_, fun e e2 p hp => ?_⟩
    · subst e
      refine w.2 _ _ Alc.refl ⟨b, us, rfl, hs2, ?_⟩
      have : xs = [] := (reps_ne hr).mp rfl
      subst this; exact hr2
    · subst e2
      refine w.2 _ _ Alc.refl ⟨a, vs, rfl, hs, ?_⟩
      have : ys = [] := (reps_ne hr2).mp rfl
      subst this; rw [List.append_nil]; exact hr
    · refine w.2 _ _ (Alc.new hp) ⟨p, vs ++ us, rfl, SqT.of L2.upd_same, ?_⟩
      exact Reps.append (hr.mono (Alc.new hp).tm) (hr2.mono (Alc.new hp).tm)
  · cases hx; cases hy; exact op_sub pins s σ H _ _ _ _ _ I rx ry ⟨_, _, rfl, rfl, w _ _ Alc.refl rfl⟩
  · cases hx; cases hy; exact op_mul pins s σ H _ _ _ _ _ I rx ry ⟨_, _, rfl, rfl, w.1, w.2 _ _ Alc.refl rfl⟩
  · rename_i Q' xs k
    obtain ⟨a, vs, rfl, hs, hr⟩ := hx
    cases hy
    refine op_repT pins s σ H _ _ _ _ _ I rx ry ⟨a, k, vs, rfl, rfl, hs, fun e => w.1.1 ((reps_ne hr).mp e), w.1.2.1, w.1.2.2.1, by rw [← hr.length]; exact w.1.2.2.2, fun p hp => ?_⟩
    exact w.2 _ _ (Alc.new hp) ⟨p, _, rfl, SqT.of L2.upd_same, reps_flat (hr.mono (Alc.new hp).tm)⟩
  · cases hx; cases hy; exact op_fdivW pins s σ H _ _ _ _ _ I rx ry ⟨_, _, rfl, rfl, w.1, w.2 _ _ Alc.refl rfl⟩
  · cases hx; cases hy; exact op_mod pins s σ H _ _ _ _ _ I rx ry ⟨_, _, rfl, rfl, w.1, w.2 _ _ Alc.refl rfl⟩
  · cases hx; cases hy; exact op_pow pins s σ H _ _ _ _ _ I rx ry ⟨_, _, rfl, rfl, w.1, w.2 _ _ Alc.refl rfl⟩
  · cases hx; cases hy; exact op_shl pins s σ H _ _ _ _ _ I rx ry ⟨_, _, rfl, rfl, w.1, w.2 _ _ Alc.refl rfl⟩
  · cases hx; cases hy; exact op_shr pins s σ H _ _ _ _ _ I rx ry ⟨_, _, rfl, rfl, w.1, w.2 _ _ Alc.refl rfl⟩
  · cases hx; cases hy; exact op_and pins s σ H _ _ _ _ _ I rx ry ⟨_, _, rfl, rfl, w _ _ Alc.refl rfl⟩
  · cases hx; cases hy; exact op_or pins s σ H _ _ _ _ _ I rx ry ⟨_, _, rfl, rfl, w _ _ Alc.refl rfl⟩
  · cases hx; cases hy; exact op_xor pins s σ H _ _ _ _ _ I rx ry ⟨_, _, rfl, rfl, w _ _ Alc.refl rfl⟩
  · exact w.elim
/-- two in a row, then what is by values -/
theorem lift2 (hF : FMono F) {a b : IE} {w : D → D → Mem → (D → Prop) → Prop} {r : R2} {σ : L2.St} {H : Hp} {Q : VK}
    (hr : ∀ {env H1 M1 dx dy x y}, StE K σ H1 env M1 → Rep K H1 dx x → Rep K H1 dy y → (w dx dy M1 fun z => postE K σ H1 env M1 Q z M1) → r x y H1 Q)
    (h : liftE K RX W (fun env M Q E => wE F a env M (fun x M1 => wE F b env M1 (fun y M2 => w x y M2 fun z => Q z M2) E) E) σ H Q)
    (hw : ∀ x y M (Q Q' : D → Prop), (∀ z, Q z → Q' z) → w x y M Q → w x y M Q') :
    tOp r (liftE K RX W (wE F a)) (liftE K RX W (wE F b)) σ H Q := by
  obtain ⟨env, M, s, h⟩ := h
  refine ⟨env, M, s, wE_mono hF a (fun dx M1 q x H1 x1 s1 r1 => ?_) (fun _ _ q => q) h⟩
  refine ⟨env, M1, s1, wE_mono hF b (fun dy M2 q y H2 x2 s2 r2 => ?_) (fun _ _ q => q.go x1) q⟩
  refine hr s2 (r1.mono (x2.tm s1)) r2 (hw _ _ _ _ _ (fun z q => (q.go (x1.trans x2))) q)
theorem je_bin (hF : FMono F) {o : BOp} {a b : Expr} {ia ib : IE} {pos : Pos} (ha : PE X a (liftE X.K RX W (wE F ia))) (hb : PE X b (liftE X.K RX W (wE F ib))) :
    PE X (.BinOp a o.py b pos) (liftE X.K RX W (wE F (.bin o ia ib))) :=
  PE.imp (pe_op (op_bin o) ha hb) fun σ H Q h => lift2 hF (w := fun x y _ Q => wBin o x y Q)
    (fun s rx ry w => ⟨_, _, rx, ry, wBin_mono (fun z q v H' a r => q.alc s a r) w⟩) h fun _ _ _ _ _ h w => wBin_mono h w
theorem je_neg (hF : FMono F) {a : Expr} {ia : IE} {pos : Pos} (ha : PE X a (liftE X.K RX W (wE F ia))) : PE X (.UnaryOp .USub a pos) (liftE X.K RX W (wE F (.neg ia))) :=
  PE.imp (pe_un un_neg ha) fun σ H Q ⟨env, M, s, h⟩ => ⟨env, M, s, wE_mono hF ia (fun dx M1 q x H1 x1 s1 r1 => by
    obtain ⟨i, rfl, q⟩ := q
    cases r1
    exact ⟨i, rfl, (q.go x1).at s1 (d := .int (-i)) rfl⟩) (fun _ _ q => q) h⟩
/-! ### comparisons -/
mutual
theorem dp_of {H : Hp} : ∀ {n : Nat} {d : D} {x : V}, D.flat n d = true → Rep K H d x → Dp K H x d.py
  | n, .non, _, _, r => by cases r; exact .non
  | n, .bl b, _, _, r => by cases r; exact .bl b
  | n, .int i, _, _, r => by cases r; exact .int i
  | n, .str z, _, _, r => by cases r; exact .str z
  | 0, .tup _, _, f, _ => by simp [D.flat] at f
  | n + 1, .tup xs, _, f, r => by
    obtain ⟨a, vs, rfl, h, q⟩ := r
    exact .tup h (dps_of (n := n) (by simpa [D.flat] using f) q)
  | n, .ref a, _, f, _ => by cases n <;> simp [D.flat] at f
  | n, .rl a, _, f, _ => by cases n <;> simp [D.flat] at f
theorem dps_of {H : Hp} : ∀ {n : Nat} {ds : List D} {xs : List V}, D.flats n ds = true → Reps K H ds xs → DpAll K H xs (D.pys ds)
  | n, [], _, _, r => by cases r; exact .nil
  | n, d :: ds, _, f, r => by
    obtain ⟨v, vs, rfl, h, q⟩ := r
    have f' : D.flat n d = true ∧ D.flats n ds = true := by simpa [D.flats] using f
    exact .cons (dp_of f'.1 h) (dps_of f'.2 q)
end
mutual
theorem lay_of : ∀ {n : Nat} {d : D}, D.flat n d = true → d.py.canLay0 = true ∧ d.py.depth ≤ n
  | n, .non, _ => ⟨rfl, Nat.zero_le _⟩
  | n, .bl b, _ => ⟨rfl, Nat.zero_le _⟩
  | n, .int i, _ => ⟨rfl, Nat.zero_le _⟩
  | n, .str z, f => ⟨by simpa [D.py, PyData.canLay0] using (by cases n <;> simpa [D.flat] using f), Nat.zero_le _⟩
  | 0, .tup _, f => by simp [D.flat] at f
  | n + 1, .tup xs, f => by
    have q := lays_of (n := n) (ds := xs) (by simpa [D.flat] using f)
    refine ⟨by simpa [D.py, PyData.canLay0] using q.1, ?_⟩
    have := q.2
    simp only [D.py, PyData.depth]; omega
  | n, .ref a, f => by cases n <;> simp [D.flat] at f
  | n, .rl a, f => by cases n <;> simp [D.flat] at f
theorem lays_of : ∀ {n : Nat} {ds : List D}, D.flats n ds = true → PyData.canLayAll0 (D.pys ds) = true ∧ PyData.depthAll (D.pys ds) ≤ n
  | n, [], _ => ⟨rfl, Nat.zero_le _⟩
  | n, d :: ds, f => by
    have f' : D.flat n d = true ∧ D.flats n ds = true := by simpa [D.flats] using f
    have h1 := lay_of f'.1
    have h2 := lays_of f'.2
    refine ⟨by simp [D.pys, PyData.canLayAll0, h1.1, h2.1], ?_⟩
    simp only [D.pys, PyData.depthAll]
    omega
end
theorem shaped_of {d : D} (f : D.flat 60 d = true) : SeqAt.shaped d.py = true := by
  have h := lay_of f
  unfold SeqAt.shaped
  rw [h.1, decide_eq_true (Nat.le_trans h.2 (by decide))]; rfl
theorem shapedL {ds : List D} (f : D.flats 58 ds = true) : SeqAt.shaped (.list (D.pys ds)) = true := by
  have h := lays_of f
  unfold SeqAt.shaped
  have h1 : (PyData.list (D.pys ds)).canLay0 = true := by simpa [PyData.canLay0] using h.1
  have h2 : (PyData.list (D.pys ds)).depth ≤ 59 := by
    have := h.2
    simp only [PyData.depth]; omega
  rw [h1, decide_eq_true (Nat.le_trans h2 (by decide))]; rfl
mutual
theorem eqv_py : ∀ {n m : Nat} {x y : D}, D.flat n x = true → D.flat m y = true → PyData.eqv x.py y.py = D.eqv x y
  | n, m, .non, y, f, g => by cases y <;> first | rfl | (cases m <;> simp [D.flat] at g)
  | n, m, .bl b, y, f, g => by cases y <;> first | rfl | (cases m <;> simp [D.flat] at g)
  | n, m, .int i, y, f, g => by
    cases y <;> first | rfl | (cases m <;> simp [D.flat] at g)
  | n, m, .str z, y, f, g => by cases y <;> first | rfl | (cases m <;> simp [D.flat] at g)
  | n, m, .ref a, y, f, g => by cases n <;> simp [D.flat] at f
  | n, m, .rl a, y, f, g => by cases n <;> simp [D.flat] at f
  | 0, m, .tup xs, y, f, g => by simp [D.flat] at f
  | n + 1, 0, .tup xs, .tup ys, f, g => by simp [D.flat] at g
  | n + 1, m + 1, .tup xs, .tup ys, f, g => by
    simp only [D.py, PyData.eqv, D.eqv]
    exact eqvs_py (n := n) (m := m) (by simpa [D.flat] using f) (by simpa [D.flat] using g)
  | n + 1, m, .tup xs, .ref a, f, g => by cases m <;> simp [D.flat] at g
  | n + 1, m, .tup xs, .rl a, f, g => by cases m <;> simp [D.flat] at g
  | n + 1, m, .tup xs, .non, f, g => rfl
  | n + 1, m, .tup xs, .bl _, f, g => rfl
  | n + 1, m, .tup xs, .int _, f, g => rfl
  | n + 1, m, .tup xs, .str _, f, g => rfl
theorem eqvs_py : ∀ {n m : Nat} {xs ys : List D}, D.flats n xs = true → D.flats m ys = true → PyData.eqvAll (D.pys xs) (D.pys ys) = D.eqvs xs ys
  | n, m, [], [], _, _ => rfl
  | n, m, [], _ :: _, _, _ => rfl
  | n, m, _ :: _, [], _, _ => rfl
  | n, m, x :: xs, y :: ys, f, g => by
    have f' : D.flat n x = true ∧ D.flats n xs = true := by simpa [D.flats] using f
    have g' : D.flat m y = true ∧ D.flats m ys = true := by simpa [D.flats] using g
    simp only [D.pys, PyData.eqvAll, D.eqvs]
    rw [eqv_py f'.1 g'.1, eqvs_py f'.2 g'.2]
end
def COp.py : COp → CmpOp
  | .eq => .Eq | .ne => .NotEq | .lt => .Lt | .le => .LtE | .gt => .Gt | .ge => .GtE | .isN => .Is | .notN => .IsNot | .inn => .In | .notin => .NotIn
def rCmp (K : PySem.W.Frag) (o : COp) : R2 := fun x y H Q => ∃ dx dy M, MemOk K H M ∧ Rep K H dx x ∧ Rep K H dy y ∧ wCmp o dx dy M fun k => Q (.bl k) H
theorem isNon {d : D} {x : V} (r : Rep K H d x) : decide (x = .non) = (match d with | .non => true | _ => false) := by
  cases d with
  | tup ds => obtain ⟨a, vs, rfl, _⟩ := r; rfl
  | rl ds => obtain ⟨a, vs, rfl, _⟩ := r; rfl
  | _ => cases r; rfl
theorem any_py {d : D} (f : D.flat 60 d = true) : ∀ {ds : List D}, D.flats 60 ds = true → ((D.pys ds).any fun z => PyData.eqv z d.py) = ds.any fun z => D.eqv z d
  | [], _ => rfl
  | x :: xs, g => by
    have g' : D.flat 60 x = true ∧ D.flats 60 xs = true := by simpa [D.flats] using g
    simp only [D.pys, List.any_cons]
    rw [eqv_py g'.1 f, any_py f g'.2]
theorem room_ins {d : PyData} {e : List PyData} (h : d.depth ≤ 60) (hu : X.A.units + 100 < cLine) : X.A.units + 1 + min (PyData.depthAll e) d.depth < cLine := by
  have : min (PyData.depthAll e) d.depth ≤ d.depth := Nat.min_le_right _ _
  omega
section
variable {pins : List (Addr × Obj)} {s : Shared} {x y : V} {u v : Value} {d : D} {ds : List D} {R : Value → Shared → Prop}
theorem in_tup (hu : X.A.units + 100 < cLine) (I : L2.Inv X pins σ H s) (rx : L2.RelV x v) (ry : L2.RelV y u) (hx : Rep X.K H d x) (hy : Rep X.K H (.tup ds) y) (f : D.flat 60 d = true) (g : D.flats 60 ds = true)
    (q : R (.bool (ds.any fun z => D.eqv z d)) s) : wpAny (model X.prog X.w) X.A (compareOp .In v u) R X.xe s := by
  obtain ⟨as, r1⟩ := Dp.reads I d.py x v (dp_of f hx) rx
  obtain ⟨bs, r2⟩ := Dp.reads I (.tuple (D.pys ds)) y u (dp_of (n := 61) (d := .tup ds) (by simpa [D.flat] using g) hy) ry
  exact SeqAt.in_tuple_reads r2 r1 (lays_of g).1 (lay_of f).1 (room_ins (lay_of f).2 hu) (by rw [any_py f g]; exact q)
theorem notin_tup (hu : X.A.units + 100 < cLine) (I : L2.Inv X pins σ H s) (rx : L2.RelV x v) (ry : L2.RelV y u) (hx : Rep X.K H d x) (hy : Rep X.K H (.tup ds) y) (f : D.flat 60 d = true) (g : D.flats 60 ds = true)
    (q : R (.bool (!ds.any fun z => D.eqv z d)) s) : wpAny (model X.prog X.w) X.A (compareOp .NotIn v u) R X.xe s := by
  obtain ⟨as, r1⟩ := Dp.reads I d.py x v (dp_of f hx) rx
  obtain ⟨bs, r2⟩ := Dp.reads I (.tuple (D.pys ds)) y u (dp_of (n := 61) (d := .tup ds) (by simpa [D.flat] using g) hy) ry
  exact SeqAt.notIn_tuple_reads r2 r1 (lays_of g).1 (lay_of f).1 (room_ins (lay_of f).2 hu) (by rw [any_py f g]; exact q)
theorem in_lst {a : Addr} {vs : List V} (hu : X.A.units + 100 < cLine) (I : L2.Inv X pins σ H s) (rx : L2.RelV x v) (hx : Rep X.K H d x) (hl : SqL X.K H a vs) (hy : Reps X.K H ds vs) (f : D.flat 60 d = true) (g : D.flats 60 ds = true)
    (q : R (.bool (ds.any fun z => D.eqv z d)) s) : wpAny (model X.prog X.w) X.A (compareOp .In v (.ref a)) R X.xe s := by
  obtain ⟨as, r1⟩ := Dp.reads I d.py x v (dp_of f hx) rx
  obtain ⟨bs, r2⟩ := Dp.reads I (.list (D.pys ds)) (.ref a) (.ref a) (.lst hl (dps_of g hy)) rfl
  exact SeqAt.in_list_reads r2 r1 (lays_of g).1 (lay_of f).1 (room_ins (lay_of f).2 hu) (by rw [any_py f g]; exact q)
theorem notin_lst {a : Addr} {vs : List V} (hu : X.A.units + 100 < cLine) (I : L2.Inv X pins σ H s) (rx : L2.RelV x v) (hx : Rep X.K H d x) (hl : SqL X.K H a vs) (hy : Reps X.K H ds vs) (f : D.flat 60 d = true) (g : D.flats 60 ds = true)
    (q : R (.bool (!ds.any fun z => D.eqv z d)) s) : wpAny (model X.prog X.w) X.A (compareOp .NotIn v (.ref a)) R X.xe s := by
  obtain ⟨as, r1⟩ := Dp.reads I d.py x v (dp_of f hx) rx
  obtain ⟨bs, r2⟩ := Dp.reads I (.list (D.pys ds)) (.ref a) (.ref a) (.lst hl (dps_of g hy)) rfl
  exact SeqAt.notIn_list_reads r2 r1 (lays_of g).1 (lay_of f).1 (room_ins (lay_of f).2 hu) (by rw [any_py f g]; exact q)
end
theorem op_cmp (o : COp) (hu : X.A.units + 100 < cLine) : OpR X (compareOp o.py) (rCmp X.K o) := by
  intro pins s σ H x y v u Q I rx ry h
  obtain ⟨dx, dy, M, hM, hx, hy, w⟩ := h
  unfold wCmp at w
  split at w
  · cases hx; cases hy
    exact op_eq pins s σ H _ _ _ _ _ I rx ry ⟨rfl, by rw [dec_str]; rw [show (∀ a b : Str, (a == b) = decide (a = b)) from fun a b => by by_cases e : a = b <;> simp [e]]; exact w⟩
  · cases hx; cases hy
    exact op_ne pins s σ H _ _ _ _ _ I rx ry ⟨rfl, by rw [dec_str]; rw [show (∀ a b : Str, (a == b) = decide (a = b)) from fun a b => by by_cases e : a = b <;> simp [e]]; exact w⟩
  · obtain ⟨ys, zs, e1, e2, ⟨f, g⟩, w⟩ := w
    obtain ⟨vs, h1, h2⟩ := hM _ _ e1
    obtain ⟨us, h3, h4⟩ := hM _ _ e2
    cases hx; cases hy
    exact op_eqD (by omega) pins s σ H _ _ _ _ _ I rx ry ⟨.list (D.pys ys), .list (D.pys zs), .lst (SqL.of h1) (dps_of f h2), .lst (SqL.of h3) (dps_of g h4), shapedL f, shapedL g, by rw [show PyData.eqv (.list (D.pys ys)) (.list (D.pys zs)) = PyData.eqvAll (D.pys ys) (D.pys zs) from rfl, eqvs_py f g]; exact w⟩
  · obtain ⟨ys, zs, e1, e2, ⟨f, g⟩, w⟩ := w
    obtain ⟨vs, h1, h2⟩ := hM _ _ e1
    obtain ⟨us, h3, h4⟩ := hM _ _ e2
    cases hx; cases hy
    exact op_neD (by omega) pins s σ H _ _ _ _ _ I rx ry ⟨.list (D.pys ys), .list (D.pys zs), .lst (SqL.of h1) (dps_of f h2), .lst (SqL.of h3) (dps_of g h4), shapedL f, shapedL g, by rw [show PyData.eqv (.list (D.pys ys)) (.list (D.pys zs)) = PyData.eqvAll (D.pys ys) (D.pys zs) from rfl, eqvs_py f g]; exact w⟩
  · obtain ⟨⟨f, g⟩, w⟩ := w
    exact op_eqD (by omega) pins s σ H _ _ _ _ _ I rx ry ⟨_, _, dp_of f hx, dp_of g hy, shaped_of f, shaped_of g, by rw [eqv_py f g]; exact w⟩
  · obtain ⟨⟨f, g⟩, w⟩ := w
    exact op_neD (by omega) pins s σ H _ _ _ _ _ I rx ry ⟨_, _, dp_of f hx, dp_of g hy, shaped_of f, shaped_of g, by rw [eqv_py f g]; exact w⟩
  · cases hx; cases hy; exact op_lt pins s σ H _ _ _ _ _ I rx ry ⟨_, _, rfl, rfl, w⟩
  · cases hx; cases hy; exact op_lt_str pins s σ H _ _ _ _ _ I rx ry ⟨_, _, rfl, rfl, w⟩
  · cases hx; cases hy; exact op_le pins s σ H _ _ _ _ _ I rx ry ⟨_, _, rfl, rfl, w⟩
  · cases hx; cases hy; exact op_gt pins s σ H _ _ _ _ _ I rx ry ⟨_, _, rfl, rfl, w⟩
  · cases hx; cases hy; exact op_ge pins s σ H _ _ _ _ _ I rx ry ⟨_, _, rfl, rfl, w⟩
  · cases hx; cases hy; exact op_isBl pins s σ H _ _ _ _ _ I rx ry ⟨_, _, rfl, rfl, w⟩
  · cases hx; cases hy; exact op_notBl pins s σ H _ _ _ _ _ I rx ry ⟨_, _, rfl, rfl, w⟩
  · cases hx; cases hy; exact op_isN pins s σ H _ _ _ _ _ I rx ry ⟨rfl, w⟩
  · rename_i dx' _ _ _ _ _ _ hne
    cases hy
    refine op_isN pins s σ H _ _ _ _ _ I rx ry ⟨rfl, ?_⟩
    rw [isNon hx]
    cases dx' <;> first | exact w | exact absurd rfl hne | exact (hne rfl).elim
  · cases hx; cases hy; exact op_notN pins s σ H _ _ _ _ _ I rx ry ⟨rfl, w⟩
  · rename_i dx' _ _ _ _ _ _ hne
    cases hy
    refine op_notN pins s σ H _ _ _ _ _ I rx ry ⟨rfl, ?_⟩
    rw [isNon hx]
    cases dx' <;> first | exact w | exact absurd rfl hne | exact (hne rfl).elim
  · cases hx; cases hy; exact op_in_str pins s σ H _ _ _ _ _ I rx ry ⟨_, _, rfl, rfl, w⟩
  · cases hx; cases hy; exact op_notin_str pins s σ H _ _ _ _ _ I rx ry ⟨_, _, rfl, rfl, w⟩
  · obtain ⟨⟨f, g⟩, w⟩ := w
    exact in_tup hu I rx ry hx hy f g ⟨.bl _, H, I, rfl, w⟩
  · obtain ⟨⟨f, g⟩, w⟩ := w
    exact notin_tup hu I rx ry hx hy f g ⟨.bl _, H, I, rfl, w⟩
  · obtain ⟨ys, e, ⟨f, g⟩, w⟩ := w
    obtain ⟨vs, h1, h2⟩ := hM _ _ e
    cases hy; cases ry
    exact in_lst hu I rx hx (SqL.of h1) h2 f g ⟨.bl _, H, I, rfl, w⟩
  · obtain ⟨ys, e, ⟨f, g⟩, w⟩ := w
    obtain ⟨vs, h1, h2⟩ := hM _ _ e
    cases hy; cases ry
    exact notin_lst hu I rx hx (SqL.of h1) h2 f g ⟨.bl _, H, I, rfl, w⟩
  · rename_i xs ys
    obtain ⟨⟨f, g, al⟩, w⟩ := w
    obtain ⟨as, r1⟩ := Dp.reads I _ x v (dp_of f hx) rx
    obtain ⟨bs, r2⟩ := Dp.reads I _ y u (dp_of g hy) ry
    refine PySem.W.lt_data r1 r2 al (by simp [D.py]) ?_ ⟨.bl _, H, I, rfl, w⟩
    have h1 := Nat.min_le_left (PyData.depth (D.py (.tup xs))) (PyData.depth (D.py (.tup ys)))
    have h2 := (lay_of f).2
    omega
  · exact w.elim
theorem je_cmp (hF : FMono F) (hu : X.A.units + 100 < cLine) {o : COp} {a b : Expr} {ia ib : IE} {pos : Pos} (ha : PE X a (liftE X.K RX W (wE F ia))) (hb : PE X b (liftE X.K RX W (wE F ib))) (hm : behindInMarks o.py b = false) :
    PE X (.Compare a [o.py] [b] pos) (liftE X.K RX W (wE F (.cmp o ia ib))) :=
  PE.imp (pe_cmpR (op_cmp o hu) ha hb hm) fun σ H Q h => lift2 hF (w := fun x y M Q => wCmp o x y M fun k => Q (.bl k))
    (fun s rx ry w => ⟨_, _, _, s.mem, rx, ry, wCmp_mono (fun z q => q.at s (d := .bl z) rfl) w⟩) h fun _ _ _ _ _ h w => wCmp_mono (fun _ q => h _ q) w
theorem je_chn (hF : FMono F) (hu : X.A.units + 100 < cLine) {o o' : COp} {a b c : Expr} {ia ib ic : IE} {pos : Pos} (ha : PE X a (liftE X.K RX W (wE F ia))) (hb : PE X b (liftE X.K RX W (wE F ib))) (hc : PE X c (liftE X.K RX W (wE F ic)))
    (hm : lastMarks [o.py, o'.py] [b, c] = false) : PE X (.Compare a [o.py, o'.py] [b, c] pos) (liftE X.K RX W (wE F (.chn o o' ia ib ic))) :=
  PE.imp (pe_chain (op_cmp o hu) (op_cmp o' hu) ha hb hc hm) fun σ H Q ⟨env, M, s, h⟩ => by
    refine ⟨env, M, s, wE_mono hF ia (fun dx M1 q x H1 x1 s1 r1 => ?_) (fun _ _ q => q) h⟩
    refine ⟨env, M1, s1, wE_mono hF ib (fun dy M2 q y H2 x2 s2 r2 => ?_) (fun _ _ q => q.go x1) q⟩
    refine ⟨_, _, _, s2.mem, r1.mono (x2.tm s1), r2, wCmp_mono (fun k q => ⟨k, rfl, ?_⟩) q⟩
    cases k with
    | false => exact (q.go (x1.trans x2)).at s2 (d := .bl false) rfl
    | true =>
      refine ⟨env, M2, s2, wE_mono hF ic (fun dz M3 q z H3 x3 s3 r3 => ?_) (fun _ _ q => q.go (x1.trans x2)) q⟩
      exact ⟨_, _, _, s3.mem, r2.mono (x3.tm s2), r3, wCmp_mono (fun k q => (q.go ((x1.trans x2).trans x3)).at s3 (d := .bl k) rfl) q⟩
end
end DL
/-! Soundness: tests, lists, built-ins. -/
namespace DL
open PySem PySem.Spec PyProof.Rows L2
section
variable {X : Cx} {RX : RXT} {W : WX} {F : FS}
variable {K : PySem.W.Frag} {σ : L2.St} {H H1 H2 : Hp} {env : Env} {M M1 M2 : Mem} {Q : VK}
/-! ### tests -/
theorem tru_of {d : D} {v : V} {R : Bool → Prop} (s : StE K σ H env M) (r : Rep K H d v) (w : wTru d M R) : ∃ k, TruV K v H k ∧ R k := by
  cases d with
  | non => cases r; exact ⟨_, rfl, w⟩
  | bl b => cases r; exact ⟨_, rfl, w⟩
  | int i => cases r; exact ⟨_, rfl, w⟩
  | str x => cases r; exact ⟨_, ⟨w.1, rfl⟩, w.2⟩
  | tup xs =>
    obtain ⟨a, vs, rfl, h, q⟩ := r
    refine ⟨!xs.isEmpty, .inr (.inl ⟨vs, h, ?_⟩), w⟩
    have := reps_ne q
    cases xs <;> cases vs <;> simp_all
  | ref a =>
    cases r
    obtain ⟨xs, e, q⟩ := w
    obtain ⟨vs, h, q2⟩ := s.mem a _ e
    refine ⟨_, .inl ⟨vs, SqL.of h, ?_⟩, q⟩
    have := reps_ne q2
    cases xs <;> cases vs <;> simp_all
  | rl xs => exact w.elim
theorem jt_truth (hF : FMono F) {a : Expr} {ia : IE} (ha : PE X a (liftE X.K RX W (wE F ia))) (he : ∀ whole, isTrue a X.env whole = (do let v ← whole; standAt a.pos; holding [v] (truthy v))) :
    PT X a (liftT X.K RX W (wT F (.v ia))) :=
  PT.imp (pt_truth ha he) fun σ H Q ⟨env, M, s, h⟩ => ⟨env, M, s, wE_mono hF ia (fun d M1 q v H1 x1 s1 r1 => by
    obtain ⟨k, h1, h2⟩ := tru_of s1 r1 q
    exact ⟨k, h1, h2 H1 x1 s1⟩) (fun _ _ q => q) h⟩
theorem jt_cmp (hF : FMono F) (hu : X.A.units + 100 < cLine) {o : COp} {a b : Expr} {ia ib : IE} {pos : Pos} (ha : PE X a (liftE X.K RX W (wE F ia))) (hb : PE X b (liftE X.K RX W (wE F ib))) (hm : behindInMarks o.py b = false) :
    PT X (.Compare a [o.py] [b] pos) (liftT X.K RX W (wT F (.v (.cmp o ia ib)))) :=
  PT.imp (pt_cmpR (op_cmp o hu) ha hb hm) fun σ H Q ⟨env, M, s, h⟩ => by
    refine ⟨env, M, s, wE_mono hF ia (fun dx M1 q x H1 x1 s1 r1 => ?_) (fun _ _ q => q) h⟩
    refine ⟨env, M1, s1, wE_mono hF ib (fun dy M2 q y H2 x2 s2 r2 => ?_) (fun _ _ q => q.go x1) q⟩
    exact ⟨_, _, _, s2.mem, r1.mono (x2.tm s1), r2, wCmp_mono (fun k q => ⟨k, rfl, q H2 (x1.trans x2) s2⟩) q⟩
theorem jt_chn (hF : FMono F) (hu : X.A.units + 100 < cLine) {o o' : COp} {a b c : Expr} {ia ib ic : IE} {pos : Pos} (ha : PE X a (liftE X.K RX W (wE F ia))) (hb : PE X b (liftE X.K RX W (wE F ib))) (hc : PE X c (liftE X.K RX W (wE F ic)))
    (hm : lastMarks [o.py, o'.py] [b, c] = false) : PT X (.Compare a [o.py, o'.py] [b, c] pos) (liftT X.K RX W (wT F (.v (.chn o o' ia ib ic)))) :=
  PT.imp (pt_chain (op_cmp o hu) (op_cmp o' hu) ha hb hc hm) fun σ H Q ⟨env, M, s, h⟩ => by
    refine ⟨env, M, s, wE_mono hF ia (fun dx M1 q x H1 x1 s1 r1 => ?_) (fun _ _ q => q) h⟩
    refine ⟨env, M1, s1, wE_mono hF ib (fun dy M2 q y H2 x2 s2 r2 => ?_) (fun _ _ q => q.go x1) q⟩
    refine ⟨_, _, _, s2.mem, r1.mono (x2.tm s1), r2, wCmp_mono (fun k q => ⟨k, rfl, ?_⟩) q⟩
    cases k with
    | false => exact ⟨false, rfl, q H2 (x1.trans x2) s2⟩
    | true =>
      refine ⟨env, M2, s2, wE_mono hF ic (fun dz M3 q z H3 x3 s3 r3 => ?_) (fun _ _ q => q.go (x1.trans x2)) q⟩
      exact ⟨_, _, _, s3.mem, r2.mono (x3.tm s2), r3, wCmp_mono (fun k q => ⟨k, rfl, q H3 ((x1.trans x2).trans x3) s3⟩) q⟩
theorem jt_not (hF : FMono F) {a : Expr} {ia : IT} {pos : Pos} (ha : PT X a (liftT X.K RX W (wT F ia))) : PT X (.UnaryOp .Not a pos) (liftT X.K RX W (wT F (.not ia))) :=
  PT.imp (pt_not ha) fun σ H Q ⟨env, M, s, h⟩ => ⟨env, M, s, wT_mono hF ia (fun k M1 q H1 x1 s1 => q H1 x1 s1) (fun _ _ q => q) h⟩
theorem jw_one {op : BoolOp} {a : Expr} {ia : IT} {pos : Pos} (ha : PT X a (liftT X.K RX W (wT F ia))) : PW X (.BoolOp op [a] pos) (liftT X.K RX W (wT F ia)) := by
  cases op
  · exact pw_and1 ha
  · exact pw_or1 ha
theorem jw_and (hF : FMono F) {a b : Expr} {rest : List Expr} {ia ib : IT} {pos : Pos} (ha : PT X a (liftT X.K RX W (wT F ia))) (hb : PW X (.BoolOp .And (b :: rest) pos) (liftT X.K RX W (wT F ib))) :
    PW X (.BoolOp .And (a :: b :: rest) pos) (liftT X.K RX W (wT F (.and ia ib))) := by
  have h := pw_and ha hb
  refine ⟨fun whole pins s σ H Q I q => h.run whole pins s σ H Q I ?_⟩
  obtain ⟨env, M, s, q⟩ := q
  refine ⟨env, M, s, wT_mono hF ia (fun k M1 q H1 x1 s1 => ?_) (fun _ _ q => q) q⟩
  cases k with
  | false => exact q H1 x1 s1
  | true => exact ⟨env, M1, s1, wT_mono hF ib (fun k M2 q H2 x2 s2 => q H2 (x1.trans x2) s2) (fun _ _ q => q.go x1) q⟩
theorem jw_or (hF : FMono F) {a b : Expr} {rest : List Expr} {ia ib : IT} {pos : Pos} (ha : PT X a (liftT X.K RX W (wT F ia))) (hb : PW X (.BoolOp .Or (b :: rest) pos) (liftT X.K RX W (wT F ib))) :
    PW X (.BoolOp .Or (a :: b :: rest) pos) (liftT X.K RX W (wT F (.or ia ib))) := by
  have h := pw_or ha hb
  refine ⟨fun whole pins s σ H Q I q => h.run whole pins s σ H Q I ?_⟩
  obtain ⟨env, M, s, q⟩ := q
  refine ⟨env, M, s, wT_mono hF ia (fun k M1 q H1 x1 s1 => ?_) (fun _ _ q => q) q⟩
  cases k with
  | true => exact q H1 x1 s1
  | false => exact ⟨env, M1, s1, wT_mono hF ib (fun k M2 q H2 x2 s2 => q H2 (x1.trans x2) s2) (fun _ _ q => q.go x1) q⟩
/-- as values -/
theorem je_one {op : BoolOp} {a : Expr} {ia : IE} {pos : Pos} (ha : PE X a (liftE X.K RX W (wE F ia))) : PE X (.BoolOp op [a] pos) (liftE X.K RX W (wE F ia)) := pe_one ha
theorem je_and (hF : FMono F) {a b : Expr} {rest : List Expr} {ia ib : IE} {pos : Pos} (ha : PE X a (liftE X.K RX W (wE F ia))) (hb : PE X (.BoolOp .And (b :: rest) pos) (liftE X.K RX W (wE F ib))) :
    PE X (.BoolOp .And (a :: b :: rest) pos) (liftE X.K RX W (wE F (.and ia ib))) :=
  PE.imp (pe_and ha hb) fun σ H Q ⟨env, M, s, h⟩ => ⟨env, M, s, wE_mono hF ia (fun d M1 q v H1 x1 s1 r1 => by
    obtain ⟨k, rfl, q⟩ := q
    cases r1
    refine ⟨k, rfl, ?_⟩
    cases k with
    | false => exact (q.go x1).at s1 (d := .bl false) rfl
    | true => exact ⟨env, M1, s1, wE_mono hF ib (fun _ _ q => q.go x1) (fun _ _ q => q.go x1) q⟩) (fun _ _ q => q) h⟩
theorem je_or (hF : FMono F) {a b : Expr} {rest : List Expr} {ia ib : IE} {pos : Pos} (ha : PE X a (liftE X.K RX W (wE F ia))) (hb : PE X (.BoolOp .Or (b :: rest) pos) (liftE X.K RX W (wE F ib))) :
    PE X (.BoolOp .Or (a :: b :: rest) pos) (liftE X.K RX W (wE F (.or ia ib))) :=
  PE.imp (pe_or ha hb) fun σ H Q ⟨env, M, s, h⟩ => ⟨env, M, s, wE_mono hF ia (fun d M1 q v H1 x1 s1 r1 => by
    obtain ⟨k, rfl, q⟩ := q
    cases r1
    refine ⟨k, rfl, ?_⟩
    cases k with
    | true => exact (q.go x1).at s1 (d := .bl true) rfl
    | false => exact ⟨env, M1, s1, wE_mono hF ib (fun _ _ q => q.go x1) (fun _ _ q => q.go x1) q⟩) (fun _ _ q => q) h⟩
theorem je_not (hF : FMono F) {a : Expr} {ia : IE} {pos : Pos} (ha : PE X a (liftE X.K RX W (wE F ia))) : PE X (.UnaryOp .Not a pos) (liftE X.K RX W (wE F (.not ia))) :=
  PE.imp (pe_not ha) fun σ H Q ⟨env, M, s, h⟩ => ⟨env, M, s, wE_mono hF ia (fun d M1 q v H1 x1 s1 r1 => by
    obtain ⟨k, rfl, q⟩ := q
    cases r1
    exact ⟨k, rfl, (q.go x1).at s1 (d := .bl !k) rfl⟩) (fun _ _ q => q) h⟩
theorem je_ifx (hF : FMono F) {c a b : Expr} {ic : IT} {ia ib : IE} {pos : Pos} (hc : PT X c (liftT X.K RX W (wT F ic))) (ha : PE X a (liftE X.K RX W (wE F ia))) (hb : PE X b (liftE X.K RX W (wE F ib))) :
    PE X (.IfExp c a b pos) (liftE X.K RX W (wE F (.ifx ic ia ib))) :=
  PE.imp (pe_ifExp hc ha hb) fun σ H Q ⟨env, M, s, h⟩ => ⟨env, M, s, wT_mono hF ic (fun k M1 q H1 x1 s1 => by
    cases k with
    | true => exact ⟨env, M1, s1, wE_mono hF ia (fun _ _ q => q.go x1) (fun _ _ q => q.go x1) q⟩
    | false => exact ⟨env, M1, s1, wE_mono hF ib (fun _ _ q => q.go x1) (fun _ _ q => q.go x1) q⟩) (fun _ _ q => q) h⟩
/-- what is free now was no one else's before -/
theorem new_none {p : Addr} (x1 : Ext env H M H1 M1) (s1 : StE K σ H1 env M1) (hM : M p = none) (hp : H1 p = none) : H p = none := by
  cases e : H p with
  | none => rfl
  | some u =>
    by_cases ho : ∀ (i : Nat) q o', env[i]? = some (.own q o') → q ≠ p
    · have := (x1 p u e hM ho).1; rw [hp] at this; cases this
    · have : ∃ (i : Nat) (o' : MO), env[i]? = some (.own p o') := Classical.byContradiction fun z => ho fun i q o' e' z' => z ⟨i, o', by rw [← z']; exact e'⟩
      obtain ⟨i, o', e'⟩ := this
      exact absurd hp (s1.owns i p o' e').2.1.notTup.2.2
/-! ### displays -/
theorem ja_nil : PA X [] (liftA X.K RX W (wEs F .nil)) := PA.imp pa_nil fun σ H Q ⟨env, M, s, h⟩ => h [] H Ext.refl s rfl
theorem ja_cons (hF : FMono F) {e : Expr} {es : List Expr} {ie : IE} {ies : IEs} (ha : PE X e (liftE X.K RX W (wE F ie))) (hr : PA X es (liftA X.K RX W (wEs F ies)))
    (hs : starEach (e :: es) X.env = (false, eval e X.env) :: starEach es X.env) : PA X (e :: es) (liftA X.K RX W (wEs F (.cons ie ies))) :=
  PA.imp (pa_cons ha hr hs) fun σ H Q ⟨env, M, s, h⟩ => ⟨env, M, s, wE_mono hF ie (fun d M1 q v H1 x1 s1 r1 =>
    ⟨env, M1, s1, wEs_mono hF ies (fun ds M2 q vs H2 x2 s2 r2 => q (v :: vs) H2 (x1.trans x2) s2 ⟨v, vs, rfl, r1.mono (x2.tm s1), r2⟩) (fun _ _ q => q.go x1) q⟩) (fun _ _ q => q) h⟩
theorem je_tup (hF : FMono F) {es : List Expr} {ies : IEs} {k : Nat} {pos : Pos} (h : PA X es (liftA X.K RX W (wEs F ies))) : PE X (.Tuple es k pos) (liftE X.K RX W (wE F (.tup ies))) :=
  PE.imp (pe_tup h) fun σ H Q ⟨env, M, s, h⟩ => ⟨env, M, s, wEs_mono hF ies (fun ds M1 q vs H1 x1 s1 r1 => by
    refine ⟨by rw [← r1.length]; exact q.1, fun p hp => ?_⟩
    refine (postE.go x1 q.2).alc s1 (d := .tup ds) (Alc.new hp) ⟨p, vs, rfl, SqT.of L2.upd_same, r1.mono (Alc.new hp).tm⟩) (fun _ _ q => q) h⟩
theorem jn_disp (hF : FMono F) {es : List Expr} {ies : IEs} {pos : Pos} (h : PA X es (liftA X.K RX W (wEs F ies))) : PE X (.List es pos) (liftN X.K RX W (wN F (.disp ies))) :=
  PE.imp (pe_lst h) fun σ H Q ⟨env, M, s, h⟩ => ⟨env, M, s, wEs_mono hF ies (fun ds M1 q vs H1 x1 s1 r1 => by
    refine ⟨by rw [← r1.length]; exact q.1, fun p hp => ?_⟩
    have a := Alc.new (o := .lst vs) hp
    have hp0 : M p = none → H p = none := fun hM => new_none x1 s1 hM hp
    exact q.2 p vs _ (x1.trans (Ext.alc a)) (s1.alc a) L2.upd_same (r1.mono a.tm) (s1.fresh hp) hp0 fun i q o' e' z => by
      subst z; exact absurd hp (s1.owns i q o' e').2.1.notTup.2.2) (fun _ _ q => q) h⟩
/-! ### parts -/
theorem plain_ix {b : Expr} (h : ∀ lo hi st p, b ≠ .Slice lo hi st p) : PlainIx b := fun o i => by
  cases b <;> first | rfl | exact absurd rfl (h _ _ _ _)
def rIdx (K : PySem.W.Frag) : R2 := fun x y H Q => rIxT K x y H Q ∨ rIxL K x y H Q ∨ rIxS x y H Q
theorem ix_idx : IxR X (rIdx X.K) := ix_tup.or (ix_list.or ix_str)
theorem je_idx (hF : FMono F) {a b : Expr} {ia ib : IE} {pos : Pos} (ha : PE X a (liftE X.K RX W (wE F ia))) (hb : PE X b (liftE X.K RX W (wE F ib))) (hs : PlainIx b) :
    PE X (.Subscript a b pos) (liftE X.K RX W (wE F (.idx ia ib))) :=
  PE.imp (pe_ix ix_idx ha hb hs) fun σ H Q h => lift2 hF (w := fun x y M Q => wIdx x y M Q)
    (fun {env H1 M1 dx dy x y} s rx ry w => by
      unfold wIdx at w
      split at w
      · obtain ⟨d, e, q⟩ := w
        obtain ⟨p, vs, rfl, h1, h2⟩ := rx
        cases ry
        obtain ⟨v, e2, r⟩ := h2.atI e
        exact .inl ⟨p, vs, _, v, rfl, rfl, h1, e2, q.at s r⟩
      · obtain ⟨l, c, e, q⟩ := w
        cases rx; cases ry
        exact .inr (.inr ⟨_, _, c, rfl, rfl, l, e, q.at s (d := .str ⟨#[c]⟩) rfl⟩)
      · obtain ⟨xs, d, e1, e, q⟩ := w
        cases rx; cases ry
        obtain ⟨vs, h1, h2⟩ := s.mem _ _ e1
        obtain ⟨v, e2, r⟩ := h2.atI e
        exact .inr (.inl ⟨_, vs, _, v, rfl, rfl, SqL.of h1, e2, q.at s r⟩)
      · exact w.elim) h fun _ _ _ _ _ h w => wIdx_mono h w
def liftO (K : PySem.W.Frag) (RX : RXT) (W : WX) (t : Env → Mem → (Option Int → Mem → Prop) → QX → Prop) : TO := fun σ H Q => ∃ env M, StE K σ H env M ∧
  t env M (fun o M' => ∀ H', Ext env H M H' M' → StE K σ H' env M' → Q o H') (postX K RX W σ H env M)
theorem jo_none : PO X none (liftO X.K RX W (wO F .no)) := PO.imp po_none fun σ H Q ⟨env, M, s, h⟩ => h H Ext.refl s
theorem jo_some (hF : FMono F) {e : Expr} {ie : IE} (h : PE X e (liftE X.K RX W (wE F ie))) : PO X (some e) (liftO X.K RX W (wO F (.at ie))) :=
  PO.imp (po_some h) fun σ H Q ⟨env, M, s, h⟩ => ⟨env, M, s, wE_mono hF ie (fun d M1 q v H1 x1 s1 r1 => by
    obtain ⟨i, rfl, q⟩ := q
    cases r1
    exact ⟨i, rfl, q H1 x1 s1⟩) (fun _ _ q => q) h⟩
theorem cut_whole {xs : List D} {lo hi : Option Int} (h : HT.sIx xs.length 0 lo = 0 ∧ HT.sIx xs.length xs.length hi = xs.length) : cutD xs lo hi = xs := by
  unfold cutD
  rw [h.1, h.2]
  simp
theorem je_slc (hF : FMono F) {a : Expr} {lo hi : Option Expr} {ia : IE} {il ih : IO} {p2 pos : Pos} (ha : PE X a (liftE X.K RX W (wE F ia))) (hl : PO X lo (liftO X.K RX W (wO F il))) (hh : PO X hi (liftO X.K RX W (wO F ih))) :
    PE X (.Subscript a (.Slice lo hi none p2) pos) (liftE X.K RX W (wE F (.slc ia il ih))) :=
  PE.imp (pe_slice (SlR.or sl_tupA (SlR.or sl_str sl_list)) ha hl hh) fun σ H Q ⟨env, M, s, h⟩ => ⟨env, M, s, wE_mono hF ia (fun d M1 q v H1 x1 s1 r1 =>
    ⟨env, M1, s1, wO_mono hF il (fun l M2 q H2 x2 s2 => ⟨env, M2, s2, wO_mono hF ih (fun u M3 q3 H3 x3 s3 => by
      have r3 := (r1.mono (x2.tm s1)).mono (x3.tm s2)
      cases d with
      | tup xs =>
        have qq : postE _ σ H env M Q (.tup (cutD xs l u)) M3 := q3
        obtain ⟨p, vs, rfl, h1, h2⟩ := r3
        refine .inl ⟨p, vs, rfl, h1, fun w => ?_, fun w p hp => ?_⟩
        · rw [← h2.length] at w
          rw [cut_whole w] at qq
          exact (qq.go ((x1.trans x2).trans x3)).at s3 (d := .tup xs) ⟨p, vs, rfl, h1, h2⟩
        · refine (qq.go ((x1.trans x2).trans x3)).alc s3 (d := .tup (cutD xs l u)) (Alc.new hp) ⟨p, _, rfl, SqT.of L2.upd_same, ?_⟩
          exact (h2.cut l u).mono (Alc.new hp).tm
      | str z =>
        cases r3
        exact .inr (.inl ⟨z, rfl, q3.1, (q3.2.go ((x1.trans x2).trans x3)).at s3 (d := .str _) rfl⟩)
      | ref a =>
        cases r3
        obtain ⟨xs, e, qq⟩ := q3
        obtain ⟨vs, h1, h2⟩ := s3.mem _ _ e
        refine .inr (.inr ⟨a, vs, rfl, SqL.of h1, fun p hp => ?_⟩)
        have hM : M3 p = none := s3.fresh hp
        have al : Alc H3 (L2.upd H3 p (.lst (cutV vs l u))) := Alc.new hp
        refine ((qq p hM).go ((x1.trans x2).trans x3)) (.ref p) _ (fun c o e n no => ?_) ((s3.alc al).put L2.upd_same ((h2.cut l u).mono al.tm) hM fun i q o' e z => ?_) rfl
        · have hc : c ≠ p := fun z => by subst z; rw [hp] at e; cases e
          exact ⟨al _ _ e, by rw [upd_other hc]; exact n⟩
        · subst z
          obtain ⟨_, h3, _⟩ := s3.owns i _ o' e
          exact absurd hp h3.notTup.2.2
      | _ => exact q3.elim) (fun _ _ q => q.go (x1.trans x2)) q⟩) (fun _ _ q => q.go x1) q⟩) (fun _ _ q => q) h⟩
theorem je_rev (hF : FMono F) {a : Expr} {ia : IE} {k : Nat} {p1 p2 p3 pos : Pos} (ha : PE X a (liftE X.K RX W (wE F ia))) :
    PE X (.Subscript a (.Slice none none (some (.UnaryOp .USub (.Constant (.int 1) k p1) p2)) p3) pos) (liftE X.K RX W (wE F (.rev ia))) :=
  PE.imp (DLK.pe_revT ha) fun σ H Q ⟨env, M, s, h⟩ => ⟨env, M, s, wE_mono hF ia (fun d M1 q v H1 x1 s1 r1 => by
      obtain ⟨xs, rfl, qq⟩ := q
      obtain ⟨p, vs, rfl, h1, h2⟩ := r1
      refine ⟨p, vs, rfl, h1, fun p hp => ?_⟩
      refine (qq.go x1).alc s1 (d := .tup xs.reverse) (Alc.new hp) ⟨p, _, rfl, SqT.of L2.upd_same, ?_⟩
      exact h2.reverse.mono (Alc.new hp).tm) (fun _ _ q => q) h⟩
theorem je_rev0 (hF : FMono F) {a : Expr} {ia : IE} {k k0 : Nat} {p0 p1 p2 p3 pos : Pos} (ha : PE X a (liftE X.K RX W (wE F ia))) :
    PE X (.Subscript a (.Slice none (some (.Constant (.int 0) k0 p0)) (some (.UnaryOp .USub (.Constant (.int 1) k p1) p2)) p3) pos) (liftE X.K RX W (wE F (.rev0 ia))) :=
  PE.imp (DLK.pe_revT0 ha) fun σ H Q ⟨env, M, s, h⟩ => ⟨env, M, s, wE_mono hF ia (fun d M1 q v H1 x1 s1 r1 => by
      obtain ⟨xs, rfl, qq⟩ := q
      obtain ⟨p, vs, rfl, h1, h2⟩ := r1
      refine ⟨p, vs, rfl, h1, fun p hp => ?_⟩
      refine (qq.go x1).alc s1 (d := .tup (xs.drop 1).reverse) (Alc.new hp) ⟨p, _, rfl, SqT.of L2.upd_same, ?_⟩
      exact (h2.drop 1).reverse.mono (Alc.new hp).tm) (fun _ _ q => q) h⟩
theorem je_revL (hF : FMono F) {a : Expr} {ia : IE} {k : Nat} {p1 p2 p3 pos : Pos} (ha : PE X a (liftE X.K RX W (wE F ia))) :
    PE X (.Subscript a (.Slice none none (some (.UnaryOp .USub (.Constant (.int 1) k p1) p2)) p3) pos) (liftE X.K RX W (wE F (.revL ia))) :=
  PE.imp (pe_revL ha) fun σ H Q ⟨env, M, s, h⟩ => ⟨env, M, s, wE_mono hF ia (fun d M1 q v H1 x1 s1 r1 => by
      obtain ⟨a, xs, rfl, e, qq⟩ := q
      cases r1
      obtain ⟨vs, h1, h2⟩ := s1.mem _ _ e
      refine ⟨a, vs, rfl, SqL.of h1, fun p hp => ?_⟩
      have hM : M1 p = none := s1.fresh hp
      have al : Alc H1 (L2.upd H1 p (.lst vs.reverse)) := Alc.new hp
      refine ((qq p hM).go x1) (.ref p) _ (fun c o e n no => ?_) ((s1.alc al).put L2.upd_same (h2.reverse.mono al.tm) hM fun i q o' e z => ?_) rfl
      · have hc : c ≠ p := fun z => by subst z; rw [hp] at e; cases e
        exact ⟨al _ _ e, by rw [upd_other hc]; exact n⟩
      · subst z
        obtain ⟨_, h3, _⟩ := s1.owns i _ o' e
        exact absurd hp h3.notTup.2.2) (fun _ _ q => q) h⟩
/-! ### built-ins on values -/
theorem call_max3 (hc : X.calm = true) : CallR X (.builtin "max") (fun xs H Q => ∃ i j k, xs = [.int i, .int j, .int k] ∧ Q (.int (max (max i j) k)) H) := by
  intro pins s σ H xs us Q I r h
  obtain ⟨i, j, k, rfl, q⟩ := h
  cases r with
  | cons r1 r => cases r with
    | cons r2 r => cases r with
      | cons r3 r =>
        cases r
        obtain ⟨t, rfl⟩ := r1
        obtain ⟨t', rfl⟩ := r2
        obtain ⟨t'', rfl⟩ := r3
        refine max_three_ints (I.ok.hd hc) fun h' tk kk => ⟨_, H, I.kept kk, ?_, q⟩
        by_cases h1 : j > i
        · rw [if_pos h1]
          by_cases h2 : k > j
          · rw [if_pos h2]; exact ⟨t'', by congr 1; omega⟩
          · rw [if_neg h2]; exact ⟨t', by congr 1; omega⟩
        · rw [if_neg h1]
          by_cases h2 : k > i
          · rw [if_pos h2]; exact ⟨t'', by congr 1; omega⟩
          · rw [if_neg h2]; exact ⟨t, by congr 1; omega⟩
theorem ints_rep : ∀ {ns : List Int} {us : List V}, Reps K H (ns.map D.int) us → us = ns.map V.int
  | [], us, r => r
  | y :: ys, us, r => by
    obtain ⟨v, us', rfl, h1, h2⟩ := r
    rw [ints_rep h2]
    cases h1
    rfl
theorem reads_ints {h : Heap} : ∀ {ns : List Int} {us : List Value}, Vals (ns.map V.int) us → ∃ as, ReadsAll h us (ns.map PyData.int) as
  | [], us, r => by cases r; exact ⟨[], .nil⟩
  | n :: ns, us, r => by
    cases r with
    | cons a b =>
      obtain ⟨t, rfl⟩ := a
      obtain ⟨as, h2⟩ := reads_ints (h := h) b
      exact ⟨_, .cons (.int _ _) h2⟩
theorem alike_ints {ns : List Int} : PySem.W.AlikeAll (ns.map PyData.int) := by
  refine ⟨fun x hx y hy => ?_, fun x hx => ?_⟩
  · obtain ⟨a, _, rfl⟩ := List.mem_map.mp hx
    obtain ⟨b, _, rfl⟩ := List.mem_map.mp hy
    rfl
  · obtain ⟨a, _, rfl⟩ := List.mem_map.mp hx
    exact fun z => by cases z
theorem depth_ints : ∀ {ns : List Int}, PyData.depthAll (ns.map PyData.int) = 0
  | [] => rfl
  | n :: ns => by simp [PyData.depthAll, PyData.depth, depth_ints (ns := ns)]
theorem fold_max : ∀ (ns : List Int) (n : Int), ns.foldl max n ∈ n :: ns ∧ ∀ y ∈ n :: ns, y ≤ ns.foldl max n
  | [], n => ⟨by simp, fun y hy => by simp at hy; simp [hy]⟩
  | m :: ns, n => by
    obtain ⟨h1, h2⟩ := fold_max ns (max n m)
    refine ⟨?_, fun y hy => ?_⟩
    · rw [List.foldl_cons]
      rcases List.mem_cons.mp h1 with z | z
      · rw [z]
        by_cases e : n ≤ m
        · rw [Int.max_eq_right e]; simp
        · rw [Int.max_eq_left (by omega)]; simp
      · simp [z]
    · rw [List.foldl_cons]
      have h3 := h2 (max n m) List.mem_cons_self
      rcases List.mem_cons.mp hy with z | z
      · subst z; exact Int.le_trans (Int.le_max_left _ _) h3
      · rcases List.mem_cons.mp z with z | z
        · subst z; exact Int.le_trans (Int.le_max_right _ _) h3
        · exact h2 y (List.mem_cons_of_mem _ z)
theorem fold_min : ∀ (ns : List Int) (n : Int), ns.foldl min n ∈ n :: ns ∧ ∀ y ∈ n :: ns, ns.foldl min n ≤ y
  | [], n => ⟨by simp, fun y hy => by simp at hy; simp [hy]⟩
  | m :: ns, n => by
    obtain ⟨h1, h2⟩ := fold_min ns (min n m)
    refine ⟨?_, fun y hy => ?_⟩
    · rw [List.foldl_cons]
      rcases List.mem_cons.mp h1 with z | z
      · rw [z]
        by_cases e : n ≤ m
        · rw [Int.min_eq_left e]; simp
        · rw [Int.min_eq_right (by omega)]; simp
      · simp [z]
    · rw [List.foldl_cons]
      have h3 := h2 (min n m) List.mem_cons_self
      rcases List.mem_cons.mp hy with z | z
      · subst z; exact Int.le_trans h3 (Int.min_le_left _ _)
      · rcases List.mem_cons.mp z with z | z
        · subst z; exact Int.le_trans h3 (Int.min_le_right _ _)
        · exact h2 y (List.mem_cons_of_mem _ z)
theorem int_reads {h : Heap} {v : Value} {i : Int} {bs : List Addr} (r : Reads h v (.int i) bs) : ∃ t, v = .int i t := by cases r; exact ⟨_, rfl⟩
theorem call_maxT (hu : X.A.units + 100 < cLine) (hc : X.calm = true) : CallR X (.builtin "max") (fun xs H Q => ∃ p, ∃ ns : List Int, xs = [.ref p] ∧ SqT X.K H p (ns.map V.int) ∧ 0 < ns.length ∧ ∀ m, m ∈ ns → (∀ y, y ∈ ns → y ≤ m) → Q (.int m) H) := by
  intro pins s σ H vs us Q I r h
  obtain ⟨p, ns, rfl, hs, h0, q⟩ := h
  obtain ⟨its, rv, ⟨o, e1, e2, m, e3⟩, _⟩ := I.tuple hs
  rw [Vals.ref1 r]
  cases ns with
  | nil => simp at h0
  | cons n ns =>
    obtain ⟨as, ra⟩ := reads_ints (h := s.heap) rv
    have room := line63
    refine PySem.W.max_tuple_data (I.ok.hd hc) ⟨o, e1, e2, m, e3⟩ (by simpa using ra) (alike_ints (ns := n :: ns)) (by rw [show (PyData.int n :: ns.map PyData.int) = (n :: ns).map PyData.int from rfl, depth_ints]; omega) fun i v h' tk bs _ hr hk => ?_
    rw [PySem.W.maxD_ints] at hr
    obtain ⟨t, rfl⟩ := int_reads hr
    obtain ⟨f1, f2⟩ := fold_max ns n
    exact ⟨.int _, H, I.kept hk, ⟨_, rfl⟩, q _ f1 f2⟩
theorem call_minT (hu : X.A.units + 100 < cLine) (hc : X.calm = true) : CallR X (.builtin "min") (fun xs H Q => ∃ p, ∃ ns : List Int, xs = [.ref p] ∧ SqT X.K H p (ns.map V.int) ∧ 0 < ns.length ∧ ∀ m, m ∈ ns → (∀ y, y ∈ ns → m ≤ y) → Q (.int m) H) := by
  intro pins s σ H vs us Q I r h
  obtain ⟨p, ns, rfl, hs, h0, q⟩ := h
  obtain ⟨its, rv, ⟨o, e1, e2, m, e3⟩, _⟩ := I.tuple hs
  rw [Vals.ref1 r]
  cases ns with
  | nil => simp at h0
  | cons n ns =>
    obtain ⟨as, ra⟩ := reads_ints (h := s.heap) rv
    have room := line63
    refine PySem.W.min_tuple_data (I.ok.hd hc) ⟨o, e1, e2, m, e3⟩ (by simpa using ra) (alike_ints (ns := n :: ns)) (by rw [show (PyData.int n :: ns.map PyData.int) = (n :: ns).map PyData.int from rfl, depth_ints]; omega) fun i v h' tk bs _ hr hk => ?_
    rw [PySem.W.minD_ints] at hr
    obtain ⟨t, rfl⟩ := int_reads hr
    obtain ⟨f1, f2⟩ := fold_min ns n
    exact ⟨.int _, H, I.kept hk, ⟨_, rfl⟩, q _ f1 f2⟩
theorem reps1 {d : D} {vs : List V} (h : Reps K H [d] vs) : ∃ v, vs = [v] ∧ Rep K H d v := by
  obtain ⟨v, r, rfl, h1, h2⟩ := h
  cases h2; exact ⟨v, rfl, h1⟩
theorem reps2 {d e : D} {vs : List V} (h : Reps K H [d, e] vs) : ∃ v u, vs = [v, u] ∧ Rep K H d v ∧ Rep K H e u := by
  obtain ⟨v, r, rfl, h1, h2⟩ := h
  obtain ⟨u, rfl, h3⟩ := reps1 h2
  exact ⟨v, u, rfl, h1, h3⟩
theorem reps3 {d e f : D} {vs : List V} (h : Reps K H [d, e, f] vs) : ∃ v u w, vs = [v, u, w] ∧ Rep K H d v ∧ Rep K H e u ∧ Rep K H f w := by
  obtain ⟨v, r, rfl, h1, h2⟩ := h
  obtain ⟨u, w, rfl, h3, h4⟩ := reps2 h2
  exact ⟨v, u, w, rfl, h1, h3, h4⟩
/-- the built-in function or type of a name -/
def Blt.fn : Blt → Value
  | .len => .builtin "len" | .int => .type "int" | .bool => .type "bool" | .abs => .builtin "abs" | .max => .builtin "max" | .min => .builtin "min" | .tuple => .type "tuple" | .isa _ => .builtin "isinstance" | .str => .type "str"
/-- also where an error is handled -/
def Blt.hotOk : Blt → Bool
  | .max => false | .min => false | _ => true
def rBlt (K : PySem.W.Frag) (b : Blt) : List V → Hp → VK → Prop := fun vs H Q => ∃ ds M, MemOk K H M ∧ Reps K H ds vs ∧ wBlt b ds M fun z => ∀ v H', Alc H H' → Rep K H' z v → Q v H'
theorem call_blt (hu : X.A.units + 100 < cLine) (b : Blt) (hc : b.hotOk = false → X.calm = true) (hb : ∀ t, b ≠ .isa t) : CallR X b.fn (rBlt X.K b) := by
  intro pins s σ H vs us Q I r h
  obtain ⟨ds, M, m, hr, w⟩ := h
  unfold wBlt at w
  split at w
  · obtain ⟨v, rfl, p, ys, rfl, h1, h2⟩ := reps1 hr
    exact call_len pins s σ H _ us Q I r ⟨_, _, rfl, .inr ⟨ys, h1, rfl⟩, w _ _ Alc.refl (by rw [h2.length]; rfl)⟩
  · obtain ⟨v, rfl, h1⟩ := reps1 hr
    cases h1
    exact call_len pins s σ H _ us Q I r ⟨_, _, rfl, ⟨w.1, rfl⟩, w.2 _ _ Alc.refl rfl⟩
  · obtain ⟨v, rfl, h1⟩ := reps1 hr
    cases h1
    obtain ⟨xs, e, w⟩ := w
    obtain ⟨ys, h1, h2⟩ := m _ _ e
    exact call_len pins s σ H _ us Q I r ⟨_, _, rfl, .inl ⟨ys, SqL.of h1, rfl⟩, w _ _ Alc.refl (by rw [h2.length]; rfl)⟩
  · obtain ⟨v, rfl, h1⟩ := reps1 hr
    cases h1
    exact call_int1 pins s σ H _ us Q I r (.inl ⟨_, rfl, w _ _ Alc.refl rfl⟩)
  · obtain ⟨v, rfl, h1⟩ := reps1 hr
    cases h1
    exact call_int1 pins s σ H _ us Q I r (.inr ⟨_, rfl, w _ _ Alc.refl rfl⟩)
  · obtain ⟨v, rfl, h1⟩ := reps1 hr
    cases h1
    exact call_bool1 pins s σ H _ us Q I r (.inr ⟨_, rfl, w _ _ Alc.refl rfl⟩)
  · obtain ⟨v, rfl, h1⟩ := reps1 hr
    cases h1
    exact call_bool1 pins s σ H _ us Q I r (.inl ⟨_, rfl, w _ _ Alc.refl rfl⟩)
  · obtain ⟨v, rfl, h1⟩ := reps1 hr
    cases h1
    exact call_abs pins s σ H _ us Q I r ⟨_, rfl, w _ _ Alc.refl rfl⟩
  · obtain ⟨v, v2, rfl, h1, h2⟩ := reps2 hr
    cases h1; cases h2
    refine call_max2 (hc rfl) pins s σ H _ us Q I r ⟨_, _, rfl, w _ _ Alc.refl ?_⟩
    show V.int _ = V.int _
    congr 1; split <;> omega
  · obtain ⟨v, v2, v3, rfl, h1, h2, h3⟩ := reps3 hr
    cases h1; cases h2; cases h3
    exact call_max3 (hc rfl) pins s σ H _ us Q I r ⟨_, _, _, rfl, w _ _ Alc.refl rfl⟩
  · obtain ⟨v, v2, rfl, h1, h2⟩ := reps2 hr
    cases h1; cases h2
    refine call_min2 (hc rfl) pins s σ H _ us Q I r ⟨_, _, rfl, w _ _ Alc.refl ?_⟩
    show V.int _ = V.int _
    congr 1; split <;> omega
  · obtain ⟨v, rfl, h1⟩ := reps1 hr
    obtain ⟨p, ys, rfl, h1, h2⟩ := h1
    obtain ⟨ns, rfl, h0, w⟩ := w
    exact call_maxT hu (hc rfl) pins s σ H _ us Q I r ⟨p, ns, rfl, by rw [← ints_rep h2]; exact h1, h0, fun m a b => w m a b _ _ Alc.refl rfl⟩
  · obtain ⟨v, rfl, h1⟩ := reps1 hr
    obtain ⟨p, ys, rfl, h1, h2⟩ := h1
    obtain ⟨ns, rfl, h0, w⟩ := w
    exact call_minT hu (hc rfl) pins s σ H _ us Q I r ⟨p, ns, rfl, by rw [← ints_rep h2]; exact h1, h0, fun m a b => w m a b _ _ Alc.refl rfl⟩
  · obtain ⟨v, rfl, h1⟩ := reps1 hr
    obtain ⟨p, ys, rfl, h1, h2⟩ := h1
    exact call_tupleT pins s σ H _ us Q I r ⟨_, _, rfl, h1, w _ _ Alc.refl ⟨p, ys, rfl, h1, h2⟩⟩
  · obtain ⟨v, rfl, h1⟩ := reps1 hr
    cases h1
    obtain ⟨xs, e, w⟩ := w
    obtain ⟨ys, h1, h2⟩ := m _ _ e
    exact call_tuple_of pins s σ H _ us Q I r ⟨_, ys, rfl, .inl ⟨SqL.of h1, fun l hl => w _ _ (Alc.new hl) ⟨l, ys, rfl, SqT.of L2.upd_same, h2.mono (Alc.new hl).tm⟩⟩⟩
  · exact absurd rfl (hb _)
  · exact absurd rfl (hb _)
  · exact absurd rfl (hb _)
  · obtain ⟨v, rfl, h1⟩ := reps1 hr
    cases h1
    exact call_str_int pins s σ H _ us Q I r ⟨_, rfl, w.1, w.2 _ _ Alc.refl rfl⟩
  · exact w.elim
theorem je_blt (hF : FMono F) (b : Blt) {es : IEs} {e : Expr} {t : TE} (h : PE X e t) (ht : ∀ σ H Q, liftA X.K RX W (wEs F es) σ H (fun vs H1 => rBlt X.K b vs H1 Q) → t σ H Q) : PE X e (liftE X.K RX W (wE F (.blt b es))) :=
  PE.imp h fun σ H Q ⟨env, M, s, h⟩ => ht σ H Q ⟨env, M, s, wEs_mono hF es (fun ds M1 q vs H1 x1 s1 r1 => ⟨ds, M1, s1.mem, r1, wBlt_mono (fun z q v H' a r => (q.go x1).alc s1 a r) q⟩) (fun _ _ q => q) h⟩
/-- isinstance -/
def Ty.nm : Ty → String
  | .int => "int" | .bool => "bool" | .str => "str" | .tuple => "tuple" | .list => "list"
theorem kit_all : ∀ t : Ty, kitB "NoneType" t.nm = some false ∧ kitB "bool" t.nm = some (D.isa (.bl true) t) ∧ kitB "int" t.nm = some (D.isa (.int 0) t) ∧ kitB "str" t.nm = some (D.isa (.str ⟨#[]⟩) t) ∧ kitB "tuple" t.nm = some (D.isa (.tup []) t) ∧
    kitB "list" t.nm = some (match t with | .list => true | _ => false) := by
  intro t; cases t <;> decide +kernel
theorem call_isinst (t : Ty) : CallR X (.builtin "isinstance") (fun xs H Q => ∃ x d M, xs = [x, .ty t.nm] ∧ MemOk X.K H M ∧ Rep X.K H d x ∧ wBlt (.isa t) [d] M fun z => ∀ v, Rep X.K H z v → Q v H) := by
  intro pins s σ H vs us Q I r h
  obtain ⟨x, d, M, rfl, m, hr, w⟩ := h
  have k := kit_all t
  have go : ∀ {T : String} {b : Bool}, TyX X.K H x (.type T) → kitB T t.nm = some b → Q (.bl b) H → wpAny (model X.prog X.w) X.A (call (.builtin "isinstance") us) (EP X pins σ Q) X.xe s := fun ty kb q =>
    call_isi pins s σ H _ us Q I r ⟨x, _, _, _, _, rfl, .ty _, ty, kit_ty kb, q⟩
  cases d with
  | non => cases hr; exact go (.base .non) k.1 (w (.bl _) rfl)
  | bl b =>
    cases hr
    refine go (.base (.bl b)) (b := D.isa (.bl b) t) ?_ (w (.bl _) rfl)
    rw [k.2.1]; cases t <;> rfl
  | int i =>
    cases hr
    refine go (.base (.int i)) (b := D.isa (.int i) t) ?_ (w (.bl _) rfl)
    rw [k.2.2.1]; cases t <;> rfl
  | str i =>
    cases hr
    refine go (.base (.str i)) (b := D.isa (.str i) t) ?_ (w (.bl _) rfl)
    rw [k.2.2.2.1]; cases t <;> rfl
  | tup ds =>
    obtain ⟨p, ys, rfl, h1, h2⟩ := hr
    have kb : kitB "tuple" t.nm = some (D.isa (.tup ds) t) := by rw [k.2.2.2.2.1]; cases t <;> rfl
    rcases h1 with (h1 | ⟨o, h1⟩) | ⟨o, its, n, h1, hc, _⟩
    · exact go (.base (.tup h1)) kb (w (.bl _) rfl)
    · exact go (.fTuple h1) kb (w (.bl _) rfl)
    · exact go (.kTuple h1 hc) kb (w (.bl _) rfl)
  | ref a =>
    cases hr
    obtain ⟨⟨xs, e⟩, w⟩ := w
    obtain ⟨ys, h1, h2⟩ := m _ _ e
    exact go (.base (.lst h1)) k.2.2.2.2.2 (w (.bl _) rfl)
  | rl xs => exact w.elim
end
end DL
/-! Soundness: lists, comprehensions, what is walked. -/
namespace DL
open PySem PySem.Spec PyProof.Rows L2
section
variable {X : Cx} {RX : RXT} {W : WX} {F : FS}
variable {K : PySem.W.Frag} {σ : L2.St} {H H1 H2 : Hp} {env : Env} {M M1 M2 : Mem} {Q : VK}
abbrev W0 : WX := fun _ _ _ _ => False
/-! ### lists that are read -/
theorem jl_new {e : Expr} {n : IN} (h : PE X e (liftN X.K RX W (wN F n))) (hF : FMono F) : PE X e (liftL X.K RX W (wL F (.new n))) :=
  PE.imp h fun σ H Q ⟨env, M, s, h⟩ => ⟨env, M, s, wN_mono hF n (fun xs M1 q p vs H1 x1 s1 hp r hM _ _ => q p vs H1 x1 s1 (SqL.of hp) r) (fun _ _ q => q) h⟩
theorem jl_own {i : Nat} {x : Str} {pos : Pos} (hN : X.N[i]? = some x) (hv : Vis X.env.scope x) (hd : (x == ("__debug__" : Str)) = false) (hcd : (x == ("__classdict__" : Str)) = false) :
    PE X (.Name x pos) (liftL X.K RX W (wL F (.own i))) :=
  PE.imp (pe_var (i := i) hN hv hd hcd) fun σ H Q ⟨env, M, s, p, xs, e, q⟩ => by
    obtain ⟨h1, ⟨vs, h2, h3⟩, h4⟩ := s.owns i p _ e
    exact ⟨_, h1, q p vs H Ext.refl s (SqL.of h2) h3⟩
theorem jl_ref (hF : FMono F) {e : Expr} {ie : IE} (h : PE X e (liftE X.K RX W (wE F ie))) : PE X e (liftL X.K RX W (wL F (.ref ie))) :=
  PE.imp h fun σ H Q ⟨env, M, s, h⟩ => ⟨env, M, s, wE_mono hF ie (fun d M1 q v H1 x1 s1 r1 => by
    obtain ⟨a, xs, rfl, e, q⟩ := q
    cases r1
    obtain ⟨vs, h2, h3⟩ := s1.mem _ _ e
    exact q a vs H1 x1 s1 (SqL.of h2) h3) (fun _ _ q => q) h⟩
/-- a new list goes into the memory -/
theorem je_mk (hF : FMono F) {e : Expr} {n : IN} (h : PE X e (liftN X.K RX W (wN F n))) : PE X e (liftE X.K RX W (wE F (.mk n))) :=
  PE.imp h fun σ H Q ⟨env, M, s, h⟩ => ⟨env, M, s, wN_mono hF n (fun xs M1 q p vs H1 x1 s1 hp r hM hf no => by
    refine q p hM _ _ (fun a o e n k => ?_) (s1.put hp r hM no) rfl
    obtain ⟨e1, e2⟩ := x1 a o e n k
    refine ⟨e1, ?_⟩
    rw [upd_other (fun z => by subst z; rw [hf n] at e; cases e)]
    exact e2) (fun _ _ q => q) h⟩
/-- what takes a list -/
def LK.fn : LK → Value
  | .tuple => .type "tuple" | .all => .builtin "all" | .any => .builtin "any" | .len => .builtin "len" | .sum => .builtin "sum" | .max => .builtin "max" | .min => .builtin "min"
def rLK (K : PySem.W.Frag) (k : LK) : List V → Hp → VK → Prop := fun vs H Q => ∃ p us xs, vs = [.ref p] ∧ SqL K H p us ∧ Reps K H xs us ∧ wLK k xs fun z => ∀ v H', Alc H H' → Rep K H' z v → Q v H'
theorem bls_of : ∀ {xs : List D} {us : List V} {b : Bool}, Reps K H xs us → allBl xs = some b → ∃ bs : List Bool, us = bs.map V.bl ∧ bs.all id = b
  | [], us, b, r, h => by cases r; cases h; exact ⟨[], rfl, rfl⟩
  | d :: xs, us, b, r, h => by
    obtain ⟨v, us', rfl, h1, h2⟩ := r
    cases d with
    | bl c =>
      cases h1
      simp only [allBl, Option.map_eq_some_iff] at h
      obtain ⟨b', e, rfl⟩ := h
      obtain ⟨bs, rfl, e2⟩ := bls_of h2 e
      exact ⟨c :: bs, rfl, by simp [e2]⟩
    | _ => simp [allBl] at h
theorem anys_of : ∀ {xs : List D} {us : List V} {b : Bool}, Reps K H xs us → anyBl xs = some b → ∃ bs : List Bool, us = bs.map V.bl ∧ bs.any id = b
  | [], us, b, r, h => by cases r; cases h; exact ⟨[], rfl, rfl⟩
  | d :: xs, us, b, r, h => by
    obtain ⟨v, us', rfl, h1, h2⟩ := r
    cases d with
    | bl c =>
      cases h1
      simp only [anyBl, Option.map_eq_some_iff] at h
      obtain ⟨b', e, rfl⟩ := h
      obtain ⟨bs, rfl, e2⟩ := anys_of h2 e
      exact ⟨c :: bs, rfl, by simp [e2]⟩
    | _ => simp [anyBl] at h
theorem ints_of : ∀ {xs : List D} {us : List V} {b : Int}, Reps K H xs us → sumD xs = some b → ∃ bs : List Int, us = bs.map V.int ∧ bs.sum = b
  | [], us, b, r, h => by cases r; cases h; exact ⟨[], rfl, rfl⟩
  | d :: xs, us, b, r, h => by
    obtain ⟨v, us', rfl, h1, h2⟩ := r
    cases d with
    | int c =>
      cases h1
      simp only [sumD, Option.map_eq_some_iff] at h
      obtain ⟨b', e, rfl⟩ := h
      obtain ⟨bs, rfl, e2⟩ := ints_of h2 e
      exact ⟨c :: bs, rfl, by simp [e2]⟩
    | _ => simp [sumD] at h
theorem ints_reps : ∀ {ns : List Int} {us : List V}, Reps K H (ns.map D.int) us → us = ns.map V.int
  | [], us, r => r
  | y :: ys, us, r => by
    obtain ⟨v, us', rfl, h1, h2⟩ := r
    rw [ints_reps h2]
    cases h1
    rfl
def LK.hotOk : LK → Bool
  | .tuple => true | .len => true | _ => false
theorem call_lk (k : LK) (hc : k.hotOk = false → X.calm = true) : CallR X k.fn (rLK X.K k) := by
  intro pins s σ H vs us Q I r h
  obtain ⟨p, us', xs, rfl, hs, hr, w⟩ := h
  cases k with
  | tuple => exact call_tuple_of pins s σ H _ us Q I r ⟨p, us', rfl, .inl ⟨hs, fun l hl => w _ _ (Alc.new hl) ⟨l, us', rfl, SqT.of L2.upd_same, hr.mono (Alc.new hl).tm⟩⟩⟩
  | len => exact call_len pins s σ H _ us Q I r ⟨_, _, rfl, .inl ⟨us', hs, rfl⟩, w _ _ Alc.refl (by rw [hr.length]; rfl)⟩
  | all =>
    obtain ⟨b, e, w⟩ := w
    obtain ⟨bs, rfl, e2⟩ := bls_of hr e
    exact cr_all (hc rfl) pins s σ H _ us Q I r ⟨p, bs, rfl, hs, by rw [e2]; exact w _ _ Alc.refl rfl⟩
  | any =>
    obtain ⟨b, e, w⟩ := w
    obtain ⟨bs, rfl, e2⟩ := anys_of hr e
    exact cr_any (hc rfl) pins s σ H _ us Q I r ⟨p, bs, rfl, hs, by rw [e2]; exact w _ _ Alc.refl rfl⟩
  | sum =>
    obtain ⟨b, e, w⟩ := w
    obtain ⟨bs, rfl, e2⟩ := ints_of hr e
    exact cr_sum (hc rfl) pins s σ H _ us Q I r ⟨p, bs, rfl, hs, by rw [e2]; exact w _ _ Alc.refl rfl⟩
  | max =>
    obtain ⟨ns, rfl, h0, w⟩ := w
    have e := ints_reps hr
    subst e
    exact cr_max (hc rfl) pins s σ H _ us Q I r ⟨p, ns, rfl, hs, h0, fun m h1 h2 => w m h1 h2 _ _ Alc.refl rfl⟩
  | min =>
    obtain ⟨ns, rfl, h0, w⟩ := w
    have e := ints_reps hr
    subst e
    exact cr_min (hc rfl) pins s σ H _ us Q I r ⟨p, ns, rfl, hs, h0, fun m h1 h2 => w m h1 h2 _ _ Alc.refl rfl⟩
theorem je_lk (hF : FMono F) (k : LK) {l : IL} {e e' : Expr} {t : TE} (h : PE X e t) (ht : ∀ σ H Q, (liftL X.K RX W (wL F l) σ H fun x H1 => rLK X.K k [x] H1 Q) → t σ H Q) : PE X e (liftE X.K RX W (wE F (.lk k l))) :=
  PE.imp h fun σ H Q ⟨env, M, s, h⟩ => ht σ H Q ⟨env, M, s, wL_mono hF l (fun xs M1 q p us H1 x1 s1 hs r => ⟨p, us, xs, rfl, hs, r, wLK_mono (fun z q v H' a r => (q.go x1).alc s1 a r) q⟩) (fun _ _ q => q) h⟩
/-! ### targets -/
theorem StE.setVal {i : Nat} {d : D} {v : V} (s : StE K σ H env M) (r : Rep K H d v) : StE K (σ.set i (some v)) H (env.set i (.val d)) M where
  len := by simp [s.len]
  vals := fun j e h => by
    by_cases hj : j = i
    · subst hj
      by_cases hl : j < env.length
      · rw [List.getElem?_set_self hl] at h
        cases h
        exact ⟨v, by rw [List.getElem?_set_self (s.len ▸ hl)], r⟩
      · rw [List.getElem?_eq_none (by simpa using Nat.not_lt.mp hl)] at h; cases h
    · rw [List.getElem?_set_ne (Ne.symm hj)] at h
      obtain ⟨u, h1, h2⟩ := s.vals j e h
      exact ⟨u, by rw [List.getElem?_set_ne (Ne.symm hj)]; exact h1, h2⟩
  owns := fun j p o h => by
    by_cases hj : j = i
    · subst hj
      by_cases hl : j < env.length
      · rw [List.getElem?_set_self hl] at h; cases h
      · rw [List.getElem?_eq_none (by simpa using Nat.not_lt.mp hl)] at h; cases h
    · rw [List.getElem?_set_ne (Ne.symm hj)] at h
      obtain ⟨h1, h2, h3⟩ := s.owns j p o h
      exact ⟨by rw [List.getElem?_set_ne (Ne.symm hj)]; exact h1, h2, h3⟩
  inj := fun j k p o o' h h' => by
    have go : ∀ (j : Nat) p o, (env.set i (.val d))[j]? = some (.own p o) → env[j]? = some (Slot.own p o) := fun j p o h => by
      by_cases hj : j = i
      · subst hj
        by_cases hl : j < env.length
        · rw [List.getElem?_set_self hl] at h; cases h
        · rw [List.getElem?_eq_none (by simpa using Nat.not_lt.mp hl)] at h; cases h
      · rw [List.getElem?_set_ne (Ne.symm hj)] at h; exact h
    exact s.inj j k p o o' (go _ _ _ h) (go _ _ _ h')
  mem := s.mem
  excs := fun j a cl d' x h => by
    by_cases hj : j = i
    · subst hj
      by_cases hl : j < env.length
      · rw [List.getElem?_set_self hl] at h; cases h
      · rw [List.getElem?_eq_none (by simpa using Nat.not_lt.mp hl)] at h; cases h
    · rw [List.getElem?_set_ne (Ne.symm hj)] at h
      obtain ⟨h1, h2⟩ := s.excs j a cl d' x h
      exact ⟨by rw [List.getElem?_set_ne (Ne.symm hj)]; exact h1, h2⟩
theorem StE.setNo {i : Nat} {v : Option V} (s : StE K σ H env M) : StE K (σ.set i v) H (env.set i .no) M where
  len := by simp [s.len]
  vals := fun j e h => by
    by_cases hj : j = i
    · subst hj
      by_cases hl : j < env.length
      · rw [List.getElem?_set_self hl] at h; cases h
      · rw [List.getElem?_eq_none (by simpa using Nat.not_lt.mp hl)] at h; cases h
    · rw [List.getElem?_set_ne (Ne.symm hj)] at h
      obtain ⟨u, h1, h2⟩ := s.vals j e h
      exact ⟨u, by rw [List.getElem?_set_ne (Ne.symm hj)]; exact h1, h2⟩
  owns := fun j p o h => by
    by_cases hj : j = i
    · subst hj
      by_cases hl : j < env.length
      · rw [List.getElem?_set_self hl] at h; cases h
      · rw [List.getElem?_eq_none (by simpa using Nat.not_lt.mp hl)] at h; cases h
    · rw [List.getElem?_set_ne (Ne.symm hj)] at h
      obtain ⟨h1, h2, h3⟩ := s.owns j p o h
      exact ⟨by rw [List.getElem?_set_ne (Ne.symm hj)]; exact h1, h2, h3⟩
  inj := fun j k p o o' h h' => by
    have go : ∀ (j : Nat) p o, (env.set i .no)[j]? = some (.own p o) → env[j]? = some (Slot.own p o) := fun j p o h => by
      by_cases hj : j = i
      · subst hj
        by_cases hl : j < env.length
        · rw [List.getElem?_set_self hl] at h; cases h
        · rw [List.getElem?_eq_none (by simpa using Nat.not_lt.mp hl)] at h; cases h
      · rw [List.getElem?_set_ne (Ne.symm hj)] at h; exact h
    exact s.inj j k p o o' (go _ _ _ h) (go _ _ _ h')
  mem := s.mem
  excs := fun j a cl d' x h => by
    by_cases hj : j = i
    · subst hj
      by_cases hl : j < env.length
      · rw [List.getElem?_set_self hl] at h; cases h
      · rw [List.getElem?_eq_none (by simpa using Nat.not_lt.mp hl)] at h; cases h
    · rw [List.getElem?_set_ne (Ne.symm hj)] at h
      obtain ⟨h1, h2⟩ := s.excs j a cl d' x h
      exact ⟨by rw [List.getElem?_set_ne (Ne.symm hj)]; exact h1, h2⟩
theorem StE.wipe : ∀ {vs : List Nat}, StE K σ H env M → StE K (L2.wipe σ vs) H (wipeE env vs) M
  | [], s => s
  | v :: vs, s => (StE.wipe (vs := vs) s).setNo
theorem own_set {e : Env} {i j : Nat} {d : D} {p : Nat} {o : MO} (h : (e.set i (.val d))[j]? = some (.own p o)) : e[j]? = some (.own p o) ∧ j ≠ i := by
  by_cases hj : j = i
  · subst hj
    by_cases hl : j < e.length
    · rw [List.getElem?_set_self hl] at h; cases h
    · rw [List.getElem?_eq_none (by simpa using Nat.not_lt.mp hl)] at h; cases h
  · rw [List.getElem?_set_ne (Ne.symm hj)] at h; exact ⟨h, hj⟩
theorem own_setNo {e : Env} {i j : Nat} {p : Nat} {o : MO} (h : (e.set i .no)[j]? = some (.own p o)) : e[j]? = some (.own p o) ∧ j ≠ i := by
  by_cases hj : j = i
  · subst hj
    by_cases hl : j < e.length
    · rw [List.getElem?_set_self hl] at h; cases h
    · rw [List.getElem?_eq_none (by simpa using Nat.not_lt.mp hl)] at h; cases h
  · rw [List.getElem?_set_ne (Ne.symm hj)] at h; exact ⟨h, hj⟩
theorem wipe_own {e : Env} {j : Nat} {p : Nat} {o : MO} : ∀ {vs : List Nat}, (wipeE e vs)[j]? = some (.own p o) ↔ e[j]? = some (.own p o) ∧ j ∉ vs
  | [] => by simp [wipeE]
  | v :: vs => by
    constructor
    · intro h
      obtain ⟨h1, h2⟩ := own_setNo h
      obtain ⟨h3, h4⟩ := wipe_own.mp h1
      exact ⟨h3, by simp [h2, h4]⟩
    · rintro ⟨h1, h2⟩
      have h3 : j ≠ v ∧ j ∉ vs := by simpa using h2
      show ((wipeE e vs).set v .no)[j]? = _
      rw [List.getElem?_set_ne (Ne.symm h3.1)]
      exact wipe_own.mpr ⟨h1, h3.2⟩
/-- the target leaves what a list is alone, or writes over it -/
structure Kp (is : List Nat) (env e : Env) : Prop where
  len : e.length = env.length
  own : ∀ (j : Nat) p o, e[j]? = some (.own p o) → env[j]? = some (.own p o) ∧ j ∉ is
  out : ∀ j, j ∉ is → e[j]? = env[j]?
theorem Kp.set {i : Nat} {d : D} : Kp [i] env (env.set i (.val d)) where
  len := by simp
  own := fun j p o h => by obtain ⟨h1, h2⟩ := own_set h; exact ⟨h1, by simpa using h2⟩
  out := fun j h => List.getElem?_set_ne (by simpa using fun z => h (by simp [z]))
theorem Kp.setAll : ∀ {is : List Nat} {ds : List D} {env : Env}, is.length = ds.length → Kp is env (setAll env is ds)
  | [], [], env, _ => ⟨rfl, fun j p o h => ⟨h, by simp⟩, fun _ _ => rfl⟩
  | i :: is, d :: ds, env, h => by
    have k := Kp.setAll (is := is) (ds := ds) (env := env.set i (.val d)) (by simpa using h)
    refine ⟨by rw [DL.setAll, k.len]; simp, fun j p o h => ?_, fun j h => ?_⟩
    · obtain ⟨h1, h2⟩ := k.own j p o h
      obtain ⟨h3, h4⟩ := own_set h1
      exact ⟨h3, by simp [h4, h2]⟩
    · have h' : j ≠ i ∧ j ∉ is := by simpa using h
      show (DL.setAll (env.set i (.val d)) is ds)[j]? = _
      rw [k.out j h'.2, List.getElem?_set_ne (Ne.symm h'.1)]
theorem wTg_keep {t : Tg} {d : D} {R : Env → Prop} (h : wTg t d env R) : wTg t d env fun e => R e ∧ Kp t.slots env e := by
  unfold wTg at h ⊢
  split at h
  · exact ⟨h, Kp.set⟩
  · exact ⟨h.1, h.2, Kp.setAll h.1.symm⟩
  · rename_i i is d xs
    exact ⟨h.1, h.2, Kp.setAll (is := i :: is) (ds := d :: xs) (by simpa using h.1.symm)⟩
  · exact h.elim
/-- back out of a comprehension's block -/
theorem StE.unblk {is : List Nat} {e : Env} {σ' : L2.St} (s : StE K σ H env M) (k : Kp is (wipeE env is) e) (x : Ext e H M H1 M1) (s1 : StE K σ' H1 e M1) (t : Tm K H H1) : StE K σ H1 env M1 where
  len := s.len
  vals := fun i d h => by obtain ⟨v, h1, h2⟩ := s.vals i d h; exact ⟨v, h1, h2.mono t⟩
  owns := fun i p o h => by
    obtain ⟨h1, h2, h3⟩ := s.owns i p o h
    by_cases hi : i ∈ is
    · have no : ∀ (j : Nat) q o', e[j]? = some (.own q o') → q ≠ p := fun j q o' e1 z => by
        subst z
        obtain ⟨e2, e3⟩ := k.own j q o' e1
        have e4 := (wipe_own.mp e2).1
        have := s.inj i j q o o' h e4
        subst this; exact e3 hi
      have hx : ∀ u, H p = some u → H1 p = some u ∧ M1 p = none := fun u hu => x p u hu h3 no
      refine ⟨h1, h2.step (fun u hu => (hx u hu).1) t, ?_⟩
      cases e5 : H p with
      | none => exact absurd e5 h2.notTup.2.2
      | some u => exact (hx u e5).2
    · have : e[i]? = some (.own p o) := by rw [k.out i hi]; exact wipe_own.mpr ⟨h, hi⟩
      obtain ⟨_, h5, h6⟩ := s1.owns i p o this
      exact ⟨h1, h5, h6⟩
  inj := s.inj
  mem := s1.mem
  excs := s.excsStep (fun a kvs e => (x a _ e (by
    cases q : M a with
    | none => rfl
    | some o => exact absurd e ((s.mem a o q).notXd kvs)) (fun j q o' e1 z => by
      subst z
      exact (s.owns j q o' (wipe_own.mp (k.own j q o' e1).1).1).2.1.notXd kvs e)).1) t
/-- what is foreign to the block's surroundings is foreign to the block -/
theorem Ext.unblk {is : List Nat} {e : Env} (k : Kp is (wipeE env is) e) (x : Ext e H M H1 M1) : Ext env H M H1 M1 := fun a o h n no =>
  x a o h n fun j q o' e1 => no j q o' (wipe_own.mp (k.own j q o' e1).1).1
/-- a target and how it binds -/
structure GOk (X : Cx) (t : Tg) (tg : Expr) (g : TG) : Prop where
  pg : PG X tg g
  go : ∀ {d : D} {v : V} {σ : L2.St} {H : Hp} {env : Env} {M : Mem} {Q : L2.St → Hp → Prop}, StE X.K σ H env M → Rep X.K H d v →
    wTg t d env (fun e => ∀ σ', StE X.K σ' H e M → L2.wipe σ' t.slots = L2.wipe σ t.slots → Q σ' H) → g v σ H Q
theorem wipe_set {σ : L2.St} {i : Nat} {v : Option V} : ∀ {vs : List Nat}, i ∈ vs → L2.wipe (σ.set i v) vs = L2.wipe σ vs
  | w :: vs, h => by
    show (L2.wipe (σ.set i v) vs).set w none = (L2.wipe σ vs).set w none
    by_cases hi : i ∈ vs
    · rw [wipe_set hi]
    · have hw : i = w := by
        rcases List.mem_cons.mp h with z | z
        · exact z
        · exact absurd z hi
      subst hw
      refine List.ext_getElem? fun j => ?_
      by_cases hj : j = i
      · subst hj
        by_cases hl : j < σ.length
        · rw [List.getElem?_set_self (by rw [wipe_length]; simpa using hl), List.getElem?_set_self (by rw [wipe_length]; exact hl)]
        · rw [List.getElem?_eq_none (by simp [wipe_length]; omega), List.getElem?_eq_none (by simp [wipe_length]; omega)]
      · rw [List.getElem?_set_ne (Ne.symm hj), List.getElem?_set_ne (Ne.symm hj)]
        have : ∀ vs : List Nat, (L2.wipe (σ.set i v) vs)[j]? = (L2.wipe σ vs)[j]? := fun vs => by
          induction vs with
          | nil => exact List.getElem?_set_ne (Ne.symm hj)
          | cons u us ih =>
            show ((L2.wipe (σ.set i v) us).set u none)[j]? = ((L2.wipe σ us).set u none)[j]?
            by_cases hju : j = u
            · subst hju
              by_cases hl : j < σ.length
              · rw [List.getElem?_set_self (by rw [wipe_length]; simpa using hl), List.getElem?_set_self (by rw [wipe_length]; exact hl)]
              · rw [List.getElem?_eq_none (by simp [wipe_length]; omega), List.getElem?_eq_none (by simp [wipe_length]; omega)]
            · rw [List.getElem?_set_ne (Ne.symm hju), List.getElem?_set_ne (Ne.symm hju)]; exact ih
        exact this vs
theorem g_nm {i : Nat} {x : Str} {pos : Pos} (hN : X.N.Nodup) (hi : X.N[i]? = some x) (hx : Loc X.env.scope x) (hf : X.fn x = true ∨ X.env.scope.names.lookup x = some .local) : GOk X (.nm i) (.Name x pos) (gName i) :=
  ⟨pg_name hN hi hx hf, fun s r w => w _ (s.setVal r) (wipe_set (by simp [Tg.slots]))⟩
/-- several names -/
def gNames : List Nat → TGs
  | [] => gNil
  | i :: is => gCons (gName i) (gNames is)
theorem gNames_go : ∀ {is : List Nat} {ds : List D} {vs : List V} {σ : L2.St} {env : Env} {Q : L2.St → Hp → Prop} {js : List Nat}, StE K σ H env M → Reps K H ds vs → ds.length = is.length → (∀ i ∈ is, i ∈ js) →
    (∀ σ', StE K σ' H (setAll env is ds) M → L2.wipe σ' js = L2.wipe σ js → Q σ' H) → gNames is vs σ H Q
  | [], [], vs, σ, env, Q, js, s, r, _, _, w => by cases r; exact ⟨rfl, w σ s rfl⟩
  | i :: is, d :: ds, vs, σ, env, Q, js, s, r, h, hj, w => by
    obtain ⟨v, r', rfl, h1, h2⟩ := r
    refine ⟨v, r', rfl, gNames_go (js := js) (s.setVal h1) h2 (by simpa using h) (fun k hk => hj k (List.mem_cons_of_mem _ hk)) fun σ' s' e => w σ' s' ?_⟩
    rw [e]; exact wipe_set (hj i (List.mem_cons_self))
theorem g_tp (hc : X.calm = true) {is : List Nat} {es : List Expr} {k : Nat} {pos : Pos} (h : PGs X es (gNames is)) (hn : (assignEach es X.env).length = is.length) (hst : (assignEach es X.env).findIdx? (·.1) = none) :
    GOk X (.tp is) (.Tuple es k pos) (gTup X.K is.length (gNames is)) :=
  ⟨pg_tup hc h hn hst, fun {d v σ H env M Q} s r w => by
    cases d with
    | tup xs =>
      obtain ⟨a, vs, rfl, h1, h2⟩ := r
      have w1 : xs.length = is.length := w.1
      exact ⟨a, vs, rfl, h1, by rw [← h2.length]; exact w1, gNames_go s h2 w1 (fun _ h => h) w.2⟩
    | _ => exact w.elim⟩
theorem g_np (hc : X.calm = true) {i : Nat} {x : Str} {is : List Nat} {es : List Expr} {k k2 : Nat} {px p2 pos : Pos} (h1 : PG X (.Name x px) (gName i)) (h : PGs X es (gNames is)) (hn : (assignEach es X.env).length = is.length) (hst : (assignEach es X.env).findIdx? (·.1) = none) :
    GOk X (.np i is) (.Tuple [.Name x px, .Tuple es k2 p2] k pos) (gTup X.K 2 (gCons (gName i) (gCons (gTup X.K is.length (gNames is)) gNil))) :=
  ⟨pg_tup hc (pgs_cons h1 (pgs_cons (pg_tup hc h hn hst) pgs_nil rfl) rfl) rfl rfl, fun {d v σ H env M Q} s r w => by
    unfold wTg at w
    split at w
    · rename_i e; cases e
    · rename_i e; cases e
    · rename_i i' is' d' xs e1
      cases e1
      obtain ⟨a, vs, rfl, g1, g2⟩ := r
      obtain ⟨v, u, rfl, r1, r2⟩ := reps2 g2
      obtain ⟨b, ws, rfl, g3, g4⟩ := r2
      refine ⟨a, _, rfl, g1, rfl, v, _, rfl, _, _, rfl, b, ws, rfl, g3, by rw [← g4.length]; exact w.1, ?_⟩
      exact gNames_go (js := i :: is) (s.setVal r1) g4 w.1 (fun k hk => List.mem_cons_of_mem _ hk) fun σ' s' e => ⟨rfl, w.2 σ' s' (by show L2.wipe σ' (i :: is) = L2.wipe σ (i :: is); rw [e]; exact wipe_set List.mem_cons_self)⟩
    · exact w.elim⟩
/-! ### what is walked -/
def YD (K : PySem.W.Frag) (xs : List D) : Nat → Hp → V → Hp → Prop := fun i H x H' => Alc H H' ∧ ∃ d, xs[i]? = some d ∧ Rep K H' d x
/-- a list, or a set that grows -/
def Grow (o : HO) : Prop := (∃ vs, o = .lst vs) ∨ ∃ φ, o = .ext φ
/-- the walk goes while what it needs stands -/
def Wk (K : PySem.W.Frag) (env : Env) (H : Hp) (M : Mem) (B : Addr → Prop) (J : It) (xs : List D) (ok : Env → Mem → Prop) : Prop :=
  ∃ G : Hp → Prop, Walk J xs.length G (YD K xs) ∧ ∀ H' σ' env' M', (∀ a o, H a = some o → M a = none → (∀ (i : Nat) q o', env[i]? = some (.own q o') → q ≠ a) → (Grow o → B a) → H' a = some o) → StE K σ' H' env' M' → ok env' M' → G H'
def liftI (K : PySem.W.Frag) (RX : RXT) (W : WX) (t : Env → Mem → (List D → (Env → Mem → Prop) → Mem → Prop) → QX → Prop) : TI := fun σ H R => ∃ env M, StE K σ H env M ∧
  t env M (fun xs ok M' => ∀ J H', Ext env H M H' M' → StE K σ H' env M' → Wk K env H' M' (fun a => M a = none → H a = none) J xs ok → R J H') (postX K RX W σ H env M)
theorem reps_yd {xs : List D} {vs : List V} {i : Nat} {x : V} (r : Reps K H xs vs) (h : vs[i]? = some x) : YD K xs i H x H := ⟨Alc.refl, r.get' h⟩
theorem tm_for (s : StE K σ H env M) {B : Addr → Prop} {H' : Hp} (k : ∀ a o, H a = some o → M a = none → (∀ (i : Nat) q o', env[i]? = some (.own q o') → q ≠ a) → (Grow o → B a) → H' a = some o) : Tm K H H' := by
  have go : ∀ a u, H a = some u → (∀ o, ¬ OOk K H a o) → ¬ Grow u → H' a = some u := fun a u e n nl => k a u e (by
    cases q : M a with
    | none => rfl
    | some o => exact absurd (s.mem a o q) (n o)) (fun i q o' e' z => by subst z; exact n o' (s.owns i q o' e').2.1) fun z => absurd z nl
  exact tm_mk (fun a vs h => go a _ h (fun o q => q.notTup.1 vs h) (fun z => by rcases z with ⟨_, z⟩ | ⟨_, z⟩ <;> cases z)) (fun a o vs h => go a _ h (fun o' q => q.notTup.2.1 o _ h) (fun z => by rcases z with ⟨_, z⟩ | ⟨_, z⟩ <;> cases z)) (fun a o vs h => go a _ h (fun o' q => q.notTup.2.1 o _ h) (fun z => by rcases z with ⟨_, z⟩ | ⟨_, z⟩ <;> cases z))
theorem wk_tup {B : Addr → Prop} {a : Addr} {vs : List V} {xs : List D} (s : StE K σ H env M) (h : SqT K H a vs) (r : Reps K H xs vs) : Wk K env H M B (Itt K a) xs fun _ _ => True := by
  refine ⟨fun H' => ∃ vs, SqT K H' a vs ∧ Reps K H' xs vs, ?_, fun H' σ' env' M' k s' _ => ⟨vs, (tm_for s k a vs).1 h, r.mono (tm_for s k)⟩⟩
  refine ⟨fun i H hi ⟨vs, h1, h2⟩ => ?_, fun H ⟨vs, h1, h2⟩ => ⟨vs, h1, by rw [h2.length]; exact Nat.le_refl _⟩, fun i H x H' hi ⟨vs, h1, h2⟩ ⟨e, y⟩ => ?_⟩
  · exact ⟨vs, vs[i]'(by rw [← h2.length]; exact hi), h1, List.getElem?_eq_getElem _⟩
  · subst e; exact reps_yd h2 (y vs h1)
theorem walk_lst {a : Addr} {xs : List D} : Walk (Itl K a) xs.length (fun H => ∃ vs, SqL K H a vs ∧ Reps K H xs vs) (YD K xs) := by
  refine ⟨fun i H hi ⟨vs, h1, h2⟩ => ?_, fun H ⟨vs, h1, h2⟩ => ⟨vs, h1, by rw [h2.length]; exact Nat.le_refl _⟩, fun i H x H' hi ⟨vs, h1, h2⟩ ⟨e, y⟩ => ?_⟩
  · exact ⟨vs, vs[i]'(by rw [← h2.length]; exact hi), h1, List.getElem?_eq_getElem _⟩
  · subst e; exact reps_yd h2 (y vs h1)
theorem wk_own {B : Addr → Prop} {i : Nat} {p : Nat} {xs : List D} : Wk K env H M B (Itl K p) xs fun env' _ => env'[i]? = some (.own p (.lst xs)) :=
  ⟨_, walk_lst, fun H' σ' env' M' _ s' e => by
    obtain ⟨_, ⟨vs, h1, h2⟩, _⟩ := s'.owns i p _ e
    exact ⟨vs, SqL.of h1, h2⟩⟩
theorem wk_ref {B : Addr → Prop} {a : Nat} {xs : List D} : Wk K env H M B (Itl K a) xs fun _ M' => M' a = some (.lst xs) :=
  ⟨_, walk_lst, fun H' σ' env' M' _ s' e => by
    obtain ⟨vs, h1, h2⟩ := s'.mem a _ e; exact ⟨vs, SqL.of h1, h2⟩⟩
theorem wk_rl {B : Addr → Prop} {a : Addr} {vs : List V} {xs : List D} (s : StE K σ H env M) (h : FzL K H a vs) (r : Reps K H xs vs) : Wk K env H M B (Itl K a) xs fun _ _ => True :=
  ⟨_, walk_lst, fun H' σ' env' M' k s' _ => ⟨vs, ((tm_for s k a vs).2 h).sq, r.mono (tm_for s k)⟩⟩
theorem wk_new {B : Addr → Prop} {p : Nat} {vs : List V} {xs : List D} (s : StE K σ H env M) (h : H p = some (.lst vs)) (r : Reps K H xs vs) (hM : M p = none) (no : ∀ (i : Nat) q o', env[i]? = some (.own q o') → q ≠ p) (hb : B p) : Wk K env H M B (Itl K p) xs fun _ _ => True :=
  ⟨_, walk_lst, fun H' σ' env' M' k s' _ => ⟨vs, SqL.of (k p _ h hM no fun _ => hb), r.mono (tm_for s k)⟩⟩
theorem wk_fn {B : Addr → Prop} {J : It} {n : Nat} {f : Nat → Int} (w : Walk J n (fun _ => True) (YFn fun i => .int (f i))) : Wk K env H M B J ((List.range n).map fun i => .int (f i)) fun _ _ => True :=
  ⟨fun _ => True, by
    have hl : ((List.range n).map fun i => D.int (f i)).length = n := by simp
    rw [hl]
    exact ⟨w.goes, w.stops, fun i H x H' hi g y => by
      obtain ⟨rfl, rfl⟩ := w.yields i H x H' hi g y
      exact ⟨Alc.refl, .int (f i), by simp [hi], rfl⟩⟩, fun _ _ _ _ _ _ _ => trivial⟩
def iDyn (K : PySem.W.Frag) (te : TE) : TI := fun σ H R => te σ H fun x H1 => (∃ a, x = .ref a ∧ (∃ xs, SqT K H1 a xs) ∧ R (Itt K a) H1) ∨ (∃ a, x = .ref a ∧ (∃ xs, SqL K H1 a xs) ∧ R (Itl K a) H1) ∨ ∃ z, x = .str z ∧ R (Its z) H1
theorem pi_dyn {tg e : Expr} {te : TE} (he : PE X e te) : PI X tg e (iDyn X.K te) := by
  refine ⟨fun pins s σ H R I h => thn (he.run pins s σ H _ I h) fun v s1 ⟨y, H1, I1, r1, q⟩ => ?_⟩
  rcases q with ⟨a, ex, ⟨xs, hq⟩, q⟩ | ⟨a, ex, ⟨xs, hq⟩, q⟩ | ⟨z, ex, q⟩
  · subst ex; cases r1
    obtain ⟨its, rv, pl, _⟩ := I1.tuple hq
    exact wpAny_pyIter_tuple (items := its.toArray) pl (pi_one (tk := s1.toks) I1 _ (turn_tuple a _) ⟨_, Heap.get?_push_size _ rfl, rfl, rfl⟩ q)
  · subst ex; cases r1
    obtain ⟨its, rv, pl, _⟩ := I1.list hq
    exact wpAny_pyIter_list pl.isList (pi_one (tk := s1.toks) I1 _ (turn_list a _) ⟨_, Heap.get?_push_size _ rfl, rfl, rfl⟩ q)
  · subst ex
    obtain ⟨t, rfl⟩ := r1
    cases ha : z.cps.all (· < 128) with
    | true => exact wpAny_pyIter_ascii ha (pi_one (tk := s1.toks) I1 _ (turn_str _ z t "str_ascii_iterator" (.inl rfl)) ⟨_, Heap.get?_push_size _ rfl, rfl, rfl⟩ q)
    | false => exact wpAny_pyIter_wide ha (pi_one (tk := s1.toks) I1 _ (turn_str _ z t "str_iterator" (.inr rfl)) ⟨_, Heap.get?_push_size _ rfl, rfl, rfl⟩ q)
theorem wk_str {B : Addr → Prop} {z : Str} : Wk K env H M B (Its z) (z.cps.toList.map fun c => D.str ⟨#[c]⟩) fun _ _ => True := by
  refine ⟨fun _ => True, ?_, fun _ _ _ _ _ _ _ => trivial⟩
  have hl : (z.cps.toList.map fun c => D.str ⟨#[c]⟩).length = z.cps.size := by simp
  rw [hl]
  exact ⟨walk_str.goes, walk_str.stops, fun i H x H' hi g y => by
    obtain ⟨rfl, c, e1, rfl⟩ := walk_str.yields i H x H' hi g y
    exact ⟨Alc.refl, .str ⟨#[c]⟩, by simp [e1], rfl⟩⟩
theorem ji_dyn (hF : FMono F) {tg e : Expr} {ie : IE} (h : PE X e (liftE X.K RX W (wE F ie))) : PI X tg e (liftI X.K RX W (wI F (.dyn ie))) :=
  PI.imp (pi_dyn h) fun σ H R ⟨env, M, s, h⟩ => ⟨env, M, s, wE_mono hF ie (fun d M1 q v H1 x1 s1 r1 => by
    cases d with
    | tup xs =>
      obtain ⟨a, vs, rfl, h1, h2⟩ := r1
      exact .inl ⟨a, rfl, ⟨vs, h1⟩, q _ H1 x1 s1 (wk_tup s1 h1 h2)⟩
    | rl xs =>
      obtain ⟨a, vs, rfl, h1, h2⟩ := r1
      exact .inr (.inl ⟨a, rfl, ⟨vs, h1.sq⟩, q _ H1 x1 s1 (wk_rl s1 h1 h2)⟩)
    | str z =>
      cases r1
      exact .inr (.inr ⟨z, rfl, q _ H1 x1 s1 wk_str⟩)
    | ref a =>
      cases r1
      obtain ⟨xs, e, q⟩ := q
      obtain ⟨vs, h2, h3⟩ := s1.mem _ _ e
      exact .inr (.inl ⟨a, rfl, ⟨vs, SqL.of h2⟩, q _ H1 x1 s1 wk_ref⟩)
    | _ => exact q.elim) (fun _ _ q => q) h⟩
theorem ji_new (hF : FMono F) {tg e : Expr} {n : IN} (h : PE X e (liftN X.K RX W (wN F n))) : PI X tg e (liftI X.K RX W (wI F (.new n))) :=
  PI.imp (pi_list h) fun σ H R ⟨env, M, s, h⟩ => ⟨env, M, s, wN_mono hF n (fun xs M1 q p vs H1 x1 s1 hp r hM nw no =>
    ⟨p, rfl, ⟨vs, SqL.of hp⟩, q _ H1 x1 s1 (wk_new s1 hp r hM no nw)⟩) (fun _ _ q => q) h⟩
theorem ji_own {tg : Expr} {i : Nat} {x : Str} {pos : Pos} (hN : X.N[i]? = some x) (hv : Vis X.env.scope x) (hd : (x == ("__debug__" : Str)) = false) (hcd : (x == ("__classdict__" : Str)) = false) :
    PI X tg (.Name x pos) (liftI X.K RX W (wI F (.own i))) :=
  PI.imp (pi_list (pe_var (i := i) hN hv hd hcd)) fun σ H R ⟨env, M, s, p, xs, e, q⟩ => by
    obtain ⟨h1, ⟨vs, h2, h3⟩, h4⟩ := s.owns i p _ e
    exact ⟨_, h1, p, rfl, ⟨vs, SqL.of h2⟩, q _ H Ext.refl s wk_own⟩
theorem ji_range (hF : FMono F) {tg e : Expr} {ie : IE} {p pos : Pos} (hg : Gl X "range") (hm : X.mg "range" = none) (h : PE X e (liftE X.K RX W (wE F ie))) (hs : starEach [e] X.env = [(false, eval e X.env)]) :
    PI X tg (.Call (.Name "range" p) [e] [] pos) (liftI X.K RX W (wI F (.range ie))) :=
  PI.imp (pi_range1 hg hm (pa_cons h pa_nil hs) hs) fun σ H R ⟨env, M, s, h⟩ => ⟨env, M, s, wE_mono hF ie (fun d M1 q v H1 x1 s1 r1 => by
    obtain ⟨n, rfl, hn, q⟩ := q
    cases r1
    refine ⟨n, rfl, hn.1, hn.2, q _ H1 x1 s1 ?_⟩
    exact wk_fn (f := fun i => (i : Int)) ((walk_range (lo := 0) (n := n.toNat)).mono (fun _ h => h) fun i H x H' _ _ ⟨e1, e2⟩ => ⟨e1, by rw [e2]; simp⟩)) (fun _ _ q => q) h⟩
theorem ji_range2 (hF : FMono F) {tg a b : Expr} {ia ib : IE} {p pos : Pos} (hg : Gl X "range") (hm : X.mg "range" = none) (ha : PE X a (liftE X.K RX W (wE F ia))) (hb : PE X b (liftE X.K RX W (wE F ib)))
    (hs : starEach [a, b] X.env = [(false, eval a X.env), (false, eval b X.env)]) (hs2 : starEach [b] X.env = [(false, eval b X.env)]) :
    PI X tg (.Call (.Name "range" p) [a, b] [] pos) (liftI X.K RX W (wI F (.range2 ia ib))) :=
  PI.imp (pi_range2 hg hm (pa_cons ha (pa_cons hb pa_nil hs2) (by rw [hs, hs2])) hs hs2) fun σ H R ⟨env, M, s, h⟩ => ⟨env, M, s, wE_mono hF ia (fun d M1 q v H1 x1 s1 r1 =>
    ⟨env, M1, s1, wE_mono hF ib (fun e M2 q u H2 x2 s2 r2 => by
      obtain ⟨i, j, rfl, rfl, hn, q⟩ := q
      cases r1; cases r2
      exact ⟨i, j, rfl, hn, q _ H2 (x1.trans x2) s2 (wk_fn (f := fun k => i + (k : Int)) walk_range)⟩) (fun _ _ q => q.go x1) q⟩) (fun _ _ q => q) h⟩
theorem walk_zipT' {a b : Addr} {xs ys : List D} : Walk (RZ.ItzT K a b) (List.zipWith (fun u v => D.tup [u, v]) xs ys).length (fun H => (∃ vs, SqT K H a vs ∧ Reps K H xs vs) ∧ ∃ vs, SqT K H b vs ∧ Reps K H ys vs) (YD K (List.zipWith (fun u v => .tup [u, v]) xs ys)) := by
  rw [List.length_zipWith]
  refine ⟨fun i H hi ⟨⟨vs, h1, h2⟩, us, h3, h4⟩ => ?_, fun H ⟨⟨vs, h1, h2⟩, us, h3, h4⟩ => ⟨vs, us, h1, h3, ?_⟩, fun i H x H' hi ⟨⟨vs, h1, h2⟩, us, h3, h4⟩ ⟨T, u, v, e1, e2, e3, y1, y2⟩ => ?_⟩
  · have := h2.length; have := h4.length
    exact ⟨vs, us, vs[i]'(by omega), us[i]'(by omega), h1, h3, List.getElem?_eq_getElem _, List.getElem?_eq_getElem _⟩
  · have := h2.length; have := h4.length; omega
  · subst e1 e3
    obtain ⟨d, g1, g2⟩ := h2.get' (y1 vs h1)
    obtain ⟨d2, g3, g4⟩ := h4.get' (y2 us h3)
    refine ⟨Alc.new e2, .tup [d, d2], ?_, T, [u, v], rfl, SqT.of L2.upd_same, u, [v], rfl, g2.mono (Alc.new e2).tm, v, [], rfl, g4.mono (Alc.new e2).tm, rfl⟩
    rw [List.getElem?_zipWith, g1, g3]
theorem walk_zipL {a b : Addr} {xs ys : List D} : Walk (Itz K a b) (List.zipWith (fun u v => D.tup [u, v]) xs ys).length (fun H => (∃ vs, SqL K H a vs ∧ Reps K H xs vs) ∧ ∃ vs, SqL K H b vs ∧ Reps K H ys vs) (YD K (List.zipWith (fun u v => .tup [u, v]) xs ys)) := by
  rw [List.length_zipWith]
  refine ⟨fun i H hi ⟨⟨vs, h1, h2⟩, us, h3, h4⟩ => ?_, fun H ⟨⟨vs, h1, h2⟩, us, h3, h4⟩ => ⟨vs, us, h1, h3, ?_⟩, fun i H x H' hi ⟨⟨vs, h1, h2⟩, us, h3, h4⟩ ⟨T, u, v, e1, e2, e3, y1, y2⟩ => ?_⟩
  · have := h2.length; have := h4.length
    exact ⟨vs, us, vs[i]'(by omega), us[i]'(by omega), h1, h3, List.getElem?_eq_getElem _, List.getElem?_eq_getElem _⟩
  · have := h2.length; have := h4.length; omega
  · subst e1 e3
    obtain ⟨d, g1, g2⟩ := h2.get' (y1 vs h1)
    obtain ⟨d2, g3, g4⟩ := h4.get' (y2 us h3)
    refine ⟨Alc.new e2, .tup [d, d2], ?_, T, [u, v], rfl, SqT.of L2.upd_same, u, [v], rfl, g2.mono (Alc.new e2).tm, v, [], rfl, g4.mono (Alc.new e2).tm, rfl⟩
    rw [List.getElem?_zipWith, g1, g3]
theorem walk_zipM {a b : Addr} {xs ys : List D} : Walk (DLX.ItzM K a b) (List.zipWith (fun u v => D.tup [u, v]) xs ys).length (fun H => (∃ vs, SqT K H a vs ∧ Reps K H xs vs) ∧ ∃ vs, SqL K H b vs ∧ Reps K H ys vs) (YD K (List.zipWith (fun u v => .tup [u, v]) xs ys)) := by
  rw [List.length_zipWith]
  refine ⟨fun i H hi ⟨⟨vs, h1, h2⟩, us, h3, h4⟩ => ?_, fun H ⟨⟨vs, h1, h2⟩, us, h3, h4⟩ => ⟨vs, us, h1, h3, ?_⟩, fun i H x H' hi ⟨⟨vs, h1, h2⟩, us, h3, h4⟩ ⟨T, u, v, e1, e2, e3, y1, y2⟩ => ?_⟩
  · have := h2.length; have := h4.length
    exact ⟨vs, us, vs[i]'(by omega), us[i]'(by omega), h1, h3, List.getElem?_eq_getElem _, List.getElem?_eq_getElem _⟩
  · have := h2.length; have := h4.length; omega
  · subst e1 e3
    obtain ⟨d, g1, g2⟩ := h2.get' (y1 vs h1)
    obtain ⟨d2, g3, g4⟩ := h4.get' (y2 us h3)
    refine ⟨Alc.new e2, .tup [d, d2], ?_, T, [u, v], rfl, SqT.of L2.upd_same, u, [v], rfl, g2.mono (Alc.new e2).tm, v, [], rfl, g4.mono (Alc.new e2).tm, rfl⟩
    rw [List.getElem?_zipWith, g1, g3]
theorem ji_zip (hF : FMono F) {a b : Expr} {ia ib : IE} {p pos tpos : Pos} {elts : List Expr} {kk : Nat} (hg : Gl X "zip") (hm : X.mg "zip" = none) (ha : PE X a (liftE X.K RX W (wE F ia))) (hb : PE X b (liftE X.K RX W (wE F ib)))
    (hs : starEach [a, b] X.env = (false, eval a X.env) :: starEach [b] X.env) (hs2 : starEach [b] X.env = [(false, eval b X.env)]) :
    PI X (.Tuple elts kk tpos) (.Call (.Name "zip" p) [a, b] [] pos) (liftI X.K RX W (wI F (.zip ia ib))) :=
  PI.imp (DLX.pi_zipM hg hm (pa_cons ha (pa_cons hb pa_nil hs2) hs) hs (by rw [hs2]; rfl)) fun σ H R ⟨env, M, s, h⟩ => ⟨env, M, s, wE_mono hF ia (fun d M1 q v H1 x1 s1 r1 =>
    ⟨env, M1, s1, wE_mono hF ib (fun e M2 q u H2 x2 s2 r2 => by
      have r3 := r1.mono (x2.tm s1)
      unfold wZip at q
      split at q
      · obtain ⟨a', vs, rfl, h1, h2⟩ := r3
        obtain ⟨b', us, rfl, h3, h4⟩ := r2
        refine ⟨a', b', vs, us, rfl, .inr (.inl ⟨h1, h3, q _ H2 (x1.trans x2) s2 ?_⟩)⟩
        exact ⟨_, walk_zipT', fun H' σ' env' M' k s' _ => ⟨⟨vs, (tm_for s2 k _ _).1 h1, h2.mono (tm_for s2 k)⟩, us, (tm_for s2 k _ _).1 h3, h4.mono (tm_for s2 k)⟩⟩
      · obtain ⟨xs, ys, e1, e2, q⟩ := q
        cases r3; cases r2
        obtain ⟨vs, h1, h2⟩ := s2.mem _ _ e1
        obtain ⟨us, h3, h4⟩ := s2.mem _ _ e2
        refine ⟨_, _, vs, us, rfl, .inl ⟨SqL.of h1, SqL.of h3, q _ H2 (x1.trans x2) s2 ?_⟩⟩
        refine ⟨_, walk_zipL, fun H' σ' env' M' k s' ⟨o1, o2⟩ => ?_⟩
        obtain ⟨vs', h5, h6⟩ := s'.mem _ _ o1
        obtain ⟨us', h7, h8⟩ := s'.mem _ _ o2
        exact ⟨⟨vs', SqL.of h5, h6⟩, us', SqL.of h7, h8⟩
      · obtain ⟨ys, e2, q⟩ := q
        obtain ⟨a', vs, rfl, h1, h2⟩ := r3
        cases r2
        obtain ⟨us, h3, h4⟩ := s2.mem _ _ e2
        refine ⟨_, _, vs, us, rfl, .inr (.inr ⟨h1, SqL.of h3, q _ H2 (x1.trans x2) s2 ?_⟩)⟩
        refine ⟨_, walk_zipM, fun H' σ' env' M' k s' o2 => ?_⟩
        obtain ⟨us', h7, h8⟩ := s'.mem _ _ o2
        exact ⟨⟨vs, (tm_for s2 k _ _).1 h1, h2.mono (tm_for s2 k)⟩, us', SqL.of h7, h8⟩
      · exact q.elim) (fun _ _ q => q.go x1) q⟩) (fun _ _ q => q) h⟩
theorem walk_fnr {B : Addr → Prop} {lo : Int} {n : Nat} : Wk K env H M B (Itc (lo + ((n : Nat) : Int) - 1) (-1) n) ((List.range n).map fun (k : Nat) => .int (lo + (n : Int) - 1 - (k : Int))) fun _ _ => True :=
  wk_fn (f := fun k => lo + (n : Int) - 1 - (k : Int)) (walk_rangeC.mono (fun _ h => h) fun i H x H' _ _ ⟨e1, e2⟩ => ⟨e1, by
    have e3 : lo + (n : Int) - 1 + (i : Int) * -1 = lo + (n : Int) - 1 - (i : Int) := by omega
    rw [e2]; exact congrArg V.int e3⟩)
end
end DL
/-! Soundness: comprehensions, calls. -/
namespace DL
open PySem PySem.Spec PyProof.Rows L2
section
variable {X : Cx} {RX : RXT} {W : WX} {F : FS}
variable {K : PySem.W.Frag} {σ : L2.St} {H H1 H2 : Hp} {env : Env} {M M1 M2 : Mem} {Q : VK}
/-- something else is written -/
theorem StE.other {p : Addr} {vs vs' : List V} (s : StE K σ H env M) (h : H p = some (.lst vs)) (hM : M p = none) (no : ∀ (i : Nat) q o', env[i]? = some (.own q o') → q ≠ p) : StE K σ (L2.upd H p (.lst vs')) env M := by
  have t : Tm K H (L2.upd H p (.lst vs')) := upd_tm (fun _ z => by rw [h] at z; cases z) fun _ _ z => by rw [h] at z; cases z
  refine ⟨s.len, fun i d e => ?_, fun i q o' e => ?_, s.inj, fun a u e => ?_, s.excsUpd (fun _ z => by rw [h] at z; cases z) t⟩
  · obtain ⟨v, h1, h2⟩ := s.vals i d e; exact ⟨v, h1, h2.mono t⟩
  · obtain ⟨h1, h2, h3⟩ := s.owns i q o' e
    exact ⟨h1, h2.step (fun u e => by rw [L2.upd_ne (no i q o' ‹_›)]; exact e) t, h3⟩
  · have hp : a ≠ p := fun z => by subst z; rw [hM] at e; cases e
    exact (s.mem a u e).step (fun u e => by rw [L2.upd_ne hp]; exact e) t
theorem wCmpr_ok {ok : Mem → Prop} {el : D → Mem → (Option D → Mem → Prop) → Prop} {xs : List D} {R : QL} (h : wCmpr ok el xs M R) : ok M := by
  cases xs with
  | nil => exact h.1
  | cons x xs => exact h.1
theorem not_own {p : Addr} (s : StE K σ H env M) (h : H p = none) : ∀ (i : Nat) q o', env[i]? = some (.own q o') → q ≠ p := fun i q o' e z => by
  subst z; exact absurd h (s.owns i q o' e).2.1.notTup.2.2
theorem comp_core (hF : FMono F) {ie : IE} {t : Tg} {it : II} {io : Option IT} {g : TG} {tt : TT}
    (hg : ∀ {d : D} {v : V} {σ : L2.St} {H : Hp} {env : Env} {M : Mem} {Q : L2.St → Hp → Prop}, StE K σ H env M → Rep K H d v →
      wTg t d env (fun e => ∀ σ', StE K σ' H e M → L2.wipe σ' t.slots = L2.wipe σ t.slots → Q σ' H) → g v σ H Q)
    (htt : ∀ σ H Q, liftT K RX W0 (wTs F io) σ H Q → tt σ H Q) {σ : L2.St} {H : Hp} {Q : VK}
    (h : liftN K RX W (wN F (.comp ie t it io)) σ H Q) : tLc (liftI K RX W (wI F it)) g tt (liftE K RX W0 (wE F ie)) t.slots σ H Q := by
  obtain ⟨env, M, s, h⟩ := h
  refine ⟨env, M, s, wI_mono hF it (fun xs ok M1 q J H1 x1 s1 wk D hD => ?_) (fun _ _ q => q) h⟩
  obtain ⟨hlen, hc⟩ := q
  obtain ⟨G, wk, hG⟩ := wk
  have noD := not_own s1 hD
  have MD := s1.fresh hD
  refine lc_it wk (fun i H2 => ∃ M2 ds vs, H2 D = some (.lst vs) ∧ Reps K H2 ds vs ∧ ds.length ≤ i ∧ StE K σ H2 env M2 ∧ Ext env H1 M1 H2 M2 ∧ M2 D = none ∧
    wCmpr (ok env) (fun x M2 R => wTg t x (wipeE env t.slots) fun env' => wTs F io env' M2 (fun b M3 => if b = true then wE F ie env' M3 (fun y M4 => R (some y) M4) X0 else R none M3) X0) (xs.drop i) M2
      (fun ys M3 => (fun xs M' => ∀ p vs H', Ext env H M H' M' → StE K σ H' env M' → H' p = some (.lst vs) → Reps K H' xs vs → M' p = none → (M p = none → H p = none) → (∀ (i : Nat) q o', env[i]? = some (.own q o') → q ≠ p) → Q (.ref p) H') (ds ++ ys) M3))
    ?_ ?_ ?_ ?_
  · exact ⟨M1, [], [], L2.upd_same, rfl, Nat.zero_le _, s1.alc (Alc.new hD), Ext.alc (Alc.new hD), MD, by simpa using hc⟩
  · rintro i H2 _ ⟨M2, ds, vs, e1, e2, e3, s2, x2, e4, hc⟩
    exact hG H2 σ env M2 (fun a o h n no _ => (x2 a o h n no).1) s2 (wCmpr_ok hc)
  · rintro i x H2 H3 hi ⟨M2, ds, vs, e1, e2, e3, s2, x2, e4, hc⟩ ⟨al, d, hd, rd⟩
    rw [List.drop_eq_getElem_cons hi] at hc
    have hd' : xs[i] = d := by rw [List.getElem?_eq_getElem hi] at hd; exact Option.some.inj hd
    rw [hd'] at hc
    obtain ⟨_, hc⟩ := hc
    have s3 : StE K σ H3 env M2 := s2.alc al
    have hw : L2.wipe (L2.wipe σ t.slots) t.slots = L2.wipe σ t.slots := by
      have : ∀ (vs ws : List Nat), (∀ v ∈ vs, v ∈ ws) → L2.wipe (L2.wipe σ vs) ws = L2.wipe σ ws := fun vs ws => by
        induction vs with
        | nil => intro _; rfl
        | cons v vs ih =>
          intro h
          show L2.wipe ((L2.wipe σ vs).set v none) ws = _
          rw [wipe_set (h v List.mem_cons_self)]
          exact ih fun u hu => h u (List.mem_cons_of_mem _ hu)
      exact this _ _ fun _ h => h
    refine hg (s3.wipe (vs := t.slots)) rd (wTg_mono (fun e q σ2 s4 wp => ?_) (wTg_keep hc))
    obtain ⟨q, kp⟩ := q
    refine ⟨wp.trans hw, htt _ _ _ ⟨e, M2, s4, wTs_mono hF io (fun b M3 q H4 x4 s5 => ?_) (fun _ _ z => z.elim) q⟩⟩
    have t4 : Tm K H3 H4 := x4.tm s4
    have D3 : H3 D = some (.lst vs) := al _ _ e1
    have noDe : ∀ (j : Nat) q o', e[j]? = some (.own q o') → q ≠ D := fun j q o' h => noD j q o' (wipe_own.mp (kp.own j q o' h).1).1
    obtain ⟨D4, M3D⟩ := x4 D _ D3 e4 noDe
    cases b with
    | false =>
      refine ⟨M3, ds, vs, D4, (e2.mono al.tm).mono t4, by omega, s3.unblk kp x4 s5 t4, ?_, M3D, q⟩
      exact x2.trans ((Ext.alc al).trans (Ext.unblk kp x4))
    | true =>
      refine ⟨e, M3, s5, wE_mono hF ie (fun y M4 q v H5 x5 s6 ry => ?_) (fun _ _ z => z.elim) q⟩
      have t5 : Tm K H4 H5 := x5.tm s5
      obtain ⟨D5, M4D⟩ := x5 D _ D4 M3D noDe
      have s7 : StE K σ H5 env M4 := (s3.unblk kp x4 s5 t4).unblk kp x5 s6 t5
      have rr : Reps K H5 (ds ++ [y]) (vs ++ [v]) := Reps.append (((e2.mono al.tm).mono t4).mono t5) ⟨v, [], rfl, ry, rfl⟩
      have hup : Tm K H5 (L2.upd H5 D (.lst (vs ++ [v]))) := upd_tm (fun _ z => by rw [D5] at z; cases z) fun _ _ z => by rw [D5] at z; cases z
      have hl : vs.length = ds.length := e2.length.symm
      refine ⟨vs, D5, by rw [hl]; omega, M4, ds ++ [y], vs ++ [v], L2.upd_same, rr.mono hup, by simp; omega, s7.other D5 M4D noD, ?_, M4D, by simpa using q⟩
      refine fun a o h n no => ?_
      have ha : a ≠ D := fun z => by subst z; rw [hD] at h; cases h
      rw [L2.upd_ne ha]
      exact (x2.trans ((Ext.alc al).trans ((Ext.unblk kp x4).trans (Ext.unblk kp x5)))) a o h n no
  · rintro H2 ⟨M2, ds, vs, e1, e2, e3, s2, x2, e4, hc⟩
    rw [List.drop_length] at hc
    have := hc.2
    simp only [List.append_nil] at this
    exact this D vs H2 (x1.trans x2) s2 e1 e2 e4 (fun hM => new_none x1 s1 hM hD) noD
theorem Kp.wide {is js : List Nat} {e : Env} (k : Kp is (wipeE env (is ++ js)) e) : Kp (is ++ js) (wipeE env (is ++ js)) e where
  len := k.len
  own := fun j p o h => ⟨(k.own j p o h).1, (wipe_own.mp (k.own j p o h).1).2⟩
  out := fun j h => k.out j fun z => h (List.mem_append_left _ z)
theorem wipe_in (σ : L2.St) : ∀ (vs ws : List Nat), (∀ v ∈ vs, v ∈ ws) → L2.wipe (L2.wipe σ vs) ws = L2.wipe σ ws := fun vs ws => by
  induction vs with
  | nil => intro _; rfl
  | cons v vs ih =>
    intro h
    show L2.wipe ((L2.wipe σ vs).set v none) ws = _
    rw [wipe_set (h v List.mem_cons_self)]
    exact ih fun u hu => h u (List.mem_cons_of_mem _ hu)
theorem wipe_wide {σ σ' : L2.St} {is js : List Nat} (h : L2.wipe σ' is = L2.wipe σ is) : L2.wipe σ' (is ++ js) = L2.wipe σ (is ++ js) := by
  rw [← wipe_in σ' is (is ++ js) fun v hv => List.mem_append_left _ hv, h, wipe_in σ is (is ++ js) fun v hv => List.mem_append_left _ hv]
def delH (H : Hp) (p : Addr) : Hp := fun a => if a = p then none else H a
theorem delH_at {p : Addr} : delH H p p = none := if_pos rfl
theorem delH_ne {a p : Addr} (h : a ≠ p) : delH H p a = H a := if_neg h
theorem Ext.del {p : Addr} (x : Ext env H M H1 M1) : Ext env (delH H p) M H1 M1 := fun a o h n no => by
  have ha : a ≠ p := fun z => by subst z; rw [delH_at] at h; cases h
  rw [delH_ne ha] at h
  exact x a o h n no
theorem StE.del {p : Addr} {vs : List V} (s : StE K σ H env M) (h : H p = some (.lst vs)) (hM : M p = none) (no : ∀ (i : Nat) q o', env[i]? = some (.own q o') → q ≠ p) : StE K σ (delH H p) env M := by
  have ne : ∀ {a o}, H a = some o → o ≠ .lst vs → delH H p a = some o := fun {a o} e n => by
    rw [delH_ne fun z => n (by subst z; rw [h] at e; cases e; rfl)]; exact e
  have t : Tm K H (delH H p) := tm_mk (fun a vs h => ne h fun z => nomatch z) (fun a o vs h => ne h fun z => nomatch z) (fun a o vs h => ne h fun z => nomatch z)
  refine ⟨s.len, fun i d e => ?_, fun i q o' e => ?_, s.inj, fun a u e => ?_, s.excsStep (fun a kvs e => ne e fun z => nomatch z) t⟩
  · obtain ⟨v, h1, h2⟩ := s.vals i d e; exact ⟨v, h1, h2.mono t⟩
  · obtain ⟨h1, h2, h3⟩ := s.owns i q o' e
    exact ⟨h1, h2.step (fun u e => by rw [delH_ne (no i q o' ‹_›)]; exact e) t, h3⟩
  · have hp : a ≠ p := fun z => by subst z; rw [hM] at e; cases e
    exact (s.mem a u e).step (fun u e => by rw [delH_ne hp]; exact e) t
theorem wCmp2_ok {ok : Mem → Prop} {el : Nat → D → Mem → (List D → Mem → Prop) → Prop} {n : Nat} {xs : List D} {R : QL} (h : wCmp2 ok el n xs M R) : ok M := by
  cases xs with
  | nil => exact h.1
  | cons x xs => exact h.1
theorem comp2_core (hF : FMono F) {ie : IE} {t t1 : Tg} {it it1 : II} {io : Option IT} {g g1 : TG} {tt : TT}
    (hg : ∀ {d : D} {v : V} {σ : L2.St} {H : Hp} {env : Env} {M : Mem} {Q : L2.St → Hp → Prop}, StE K σ H env M → Rep K H d v →
      wTg t d env (fun e => ∀ σ', StE K σ' H e M → L2.wipe σ' t.slots = L2.wipe σ t.slots → Q σ' H) → g v σ H Q)
    (hg1 : ∀ {d : D} {v : V} {σ : L2.St} {H : Hp} {env : Env} {M : Mem} {Q : L2.St → Hp → Prop}, StE K σ H env M → Rep K H d v →
      wTg t1 d env (fun e => ∀ σ', StE K σ' H e M → L2.wipe σ' t1.slots = L2.wipe σ t1.slots → Q σ' H) → g1 v σ H Q)
    (htt : ∀ σ H Q, liftT K RX W0 (wTs F io) σ H Q → tt σ H Q) {σ : L2.St} {H : Hp} {Q : VK}
    (h : liftN K RX W (wN F (.comp2 ie t it t1 it1 io)) σ H Q) : tLc2 (liftI K RX W (wI F it)) g tYes (liftI K RX W0 (wI F it1)) g1 tt (liftE K RX W0 (wE F ie)) (t.slots ++ t1.slots) t1.slots σ H Q := by
  obtain ⟨env, M, s, h⟩ := h
  refine ⟨env, M, s, wI_mono hF it (fun xs ok M1 q J H1 x1 s1 wk D hD => ?_) (fun _ _ q => q) h⟩
  obtain ⟨G, wk, hG⟩ := wk
  have noD := not_own s1 hD
  have MD := s1.fresh hD
  generalize hEL : (fun (n : Nat) (x : DL.D) (M2 : Mem) (R : List DL.D → Mem → Prop) => wTg t x (wipeE env (t.slots ++ t1.slots)) fun env1 => wI F it1 env1 M2 (fun ys ok1 M3 => n + ys.length ≤ sizeLine ∧
        wCmpr (ok1 env1) (fun y M4 R' => wTg t1 y (wipeE env1 t1.slots) fun env2 => wTs F io env2 M4 (fun b M5 => if b = true then wE F ie env2 M5 (fun z M6 => R' (some z) M6) X0 else R' none M5) X0) ys M3 R) X0) = EL at q
  generalize hPO : (fun (xs : List DL.D) (M' : Mem) => ∀ p vs H', Ext env H M H' M' → StE K σ H' env M' → H' p = some (.lst vs) → Reps K H' xs vs → M' p = none → (M p = none → H p = none) → (∀ (i : Nat) q o', env[i]? = some (.own q o') → q ≠ p) → Q (.ref p) H') = PO at q
  let Pv : Nat → Hp → Prop := fun i H2 => ∃ M2 ds vs, H2 D = some (.lst vs) ∧ Reps K H2 ds vs ∧ StE K σ H2 env M2 ∧ Ext env H1 M1 H2 M2 ∧ M2 D = none ∧
    wCmp2 (ok env) EL ds.length (xs.drop i) M2 (fun ys M3 => PO (ds ++ ys) M3)
  refine ⟨fun i m H => m = xs.length - i ∧ i ≤ xs.length ∧ Pv i H, ⟨xs.length, by simp, Nat.zero_le _, M1, [], [], L2.upd_same, rfl, s1.alc (Alc.new hD), Ext.alc (Alc.new hD), MD, by simpa using q⟩, ?_⟩
  rintro i m H2 ⟨rfl, hi, p⟩
  have gg : G H2 := by
    obtain ⟨M2, ds, vs, e1, e2, s2, x2, e4, hc⟩ := p
    exact hG H2 σ env M2 (fun a o h n no _ => (x2 a o h n no).1) s2 (wCmp2_ok hc)
  obtain ⟨M2, ds, vs, e1, e2, s2, x2, e4, hc⟩ := p
  by_cases hlt : i < xs.length
  · refine .inr ⟨wk.goes i H2 hlt gg, Pv (i + 1), fun H' p' => ⟨xs.length - (i + 1), by omega, rfl, hlt, p'⟩, fun x H3 y => ?_⟩
    obtain ⟨al, d, hd, rd⟩ := wk.yields i H2 x H3 hlt gg y
    rw [List.drop_eq_getElem_cons hlt] at hc
    have hd' : xs[i] = d := by rw [List.getElem?_eq_getElem hlt] at hd; exact Option.some.inj hd
    rw [hd'] at hc
    obtain ⟨_, hc⟩ := hc
    rw [← hEL] at hc
    have s3 : StE K σ H3 env M2 := s2.alc al
    refine hg (s3.wipe (vs := t.slots ++ t1.slots)) rd (wTg_mono (fun e q σ2 s4 wp => ?_) (wTg_keep hc))
    obtain ⟨q, kp0⟩ := q
    have kp := kp0.wide
    refine ⟨(wipe_wide wp).trans (wipe_in σ _ _ fun _ h => h), ?_⟩
    unfold tYes
    simp only [↓reduceIte]
    have D3 : H3 D = some (.lst vs) := al _ _ e1
    have noDe : ∀ (j : Nat) q o', e[j]? = some (.own q o') → q ≠ D := fun j q o' h => noD j q o' (wipe_own.mp (kp.own j q o' h).1).1
    refine ⟨e, M2, s4, wI_mono hF it1 (fun ys ok1 M3 q J1 H4 x4 s5 wk1 => ?_) (fun _ _ z => z.elim) q⟩
    obtain ⟨hlen, q⟩ := q
    obtain ⟨G1, wk1, hG1⟩ := wk1
    obtain ⟨D4, M3D⟩ := x4 D _ D3 e4 noDe
    let Pv1 : Nat → Hp → Prop := fun j H5 => ∃ M4 es us, H5 D = some (.lst us) ∧ Reps K H5 (ds ++ es) us ∧ es.length ≤ j ∧ StE K σ2 H5 e M4 ∧ Ext e (delH H4 D) M3 H5 M4 ∧ Ext e (delH H3 D) M2 H5 M4 ∧ M4 D = none ∧
      wCmpr (ok1 e) (fun y M4 R' => wTg t1 y (wipeE e t1.slots) fun env2 => wTs F io env2 M4 (fun b M5 => if b = true then wE F ie env2 M5 (fun z M6 => R' (some z) M6) X0 else R' none M5) X0) (ys.drop j) M4
        (fun zs M5 => wCmp2 (ok env) EL (ds.length + (es ++ zs).length) (xs.drop (i + 1)) M5 fun ws M6 => PO (ds ++ ((es ++ zs) ++ ws)) M6)
    have s4m : StE K σ2 (delH H3 D) e M2 := s4.del D3 e4 noDe
    have s3m : StE K σ (delH H3 D) env M2 := s3.del D3 e4 noD
    have xm : Ext env H1 M1 (delH H3 D) M2 := fun a o h n no => by
      have ha : a ≠ D := fun z => by subst z; rw [hD] at h; cases h
      obtain ⟨h1, h2⟩ := x2 a o h n no
      exact ⟨(delH_ne ha).trans (al _ _ h1), h2⟩
    have t4 : Tm K H3 H4 := x4.tm s4
    refine ⟨fun j k H => k = ys.length - j ∧ j ≤ ys.length ∧ Pv1 j H, ⟨ys.length, by simp, Nat.zero_le _, M3, [], vs, D4, by simpa using (e2.mono al.tm).mono t4, Nat.zero_le _, s5, Ext.del Ext.refl, Ext.del x4, M3D, ?_⟩, ?_⟩
    · rw [hEL] at q
      simpa using q
    rintro j k H5 ⟨rfl, hj, p1⟩
    have gg1 : G1 H5 := by
      obtain ⟨M4, es, us, f1, f2, f3, s6, x6, x7, f4, hc1⟩ := p1
      refine hG1 H5 σ2 e M4 (fun a o h n no hb => ?_) s6 (wCmpr_ok hc1)
      by_cases ha : a = D
      · subst ha
        rw [D4] at h; cases h
        have := hb (.inl ⟨_, rfl⟩) e4
        rw [D3] at this; cases this
      · exact (x6 a o ((delH_ne ha).trans h) n no).1
    obtain ⟨M4, es, us, f1, f2, f3, s6, x6, x7, f4, hc1⟩ := p1
    have t5 : Tm K (delH H3 D) H5 := x7.tm s4m
    by_cases hlt1 : j < ys.length
    · refine .inr ⟨wk1.goes j H5 hlt1 gg1, Pv1 (j + 1), fun H' p' => ⟨ys.length - (j + 1), by omega, rfl, hlt1, p'⟩, fun x' H6 y' => ?_⟩
      obtain ⟨al1, d1, hd1, rd1⟩ := wk1.yields j H5 x' H6 hlt1 gg1 y'
      rw [List.drop_eq_getElem_cons hlt1] at hc1
      have hd1' : ys[j] = d1 := by rw [List.getElem?_eq_getElem hlt1] at hd1; exact Option.some.inj hd1
      rw [hd1'] at hc1
      obtain ⟨_, hc1⟩ := hc1
      have s7 : StE K σ2 H6 e M4 := s6.alc al1
      refine hg1 (s7.wipe (vs := t1.slots)) rd1 (wTg_mono (fun e' q σ3 s8 wp1 => ?_) (wTg_keep hc1))
      obtain ⟨q, kp1⟩ := q
      refine ⟨wp1.trans (wipe_in σ2 _ _ fun _ h => h), htt _ _ _ ⟨e', M4, s8, wTs_mono hF io (fun b M5 q H7 x8 s9 => ?_) (fun _ _ z => z.elim) q⟩⟩
      have t8 : Tm K H6 H7 := x8.tm s8
      have D6 : H6 D = some (.lst us) := al1 _ _ f1
      have noDe' : ∀ (j : Nat) q o', e'[j]? = some (.own q o') → q ≠ D := fun j q o' h => noDe j q o' (wipe_own.mp (kp1.own j q o' h).1).1
      obtain ⟨D7, M5D⟩ := x8 D _ D6 f4 noDe'
      cases b with
      | false =>
        have xe : Ext e H5 M4 H7 M5 := (Ext.alc al1).trans (Ext.unblk kp1 x8)
        exact ⟨M5, es, us, D7, (f2.mono al1.tm).mono t8, by omega, s7.unblk kp1 x8 s9 t8, x6.trans xe, x7.trans xe, M5D, q⟩
      | true =>
        refine ⟨e', M5, s9, wE_mono hF ie (fun z M6 q v H8 x9 s10 ry => ?_) (fun _ _ z => z.elim) q⟩
        have t9 : Tm K H7 H8 := x9.tm s9
        obtain ⟨D8, M6D⟩ := x9 D _ D7 M5D noDe'
        have s11 : StE K σ2 H8 e M6 := (s7.unblk kp1 x8 s9 t8).unblk kp1 x9 s10 t9
        have rr : Reps K H8 ((ds ++ es) ++ [z]) (us ++ [v]) := Reps.append (((f2.mono al1.tm).mono t8).mono t9) ⟨v, [], rfl, ry, rfl⟩
        have hup : Tm K H8 (L2.upd H8 D (.lst (us ++ [v]))) := upd_tm (fun _ z => by rw [D8] at z; cases z) fun _ _ z => by rw [D8] at z; cases z
        have hl : us.length = ds.length + es.length := by rw [← f2.length, List.length_append]
        have xe : Ext e H5 M4 H8 M6 := (Ext.alc al1).trans ((Ext.unblk kp1 x8).trans (Ext.unblk kp1 x9))
        refine ⟨us, D8, by rw [hl]; omega, M6, es ++ [z], us ++ [v], L2.upd_same, ?_, by simp; omega, s11.other D8 M6D noDe, ?_, ?_, M6D, by simpa using q⟩
        · rw [← List.append_assoc]; exact rr.mono hup
        · intro a o h n no
          have ha : a ≠ D := fun z => by subst z; rw [delH_at] at h; cases h
          rw [L2.upd_ne ha]
          exact (x6.trans xe) a o h n no
        · intro a o h n no
          have ha : a ≠ D := fun z => by subst z; rw [delH_at] at h; cases h
          rw [L2.upd_ne ha]
          exact (x7.trans xe) a o h n no
    · have ej : j = ys.length := by omega
      subst ej
      rw [List.drop_length] at hc1
      obtain ⟨_, hc1⟩ := hc1
      refine .inl ⟨wk1.stops H5 gg1, M4, ds ++ es, us, f1, f2, s3m.unblk kp x7 s6 t5, xm.trans (Ext.unblk kp x7), f4, ?_⟩
      simpa using hc1
  · have ei : i = xs.length := by omega
    subst ei
    rw [List.drop_length] at hc
    have hq := hc.2
    rw [← hPO] at hq
    simp only [List.append_nil] at hq
    exact .inl ⟨wk.stops H2 gg, hq D vs H2 (x1.trans x2) s2 e1 e2 e4 (fun hM => new_none x1 s1 hM hD) noD⟩
theorem jn_comp (hF : FMono F) {elt tg iter : Expr} {ifs : List Expr} {scope : Scope} {own : List (Str × Nat)} {pos : Pos} {ie : IE} {t : Tg} {it : II} {io : Option IT} {g : TG} {tt : TT}
    (hc : X.calm = true) (hN : X.N.Nodup) (hi : PI X tg iter (liftI X.K RX W (wI F it))) (ok : BlkOk X.N X.env.scope scope own) (hown : own.map (·.2) = t.slots)
    (hg : ∀ (s : Shared) (H : Hp) (C : Addr) (cl : List (Str × Addr)) (fp : List Addr), GOk (X.blk s H scope (compEnvC scope cl C X.env) fp) t tg g)
    (ht : ∀ (s : Shared) (H : Hp) (C : Addr) (cl : List (Str × Addr)) (fp : List Addr), PTs (X.blk s H scope (compEnvC scope cl C X.env) fp) ifs tt)
    (htt : ∀ σ H Q, liftT X.K RX W0 (wTs F io) σ H Q → tt σ H Q)
    (he : ∀ (s : Shared) (H : Hp) (C : Addr) (cl : List (Str × Addr)) (fp : List Addr), PE (X.blk s H scope (compEnvC scope cl C X.env) fp) elt (liftE X.K RX W0 (wE F ie)))
    (hs : ∀ x, foldedSetIterable iter X.env x = pure x) : PE X (.ListComp elt [⟨tg, iter, ifs, 0⟩] scope pos) (liftN X.K RX W (wN F (.comp ie t it io))) :=
  PE.imp (pe_lc hc hN hi ok (fun s H C cl fp => (hg s H C cl fp).pg) ht he hs) fun σ H Q h => by
    rw [hown]
    exact comp_core hF (fun {d v σ H env M Q} s r w => (hg ⟨X.s_0.heap, X.s_0.gens, X.s_0.drawn, X.s_0.toks, X.s_0.os⟩ X.H_0 0 [] []).go s r w) htt h
theorem js_setLc (hF : FMono F) {i : Nat} {y : Str} {py : Pos} {elt tg iter : Expr} {ifs : List Expr} {scope : Scope} {own : List (Str × Nat)} {pos spos : Pos} {ie : IE} {t : Tg} {it : II} {io : Option IT} {g : TG} {tt : TT}
    (hc : X.calm = true) (hN : X.N.Nodup) (hy : X.N[i]? = some y) (hyl : X.env.scope.names.lookup y = some .local) (hsw : swapsWith (.ListComp elt [⟨tg, iter, ifs, 0⟩] scope pos) (some (.Name y py)) spos.line X.env = pure true)
    (hi : PI X tg iter (liftI X.K RX W (wI F it))) (ok : BlkOk X.N X.env.scope scope own) (hown : own.map (·.2) = t.slots)
    (hg : ∀ (s : Shared) (H : Hp) (C : Addr) (cl : List (Str × Addr)) (fp : List Addr), GOk (X.blk s H scope (compEnvC scope cl C X.env) fp) t tg g)
    (ht : ∀ (s : Shared) (H : Hp) (C : Addr) (cl : List (Str × Addr)) (fp : List Addr), PTs (X.blk s H scope (compEnvC scope cl C X.env) fp) ifs tt)
    (htt : ∀ σ H Q, liftT X.K RX W0 (wTs F io) σ H Q → tt σ H Q)
    (he : ∀ (s : Shared) (H : Hp) (C : Addr) (cl : List (Str × Addr)) (fp : List Addr), PE (X.blk s H scope (compEnvC scope cl C X.env) fp) elt (liftE X.K RX W0 (wE F ie)))
    (hs : ∀ x, foldedSetIterable iter X.env x = pure x) : PS X (.Assign [.Name y py] (.ListComp elt [⟨tg, iter, ifs, 0⟩] scope pos) spos) (tAsg (liftN X.K RX W (wN F (.comp ie t it io))) (gName i)) :=
  PS.imp (ps_setLc hc hN hy hyl hsw hi ok (fun s H C cl fp => (hg s H C cl fp).pg) ht he hs) fun D σ H h => by
    rw [hown]
    exact comp_core hF (fun {d v σ H env M Q} s r w => (hg ⟨X.s_0.heap, X.s_0.gens, X.s_0.drawn, X.s_0.toks, X.s_0.os⟩ X.H_0 0 [] []).go s r w) htt h
theorem jn_comp2 (hF : FMono F) {elt tg iter tg1 iter1 : Expr} {ifs1 : List Expr} {scope : Scope} {own : List (Str × Nat)} {pos spos : Pos} {ie : IE} {t t1 : Tg} {it it1 : II} {io : Option IT} {g g1 : TG} {tt : TT}
    (hc : X.calm = true) (hN : X.N.Nodup)
    (hi : PI X tg iter (liftI X.K RX W (wI F it))) (ok : BlkOk X.N X.env.scope scope own) (hown : own.map (·.2) = t.slots ++ t1.slots)
    (hg : ∀ (s : Shared) (H : Hp) (C : Addr) (cl : List (Str × Addr)) (fp : List Addr), GOk (X.blk s H scope (compEnvC scope cl C X.env) fp) t tg g) (hg1 : ∀ (s : Shared) (H : Hp) (C : Addr) (cl : List (Str × Addr)) (fp : List Addr), GOk (X.blk s H scope (compEnvC scope cl C X.env) fp) t1 tg1 g1)
    (hi1 : ∀ (s : Shared) (H : Hp) (C : Addr) (cl : List (Str × Addr)) (fp : List Addr), PI (X.blk s H scope (compEnvC scope cl C X.env) fp) tg1 iter1 (liftI X.K RX W0 (wI F it1)))
    (ht : ∀ (s : Shared) (H : Hp) (C : Addr) (cl : List (Str × Addr)) (fp : List Addr), PTs (X.blk s H scope (compEnvC scope cl C X.env) fp) ifs1 tt)
    (htt : ∀ σ H Q, liftT X.K RX W0 (wTs F io) σ H Q → tt σ H Q)
    (he : ∀ (s : Shared) (H : Hp) (C : Addr) (cl : List (Str × Addr)) (fp : List Addr), PE (X.blk s H scope (compEnvC scope cl C X.env) fp) elt (liftE X.K RX W0 (wE F ie)))
    (hs : ∀ x, foldedSetIterable iter X.env x = pure x) (hs1 : ∀ env x, foldedSetIterable iter1 env x = pure x) : PE X (.ListComp elt [⟨tg, iter, [], 0⟩, ⟨tg1, iter1, ifs1, 0⟩] scope pos) (liftN X.K RX W (wN F (.comp2 ie t it t1 it1 io))) :=
  PE.imp (pe_lc2 (vs1 := t1.slots) hc hN hi ok (fun i h => by rw [hown]; exact List.mem_append_right _ h) (fun s H C cl fp => (hg s H C cl fp).pg) (fun _ _ _ _ _ => pts_nil) hi1 (fun s H C cl fp => (hg1 s H C cl fp).pg) ht he hs hs1) fun σ H Q h => by
    rw [hown]
    exact comp2_core hF (fun {d v σ H env M Q} s r w => (hg ⟨X.s_0.heap, X.s_0.gens, X.s_0.drawn, X.s_0.toks, X.s_0.os⟩ X.H_0 0 [] []).go s r w) (fun {d v σ H env M Q} s r w => (hg1 ⟨X.s_0.heap, X.s_0.gens, X.s_0.drawn, X.s_0.toks, X.s_0.os⟩ X.H_0 0 [] []).go s r w) htt h
theorem js_setLc2 (hF : FMono F) {i : Nat} {y : Str} {py : Pos} {elt tg iter tg1 iter1 : Expr} {ifs1 : List Expr} {scope : Scope} {own : List (Str × Nat)} {pos spos : Pos} {ie : IE} {t t1 : Tg} {it it1 : II} {io : Option IT} {g g1 : TG} {tt : TT}
    (hc : X.calm = true) (hN : X.N.Nodup) (hy : X.N[i]? = some y) (hyl : X.env.scope.names.lookup y = some .local) (hsw : swapsWith (.ListComp elt [⟨tg, iter, [], 0⟩, ⟨tg1, iter1, ifs1, 0⟩] scope pos) (some (.Name y py)) spos.line X.env = pure true)
    (hi : PI X tg iter (liftI X.K RX W (wI F it))) (ok : BlkOk X.N X.env.scope scope own) (hown : own.map (·.2) = t.slots ++ t1.slots)
    (hg : ∀ (s : Shared) (H : Hp) (C : Addr) (cl : List (Str × Addr)) (fp : List Addr), GOk (X.blk s H scope (compEnvC scope cl C X.env) fp) t tg g) (hg1 : ∀ (s : Shared) (H : Hp) (C : Addr) (cl : List (Str × Addr)) (fp : List Addr), GOk (X.blk s H scope (compEnvC scope cl C X.env) fp) t1 tg1 g1)
    (hi1 : ∀ (s : Shared) (H : Hp) (C : Addr) (cl : List (Str × Addr)) (fp : List Addr), PI (X.blk s H scope (compEnvC scope cl C X.env) fp) tg1 iter1 (liftI X.K RX W0 (wI F it1)))
    (ht : ∀ (s : Shared) (H : Hp) (C : Addr) (cl : List (Str × Addr)) (fp : List Addr), PTs (X.blk s H scope (compEnvC scope cl C X.env) fp) ifs1 tt)
    (htt : ∀ σ H Q, liftT X.K RX W0 (wTs F io) σ H Q → tt σ H Q)
    (he : ∀ (s : Shared) (H : Hp) (C : Addr) (cl : List (Str × Addr)) (fp : List Addr), PE (X.blk s H scope (compEnvC scope cl C X.env) fp) elt (liftE X.K RX W0 (wE F ie)))
    (hs : ∀ x, foldedSetIterable iter X.env x = pure x) (hs1 : ∀ env x, foldedSetIterable iter1 env x = pure x) : PS X (.Assign [.Name y py] (.ListComp elt [⟨tg, iter, [], 0⟩, ⟨tg1, iter1, ifs1, 0⟩] scope pos) spos) (tAsg (liftN X.K RX W (wN F (.comp2 ie t it t1 it1 io))) (gName i)) :=
  PS.imp (ps_setLc2 (vs1 := t1.slots) hc hN hy hyl hsw hi ok (fun i h => by rw [hown]; exact List.mem_append_right _ h) (fun s H C cl fp => (hg s H C cl fp).pg) (fun _ _ _ _ _ => pts_nil) hi1 (fun s H C cl fp => (hg1 s H C cl fp).pg) ht he hs hs1) fun D σ H h => by
    rw [hown]
    exact comp2_core hF (fun {d v σ H env M Q} s r w => (hg ⟨X.s_0.heap, X.s_0.gens, X.s_0.drawn, X.s_0.toks, X.s_0.os⟩ X.H_0 0 [] []).go s r w) (fun {d v σ H env M Q} s r w => (hg1 ⟨X.s_0.heap, X.s_0.gens, X.s_0.drawn, X.s_0.toks, X.s_0.os⟩ X.H_0 0 [] []).go s r w) htt h
/-! ### other new lists -/
theorem jn_copy (hF : FMono F) {l : IL} {e : Expr} {p pos : Pos} (hg : Gl X "list") (hm : X.mg "list" = none) (h : PE X e (liftL X.K RX W (wL F l))) (hs : starEach [e] X.env = [(false, eval e X.env)]) :
    PE X (.Call (.Name "list" p) [e] [] pos) (liftN X.K RX W (wN F (.copy l))) :=
  PE.imp (pe_callTy call_list_of hg hm boot_list (pa_cons h pa_nil hs) (he := hs) (hpl := rfl)) fun σ H Q ⟨env, M, s, h⟩ => ⟨env, M, s, wL_mono hF l (fun xs M1 q p vs H1 x1 s1 hl r => by
    refine ⟨p, vs, rfl, .inl hl, fun l hp => ?_⟩
    have a := Alc.new (o := .lst vs) hp
    exact q l vs _ (x1.trans (Ext.alc a)) (s1.alc a) L2.upd_same (r.mono a.tm) (s1.fresh hp) (fun hM => new_none x1 s1 hM hp) (not_own s1 hp)) (fun _ _ q => q) h⟩
theorem jn_copyT (hF : FMono F) {ie : IE} {e : Expr} {p pos : Pos} (hg : Gl X "list") (hm : X.mg "list" = none) (h : PE X e (liftE X.K RX W (wE F ie))) (hs : starEach [e] X.env = [(false, eval e X.env)]) :
    PE X (.Call (.Name "list" p) [e] [] pos) (liftN X.K RX W (wN F (.copyT ie))) :=
  PE.imp (pe_callTy call_list_of hg hm boot_list (pa_cons h pa_nil hs) (he := hs) (hpl := rfl)) fun σ H Q ⟨env, M, s, h⟩ => ⟨env, M, s, wE_mono hF ie (fun d M1 q v H1 x1 s1 r1 => by
    obtain ⟨xs, rfl, q⟩ := q
    obtain ⟨p, vs, rfl, hl, r⟩ := r1
    refine ⟨p, vs, rfl, .inr hl, fun l hp => ?_⟩
    have a := Alc.new (o := .lst vs) hp
    exact q l vs _ (x1.trans (Ext.alc a)) (s1.alc a) L2.upd_same (r.mono a.tm) (s1.fresh hp) (fun hM => new_none x1 s1 hM hp) (not_own s1 hp)) (fun _ _ q => q) h⟩
/-! ### calls -/
/-- what a def promises -/
def spL (K : PySem.W.Frag) (RX : RXT) (t : List D → Mem → QE → QX → Prop) : Sp := fun vs H Q E => ∃ ds M, Reps K H ds vs ∧ MemOk K H M ∧
  t ds M (fun d M' => ∀ v H', Ext [] H M H' M' → MemOk K H' M' → Rep K H' d v → Q v H') (fun x M' => ∀ c dd H', Ext [] H M H' M' → MemOk K H' M' → RX H' c dd x → E c dd H')
/-- a def at hand -/
def Callee (X : Cx) (RX : RXT) (k : Nat) (x : Str) (t : List D → Mem → QE → QX → Prop) : Prop :=
  ∃ f fd ps, X.mg x = some (.ref f) ∧ PySem.W.keepIn X.K (.ref f) = true ∧ Binds X.K fd ps [] ∧ FnOk X.prog X.w X.K X.mg X.base (L2N.CX X.prog X.w) k f fd ps (spL X.K RX t)
/-- .. where an error is handled -/
def CalleeH (X : Cx) (RX : RXT) (k : Nat) (x : Str) (t : List D → Mem → QE → QX → Prop) : Prop :=
  ∃ f fd ps, X.mg x = some (.ref f) ∧ PySem.W.keepIn X.K (.ref f) = true ∧ Binds X.K fd ps [] ∧ L2H.FnH X.prog X.w X.K X.mg X.base (L2N.CX X.prog X.w) k f fd ps (spL X.K RX t)
theorem StE.hide {i : Nat} (s : StE K σ H env M) : StE K σ H (env.set i .no) M where
  len := by simp [s.len]
  vals := fun j e h => by
    by_cases hj : j = i
    · subst hj
      by_cases hl : j < env.length
      · rw [List.getElem?_set_self hl] at h; cases h
      · rw [List.getElem?_eq_none (by simpa using Nat.not_lt.mp hl)] at h; cases h
    · rw [List.getElem?_set_ne (Ne.symm hj)] at h
      exact s.vals j e h
  owns := fun j p o h => s.owns j p o (own_setNo h).1
  inj := fun j k p o o' h h' => s.inj j k p o o' (own_setNo h).1 (own_setNo h').1
  mem := s.mem
  excs := fun j a cl d' x h => by
    by_cases hj : j = i
    · subst hj
      by_cases hl : j < env.length
      · rw [List.getElem?_set_self hl] at h; cases h
      · rw [List.getElem?_eq_none (by simpa using Nat.not_lt.mp hl)] at h; cases h
    · rw [List.getElem?_set_ne (Ne.symm hj)] at h
      exact s.excs j a cl d' x h
structure Aft (K : PySem.W.Frag) (σ : L2.St) (env : Env) (H : Hp) (M : Mem) (H' : Hp) (M' : Mem) (ls : List (Nat × Option MO)) : Prop where
  mem : MemOk K H' M'
  tm : Tm K H H'
  aft : ∀ H'' M'', Ext [] H' M' H'' M'' → MemOk K H'' M'' → backs M'' ls → Ext env H M H'' (drps M'' ls) ∧ StE K σ H'' env (drps M'' ls)
def liftAs (K : PySem.W.Frag) (RX : RXT) (W : WX) (t : Env → Mem → (List D → List (Nat × Option MO) → Mem → Prop) → QX → Prop) : TA := fun σ H Q => ∃ env M, StE K σ H env M ∧
  t env M (fun ds ls M' => ∀ vs H', Aft K σ env H M H' M' ls → Reps K H' ds vs → Q vs H') (postX K RX W σ H env M)
theorem Ext.weak (x : Ext [] H M H1 M1) : Ext env H M H1 M1 := fun a o h n _ => x a o h n fun i q o' e => by simp at e
theorem StE.ext (s : StE K σ H env M) (x : Ext [] H M H1 M1) (m : MemOk K H1 M1) : StE K σ H1 env M1 where
  len := s.len
  vals := fun i d e => by obtain ⟨v, h1, h2⟩ := s.vals i d e; exact ⟨v, h1, h2.mono (Ext.tm0 s.mem x)⟩
  owns := fun i p o e => by
    obtain ⟨h1, h2, h3⟩ := s.owns i p o e
    have go : ∀ u, H p = some u → H1 p = some u ∧ M1 p = none := fun u hu => x p u hu h3 fun i q o' e => by simp at e
    refine ⟨h1, h2.step (fun u hu => (go u hu).1) (Ext.tm0 s.mem x), ?_⟩
    cases e5 : H p with
    | none => exact absurd e5 h2.notTup.2.2
    | some u => exact (go u e5).2
  inj := s.inj
  mem := m
  excs := s.excsExt0 x (Ext.tm0 s.mem x)
theorem Aft.nil (s : StE K σ H env M) : Aft K σ env H M H M [] := ⟨s.mem, Tm.refl, fun H'' M'' x m _ => ⟨x.weak, s.ext x m⟩⟩
theorem js_nil : PA X [] (liftAs X.K RX W (wAs F .nil)) := PA.imp pa_nil fun σ H Q ⟨env, M, s, h⟩ => h [] H (Aft.nil s) rfl
theorem js_cons (hF : FMono F) {e : Expr} {es : List Expr} {ie : IE} {ies : IAs} (ha : PE X e (liftE X.K RX W (wE F ie))) (hr : PA X es (liftAs X.K RX W (wAs F ies)))
    (hs : starEach (e :: es) X.env = (false, eval e X.env) :: starEach es X.env) : PA X (e :: es) (liftAs X.K RX W (wAs F (.cons ie ies))) :=
  PA.imp (pa_cons ha hr hs) fun σ H Q ⟨env, M, s, h⟩ => ⟨env, M, s, wE_mono hF ie (fun d M1 q v H1 x1 s1 r1 =>
    ⟨env, M1, s1, wAs_mono hF ies (fun ds ls M2 q vs H2 af r2 => q (v :: vs) H2 ⟨af.mem, (x1.tm s).trans af.tm, fun H'' M'' x m b => by
      obtain ⟨y1, y2⟩ := af.aft H'' M'' x m b
      exact ⟨x1.trans y1, y2⟩⟩ ⟨v, vs, rfl, r1.mono af.tm, r2⟩) (fun _ _ q => q.go x1) q⟩) (fun _ _ q => q) h⟩
theorem js_tmp (hF : FMono F) {e : Expr} {es : List Expr} {n : IN} {ies : IAs} (ha : PE X e (liftN X.K RX W (wN F n))) (hr : PA X es (liftAs X.K RX W (wAs F ies)))
    (hs : starEach (e :: es) X.env = (false, eval e X.env) :: starEach es X.env) : PA X (e :: es) (liftAs X.K RX W (wAs F (.tmp n ies))) :=
  PA.imp (pa_cons ha hr hs) fun σ H Q ⟨env, M, s, h⟩ => ⟨env, M, s, wN_mono hF n (fun xs M1 q p us H1 x1 s1 hp r1 hM hf no =>
    ⟨env, upd M1 p (.lst xs), s1.put hp r1 hM no, wAs_mono hF ies (fun ds ls M2 q vs H2 af r2 => q (.ref p :: vs) H2 ⟨af.mem, (x1.tm s).trans af.tm, fun H'' M'' x m b => by
      obtain ⟨y1, y2⟩ := af.aft H'' M'' x m b
      refine ⟨fun a o h n k => ?_, y2.sub Sub.drp⟩
      obtain ⟨z1, z2⟩ := x1 a o h n k
      have ha : a ≠ p := fun z => by subst z; rw [hf n] at h; cases h
      obtain ⟨z3, z4⟩ := y1 a o z1 (by rw [upd_other ha]; exact z2) k
      exact ⟨z3, by show drp _ p a = none; rw [drp_other ha]; exact z4⟩⟩ ⟨.ref p, vs, rfl, rfl, r2⟩) (fun _ _ z => z.elim) (q p hM)⟩) (fun _ _ q => q) h⟩
theorem js_lend (hF : FMono F) {i : Nat} {x : Str} {pos : Pos} {es : List Expr} {ies : IAs} (hN : X.N[i]? = some x) (hv : Vis X.env.scope x) (hd : (x == ("__debug__" : Str)) = false) (hcd : (x == ("__classdict__" : Str)) = false)
    (hr : PA X es (liftAs X.K RX W (wAs F ies))) (hs : starEach (.Name x pos :: es) X.env = (false, eval (.Name x pos) X.env) :: starEach es X.env) : PA X (.Name x pos :: es) (liftAs X.K RX W (wAs F (.lend i ies))) :=
  PA.imp (pa_cons (pe_var (i := i) hN hv hd hcd) hr hs) fun σ H Q ⟨env, M, s, p, o, e, h⟩ => by
    obtain ⟨h1, h2, h3⟩ := s.owns i p o e
    have s' : StE X.K σ H (env.set i .no) (upd M p o) := by
      refine ⟨s.hide.len, s.hide.vals, fun j q o' e' => ?_, s.hide.inj, fun a u e' => ?_, s.hide.excs⟩
      · obtain ⟨g1, g2, g3⟩ := s.hide.owns j q o' e'
        refine ⟨g1, g2, ?_⟩
        rw [upd_other (fun z => by subst z; obtain ⟨k1, k2⟩ := own_setNo e'; exact k2 (s.inj j i q o' o k1 e))]
        exact g3
      · by_cases hp : a = p
        · subst hp; rw [upd_self] at e'; cases e'; exact h2
        · rw [upd_other hp] at e'; exact s.mem a u e'
    refine ⟨_, h1, env.set i .no, upd M p o, s', wAs_mono hF ies (fun ds ls M2 q vs H2 af r2 => q (.ref p :: vs) H2 ⟨af.mem, af.tm, fun H'' M'' x m b => ?_⟩ ⟨.ref p, vs, rfl, rfl, r2⟩) (fun _ _ z => z.elim) h⟩
    obtain ⟨b1, b2⟩ := b
    obtain ⟨y1, y2⟩ := af.aft H'' M'' x m b2
    refine ⟨fun a u ha n k => ?_, ?_⟩
    · have hap : a ≠ p := (k i p o e).symm
      obtain ⟨z3, z4⟩ := y1 a u ha (by rw [upd_other hap]; exact n) fun j q o' e' => k j q o' (own_setNo e').1
      exact ⟨z3, by show drp _ p a = none; rw [drp_other hap]; exact z4⟩
    · have neq : ∀ (j : Nat) q o', (env.set i .no)[j]? = some (.own q o') → q ≠ p := fun j q o' e' z => by
        subst z
        have := (y2.owns j _ o' e').2.2
        rw [b1] at this; cases this
      have back : ∀ (j : Nat) q o', env[j]? = some (.own q o') → j ≠ i → (env.set i .no)[j]? = some (.own q o') := fun j q o' e' hj => by
        rw [List.getElem?_set_ne (Ne.symm hj)]; exact e'
      refine ⟨s.len, fun j d e' => ?_, fun j q o' e' => ?_, s.inj, fun a u e' => ?_, fun j a cl d x e' => by
        by_cases hj : j = i
        · subst hj; rw [e] at e'; cases e'
        · exact y2.excs j a cl d x (by rw [List.getElem?_set_ne (Ne.symm hj)]; exact e')⟩
      · by_cases hj : j = i
        · subst hj; rw [e] at e'; cases e'
        · exact y2.vals j d (by rw [List.getElem?_set_ne (Ne.symm hj)]; exact e')
      · by_cases hj : j = i
        · subst hj; rw [e] at e'; cases e'
          exact ⟨h1, y2.mem p o b1, drp_self⟩
        · obtain ⟨g1, g2, g3⟩ := y2.owns j q o' (back j q o' e' hj)
          refine ⟨g1, g2, ?_⟩
          show drp _ p q = none
          rw [drp_other (neq j q o' (back j q o' e' hj))]; exact g3
      · exact y2.mem a u (Sub.drp a u e')
theorem call_go (hF : FMono F) {f : Nat} {as : IAs} {σ : L2.St} {H : Hp} {Q : VK} (h : liftE K RX W (wE F (.call f as)) σ H Q) :
    liftAs K RX W (wAs F as) σ H fun vs H1 => spL K RX (F f) vs H1 Q (WE W σ) := by
  obtain ⟨env, M, s, h⟩ := h
  refine ⟨env, M, s, wAs_mono hF as (fun ds ls M1 q vs H1 af r => ⟨ds, M1, r, af.mem, hF.mono (fun d M2 q v H2 x2 m2 rv => ?_) (fun x M2 q c dd H2 x2 m2 rx => ?_) q⟩) (fun _ _ q => q) h⟩
  · obtain ⟨y1, y2⟩ := af.aft H2 M2 x2 m2 q.1
    exact q.2 v H2 y1 y2 rv
  · obtain ⟨y1, y2⟩ := af.aft H2 M2 x2 m2 q.1
    exact q.2 c dd H2 y1 y2 rx
theorem je_call (hF : FMono F) {f : Nat} {as : IAs} {x : Str} {e : Expr} {es : List Expr} {k : Nat} {p pos : Pos} (tk : L2N.Takes X W) (hr : Room k X.A) (hg : Gl X x) (cl : Callee X RX k x (F f)) (ha : PA X (e :: es) (liftAs X.K RX W (wAs F as)))
    (hdb : (x == ("__debug__" : Str)) = false) (he : starEach (e :: es) X.env = (false, eval e X.env) :: starEach es X.env) (hpl : (backTo pos (starEach es X.env)).any (·.1) = false) :
    PE X (.Call (.Name x p) (e :: es) [] pos) (liftE X.K RX W (wE F (.call f as))) := by
  obtain ⟨a, fd, ps, hm, hk, hb, fo⟩ := cl
  exact PE.imp (pe_callS fo hr hg hm hk hb (fun σ => L2N.passAt tk σ) ha hdb he hpl) fun σ H Q h => call_go hF h
theorem pe_callS0 {CX : CXT} {k : Nat} {f : Addr} {fd : FuncData} {ps : List Str} {sp : Sp} {E : L2.St → XK} {x : Str} {p pos : Pos} (F : FnOk X.prog X.w X.K X.mg X.base CX k f fd ps sp) (hr : Room k X.A) (hg : Gl X x) (hm : X.mg x = some (.ref f))
    (hk : PySem.W.keepIn X.K (.ref f) = true) (hb : Binds X.K fd ps []) (hx : ∀ σ, PassesAt CX X σ (E σ)) (hdb : (x == ("__debug__" : Str)) = false) : PE X (.Call (.Name x p) [] [] pos) (tCallS sp E tNil) := by
  refine ⟨fun pins s σ H Q I h => ?_⟩
  refine wpAny_Call_Name_kw (ld_glob I hg hm ?_ hdb)
  exact PySem.W.callWith_K0 I.kIn hk (run_fnS (us := []) F hr hb (hx σ) I .nil h)
theorem je_call0 (hF : FMono F) {f : Nat} {x : Str} {k : Nat} {p pos : Pos} (tk : L2N.Takes X W) (hr : Room k X.A) (hg : Gl X x) (cl : Callee X RX k x (F f)) (hdb : (x == ("__debug__" : Str)) = false) :
    PE X (.Call (.Name x p) [] [] pos) (liftE X.K RX W (wE F (.call f .nil))) := by
  obtain ⟨a, fd, ps, hm, hk, hb, fo⟩ := cl
  exact PE.imp (pe_callS0 fo hr hg hm hk hb (fun σ => L2N.passAt tk σ) hdb) fun σ H Q h => by
    obtain ⟨env, M, s, h⟩ := call_go hF h
    exact h [] H (Aft.nil s) rfl
theorem je_callH (hF : FMono F) {f : Nat} {as : IAs} {x : Str} {e : Expr} {es : List Expr} {k : Nat} {p pos : Pos} (tk : L2N.Takes X W) (hr : L2H.RoomH k X.A) (hot : L2H.HotC X) (hg : Gl X x) (cl : CalleeH X RX k x (F f)) (ha : PA X (e :: es) (liftAs X.K RX W (wAs F as)))
    (hdb : (x == ("__debug__" : Str)) = false) (he : starEach (e :: es) X.env = (false, eval e X.env) :: starEach es X.env) (hpl : (backTo pos (starEach es X.env)).any (·.1) = false) :
    PE X (.Call (.Name x p) (e :: es) [] pos) (liftE X.K RX W (wE F (.call f as))) := by
  obtain ⟨a, fd, ps, hm, hk, hb, fo⟩ := cl
  exact PE.imp (L2H.pe_callH fo hr hot hg hm hk hb (fun σ => L2N.passAt tk σ) ha hdb he hpl) fun σ H Q h => call_go hF h
/-- list[i], x in list -/
theorem je_lidxO (hF : FMono F) {i : Nat} {x : Str} {b : Expr} {ib : IE} {p pos : Pos} (hN : X.N[i]? = some x) (hv : Vis X.env.scope x) (hd : (x == ("__debug__" : Str)) = false) (hcd : (x == ("__classdict__" : Str)) = false)
    (hb : PE X b (liftE X.K RX W (wE F ib))) (hs : PlainIx b) : PE X (.Subscript (.Name x p) b pos) (liftE X.K RX W (wE F (.lidx (.own i) ib))) :=
  PE.imp (pe_ix ix_list (pe_var (i := i) hN hv hd hcd) hb hs) fun σ H Q ⟨env, M, s, p, xs, e, h⟩ => by
    obtain ⟨h1, _⟩ := s.owns i p _ e
    refine ⟨_, h1, env, M, s, wE_mono hF ib (fun y M2 q u H2 x2 s2 r2 => ?_) (fun _ _ q => q) h⟩
    obtain ⟨k, v, rfl, e2, q⟩ := q
    cases r2
    obtain ⟨_, ⟨vs, h2, h3⟩, _⟩ := s2.owns i p _ e
    obtain ⟨z, e3, r⟩ := h3.atI e2
    exact ⟨p, vs, k, z, rfl, rfl, SqL.of h2, e3, (q.go x2).at s2 r⟩
theorem je_lidxN (hF : FMono F) {a b : Expr} {n : IN} {ib : IE} {pos : Pos} (ha : PE X a (liftN X.K RX W (wN F n))) (hb : PE X b (liftE X.K RX W (wE F ib))) (hs : PlainIx b) :
    PE X (.Subscript a b pos) (liftE X.K RX W (wE F (.lidx (.new n) ib))) :=
  PE.imp (pe_ix ix_list ha hb hs) fun σ H Q ⟨env, M, s, h⟩ => ⟨env, M, s, wN_mono hF n (fun xs M1 q p vs H1 x1 s1 hp r hM hf no => ⟨env, M1, s1, wE_mono hF ib (fun y M2 q u H2 x2 s2 r2 => by
    obtain ⟨k, v, rfl, e2, q⟩ := q
    cases r2
    obtain ⟨z, e3, r⟩ := (r.mono (x2.tm s1)).atI e2
    exact ⟨p, vs, k, z, rfl, rfl, SqL.of (x2 p _ hp hM no).1, e3, (q.go (x1.trans x2)).at s2 r⟩) (fun _ _ q => q.go x1) q⟩) (fun _ _ q => q) h⟩
theorem op_inL (neg : Bool) (hu : X.A.units + 100 < cLine) : OpR X (compareOp (if neg then .NotIn else .In)) (fun x y H Q => ∃ d p vs ds, y = .ref p ∧ Rep X.K H d x ∧ SqL X.K H p vs ∧ Reps X.K H ds vs ∧ D.flat 60 d = true ∧ D.flats 60 ds = true ∧ Q (.bl (neg != ds.any fun z => D.eqv z d)) H) := by
  intro pins s σ H x y v u Q I rx ry h
  obtain ⟨d, p, vs, ds, rfl, r, hl, rs, f, g, q⟩ := h
  cases ry
  cases neg with
  | true => exact notin_lst hu I rx r hl rs f g ⟨.bl _, H, I, rfl, by simpa using q⟩
  | false => exact in_lst hu I rx r hl rs f g ⟨.bl _, H, I, rfl, by simpa using q⟩
theorem je_linn (hF : FMono F) (neg : Bool) (hu : X.A.units + 100 < cLine) {a b : Expr} {ia : IE} {l : IL} {pos : Pos} (ha : PE X a (liftE X.K RX W (wE F ia))) (hb : PE X b (liftL X.K RX W (wL F l))) (hm : behindInMarks (if neg then .NotIn else .In) b = false) :
    PE X (.Compare a [if neg then .NotIn else .In] [b] pos) (liftE X.K RX W (wE F (.linn neg ia l))) :=
  PE.imp (pe_cmpR (op_inL neg hu) ha hb hm) fun σ H Q ⟨env, M, s, h⟩ => by
    refine ⟨env, M, s, wE_mono hF ia (fun d M1 q x H1 x1 s1 r1 => ?_) (fun _ _ q => q) h⟩
    refine ⟨env, M1, s1, wL_mono hF l (fun xs M2 q p vs H2 x2 s2 hl r2 => ?_) (fun _ _ q => q.go x1) q⟩
    exact ⟨d, p, vs, xs, rfl, r1.mono (x2.tm s1), hl, r2, q.1, q.2.1, (postE.go (x1.trans x2) q.2.2).at s2 (d := .bl _) rfl⟩
theorem jt_linn (hF : FMono F) (neg : Bool) (hu : X.A.units + 100 < cLine) {a b : Expr} {ia : IE} {l : IL} {pos : Pos} (ha : PE X a (liftE X.K RX W (wE F ia))) (hb : PE X b (liftL X.K RX W (wL F l))) (hm : behindInMarks (if neg then .NotIn else .In) b = false) :
    PT X (.Compare a [if neg then .NotIn else .In] [b] pos) (liftT X.K RX W (wT F (.v (.linn neg ia l)))) :=
  PT.imp (pt_cmpR (op_inL neg hu) ha hb hm) fun σ H Q ⟨env, M, s, h⟩ => by
    refine ⟨env, M, s, wE_mono hF ia (fun d M1 q x H1 x1 s1 r1 => ?_) (fun _ _ q => q) h⟩
    refine ⟨env, M1, s1, wL_mono hF l (fun xs M2 q p vs H2 x2 s2 hl r2 => ?_) (fun _ _ q => q.go x1) q⟩
    exact ⟨d, p, vs, xs, rfl, r1.mono (x2.tm s1), hl, r2, q.1, q.2.1, _, rfl, q.2.2 H2 (x1.trans x2) s2⟩
end
end DL
/-! Soundness: statements. -/
namespace DL
open PySem PySem.Spec PyProof.Rows L2
section
variable {X : Cx} {RX : RXT} {W : WX} {F : FS}
variable {K : PySem.W.Frag} {σ : L2.St} {H H1 H2 : Hp} {env : Env} {M M1 M2 : Mem} {Q : VK} {B : Hp} {D : Ends}
def ktOf (K : PySem.W.Frag) (RX : RXT) (W : WX) (B : Hp) (D : Ends) : Kt where
  nx := fun e m => ∀ σ' H', StE K σ' H' e m → BO B H' e m → D.nx σ' H'
  rt := fun d m => ∀ v H', MemOk K H' m → BR B H' m → Rep K H' d v → D.rt v H'
  bk := fun e m => ∀ σ' H', StE K σ' H' e m → BO B H' e m → D.bk σ' H'
  ct := fun e m => ∀ σ' H', StE K σ' H' e m → BO B H' e m → D.ct σ' H'
  xc := fun x e m => ∀ c dd σ' H', StE K σ' H' e m → BO B H' e m → RX H' c dd x → W c dd σ' H'
def liftS (K : PySem.W.Frag) (RX : RXT) (W : WX) (w : Env → Mem → Kt → Prop) : TS := fun D σ H => ∃ env M B, StE K σ H env M ∧ BO B H env M ∧ w env M (ktOf K RX W B D)
theorem BO.step (b : BO B H env M) (x : Ext env H M H1 M1) : BO B H1 env M1 := fun a o e =>
  let ⟨h1, h2, h3⟩ := b a o e
  let ⟨h4, h5⟩ := x a o h1 h2 h3
  ⟨h4, h5, h3⟩
theorem BO.br (b : BO B H env M) : BR B H M := fun a o e => let ⟨h1, h2, _⟩ := b a o e; ⟨h1, h2⟩
theorem BO.envs {e : Env} (b : BO B H env M) (h : ∀ (i : Nat) q o', e[i]? = some (.own q o') → ∃ (j : Nat) (o2 : MO), env[j]? = some (.own q o2)) : BO B H e M := fun a o e =>
  let ⟨h1, h2, h3⟩ := b a o e
  ⟨h1, h2, fun i q o' e' => let ⟨j, o2, e2⟩ := h i q o' e'; h3 j q o2 e2⟩
theorem Kp.bo {is : List Nat} {e : Env} (k : Kp is env e) (b : BO B H env M) : BO B H e M := b.envs fun i q o' e' => ⟨i, o', (k.own i q o' e').1⟩
theorem xc_post {x : Xn} {M' : Mem} (b : BO B H env M) (h : (ktOf K RX W B D).xc x env M') : postX K RX W σ H env M x M' := fun c dd H' x' s' r => h c dd σ H' s' (b.step x') r
/-- an expression, then what follows -/
theorem exp_go (hF : FMono F) {e : IE} (s : StE K σ H env M) (b : BO B H env M) {q : DL.D → Mem → Prop} {R : VK} (h : wE F e env M q fun x m => (ktOf K RX W B D).xc x env m)
    (hq : ∀ d M1 v H1, Ext env H M H1 M1 → StE K σ H1 env M1 → BO B H1 env M1 → Rep K H1 d v → q d M1 → R v H1) : liftE K RX W (wE F e) σ H R :=
  ⟨env, M, s, wE_mono hF e (fun d M1 q v H1 x1 s1 r1 => hq d M1 v H1 x1 s1 (b.step x1) r1 q) (fun _ _ q => xc_post b q) h⟩
theorem js_pass {pos : Pos} : PS X (.Pass pos) (liftS X.K RX W (wS F .pass)) := PS.imp ps_pass fun D σ H ⟨env, M, B, s, b, q⟩ => q σ H s b
theorem js_brk {pos : Pos} : PS X (.Break pos) (liftS X.K RX W (wS F .brk)) := PS.imp ps_break fun D σ H ⟨env, M, B, s, b, q⟩ => q σ H s b
theorem js_cnt {pos : Pos} : PS X (.Continue pos) (liftS X.K RX W (wS F .cnt)) := PS.imp ps_continue fun D σ H ⟨env, M, B, s, b, q⟩ => q σ H s b
theorem js_ret (hF : FMono F) {e : Expr} {ie : IE} {pos : Pos} (h : PE X e (liftE X.K RX W (wE F ie))) : PS X (.Return (some e) pos) (liftS X.K RX W (wS F (.ret ie))) :=
  PS.imp (ps_ret h) fun D σ H ⟨env, M, B, s, b, q⟩ => exp_go hF s b q fun d M1 v H1 x1 s1 b1 r q => q v H1 s1.mem b1.br r
theorem js_retN {pos : Pos} : PS X (.Return none pos) (liftS X.K RX W (wS F .retN)) := PS.imp ps_retN fun D σ H ⟨env, M, B, s, b, q⟩ => q .non H s.mem b.br rfl
theorem js_retO {i : Nat} {x : Str} {p pos : Pos} (hN : X.N[i]? = some x) (hv : Vis X.env.scope x) (hd : (x == ("__debug__" : Str)) = false) (hcd : (x == ("__classdict__" : Str)) = false) :
    PS X (.Return (some (.Name x p)) pos) (liftS X.K RX W (wS F (.retO i))) :=
  PS.imp (ps_ret (pe_var (i := i) hN hv hd hcd)) fun D σ H ⟨env, M, B, s, b, p, o, e, q⟩ => by
    obtain ⟨h1, h2, h3⟩ := s.owns i p o e
    refine ⟨_, h1, q h3 _ H (fun a u e' => ?_) (fun a u e' => ?_) rfl⟩
    · by_cases hp : a = p
      · subst hp; rw [upd_self] at e'; cases e'; exact h2
      · rw [upd_other hp] at e'; exact s.mem a u e'
    · obtain ⟨g1, g2, g3⟩ := b a u e'
      exact ⟨g1, by rw [upd_other (g3 i p o e).symm]; exact g2⟩
theorem js_exp (hF : FMono F) {e : Expr} {ie : IE} {pos : Pos} (h : PE X e (liftE X.K RX W (wE F ie))) (hs : swapsWith e none pos.line X.env = pure false) : PS X (.Expr e pos) (liftS X.K RX W (wS F (.exp ie))) :=
  PS.imp (ps_expr h hs) fun D σ H ⟨env, M, B, s, b, q⟩ => exp_go hF s b q fun d M1 v H1 x1 s1 b1 r q => q σ H1 s1 b1
theorem js_asg (hF : FMono F) {tg e : Expr} {t : Tg} {g : TG} {ie : IE} {pos : Pos} (h : PE X e (liftE X.K RX W (wE F ie))) (hg : GOk X t tg g) (hs : swapsWithSole [tg] e pos.line X.env = pure false) (hw : swappedStores [tg] e X.env = pure none)
    (h1 : (assignEach [tg] X.env).map (·.2) = [assign tg X.env]) : PS X (.Assign [tg] e pos) (liftS X.K RX W (wS F (.asg t ie))) :=
  PS.imp (ps_asg h hg.pg hs hw h1) fun D σ H ⟨env, M, B, s, b, q⟩ => exp_go hF s b q fun d M1 v H1 x1 s1 b1 r q =>
    hg.go s1 r (wTg_mono (fun e ⟨q, k⟩ σ' s' _ => q σ' H1 s' (k.bo b1)) (wTg_keep q))
/-- names become the items of a list -/
theorem js_unl (hF : FMono F) {is : List Nat} {es : List Expr} {kk : Nat} {p2 : Pos} {e : Expr} {ie : IE} {pos : Pos} (hc : X.calm = true) (h : PE X e (liftE X.K RX W (wE F ie))) (hgs : PGs X es (gNames is)) (hn : (assignEach es X.env).length = is.length) (hst : (assignEach es X.env).findIdx? (·.1) = none)
    (hs : swapsWithSole [.Tuple es kk p2] e pos.line X.env = pure false) (hw : swappedStores [.Tuple es kk p2] e X.env = pure none) (h1 : (assignEach [.Tuple es kk p2] X.env).map (·.2) = [assign (.Tuple es kk p2) X.env]) : PS X (.Assign [.Tuple es kk p2] e pos) (liftS X.K RX W (wS F (.unl is ie))) :=
  PS.imp (ps_asg h (pg_unl hc hgs hn hst) hs hw h1) fun D σ H ⟨env, M, B, s, b, q⟩ => exp_go hF s b q fun d M1 v H1 x1 s1 b1 r q => by
    obtain ⟨a, xs, rfl, e1, hl, q⟩ := q
    cases r
    obtain ⟨vs, g1, g2⟩ := s1.mem a _ e1
    have w := wTg_keep (t := .tp is) (d := .tup xs) (env := env) (show wTg (.tp is) (.tup xs) env (fun env' => (ktOf X.K RX W B D).nx env' M1) from ⟨hl, q⟩)
    exact ⟨a, vs, rfl, SqL.of g1, by rw [← g2.length]; exact hl, gNames_go (js := is) s1 g2 hl (fun _ h => h) fun σ' s' _ => w.2.1 σ' H1 s' (w.2.2.bo b1)⟩
/-- a slot becomes a new list -/
theorem StE.setOwn {i : Nat} {p : Addr} {xs : List DL.D} {vs : List V} (s : StE K σ H env M) (h : H p = some (.lst vs)) (r : Reps K H xs vs) (hM : M p = none) (no : ∀ (j : Nat) q o', env[j]? = some (.own q o') → j ≠ i → q ≠ p) :
    StE K (σ.set i (some (.ref p))) H (env.set i (.own p (.lst xs))) M := by
  have cs : ∀ (j : Nat) z, (env.set i (.own p (.lst xs)))[j]? = some z → (j = i ∧ z = .own p (.lst xs) ∧ i < env.length) ∨ (j ≠ i ∧ env[j]? = some z) := fun j z e => by
    by_cases hj : j = i
    · subst hj
      by_cases hl : j < env.length
      · rw [List.getElem?_set_self hl] at e; cases e; exact .inl ⟨rfl, rfl, hl⟩
      · rw [List.getElem?_eq_none (by simpa using Nat.not_lt.mp hl)] at e; cases e
    · rw [List.getElem?_set_ne (Ne.symm hj)] at e; exact .inr ⟨hj, e⟩
  refine ⟨by simp [s.len], fun j d e => ?_, fun j q o' e => ?_, fun j k q o o' e e' => ?_, s.mem, fun j a cl d x e => by
    rcases cs j _ e with ⟨_, z, _⟩ | ⟨hj, e⟩
    · cases z
    · obtain ⟨h1, h2⟩ := s.excs j a cl d x e
      exact ⟨by rw [List.getElem?_set_ne (Ne.symm hj)]; exact h1, h2⟩⟩
  · rcases cs j _ e with ⟨_, z, _⟩ | ⟨hj, e⟩
    · cases z
    · obtain ⟨v, h1, h2⟩ := s.vals j d e
      exact ⟨v, by rw [List.getElem?_set_ne (Ne.symm hj)]; exact h1, h2⟩
  · rcases cs j _ e with ⟨rfl, z, hl⟩ | ⟨hj, e⟩
    · cases z
      exact ⟨by rw [List.getElem?_set_self (s.len ▸ hl)], ⟨vs, h, r⟩, hM⟩
    · obtain ⟨h1, h2, h3⟩ := s.owns j q o' e
      exact ⟨by rw [List.getElem?_set_ne (Ne.symm hj)]; exact h1, h2, h3⟩
  · rcases cs j _ e with ⟨hj, z, hl⟩ | ⟨hj, e1⟩
    · rcases cs k _ e' with ⟨hk, z', hl'⟩ | ⟨hk, e2⟩
      · rw [hj, hk]
      · cases z; exact absurd rfl (no k _ o' e2 hk)
    · rcases cs k _ e' with ⟨hk, z', hl'⟩ | ⟨hk, e2⟩
      · cases z'; exact absurd rfl (no j _ o e1 hj)
      · exact s.inj j k q o o' e1 e2
/-- .. the same list, written -/
theorem StE.wrOwn {i : Nat} {p : Addr} {o : MO} {xs : List DL.D} {vs vs' : List V} (s : StE K σ H env M) (e : env[i]? = some (.own p o)) (h : H p = some (.lst vs)) (r : Reps K H xs vs') :
    StE K σ (L2.upd H p (.lst vs')) (env.set i (.own p (.lst xs))) M := by
  obtain ⟨h1, h2, h3⟩ := s.owns i p o e
  have t : Tm K H (L2.upd H p (.lst vs')) := upd_tm (fun _ z => by rw [h] at z; cases z) fun _ _ z => by rw [h] at z; cases z
  have hl : i < env.length := (List.getElem?_eq_some_iff.mp e).1
  have cs : ∀ (j : Nat) z, (env.set i (.own p (.lst xs)))[j]? = some z → (j = i ∧ z = .own p (.lst xs)) ∨ (j ≠ i ∧ env[j]? = some z) := fun j z e => by
    by_cases hj : j = i
    · subst hj; rw [List.getElem?_set_self hl] at e; cases e; exact .inl ⟨rfl, rfl⟩
    · rw [List.getElem?_set_ne (Ne.symm hj)] at e; exact .inr ⟨hj, e⟩
  refine ⟨by simp [s.len], fun j d e => ?_, fun j q o' e' => ?_, fun j k q o1 o2 e1 e2 => ?_, fun a u e' => ?_, fun j a cl d x e => by
    rcases cs j _ e with ⟨_, z⟩ | ⟨hj, e⟩
    · cases z
    · obtain ⟨h4, h5⟩ := s.excs j a cl d x e
      exact ⟨h4, h5.upd (fun _ z => by rw [h] at z; cases z) t⟩⟩
  · rcases cs j _ e with ⟨_, z⟩ | ⟨hj, e⟩
    · cases z
    · obtain ⟨v, h1, h2⟩ := s.vals j d e; exact ⟨v, h1, h2.mono t⟩
  · rcases cs j _ e' with ⟨hj, z⟩ | ⟨hj, e1⟩
    · cases z; subst hj; exact ⟨h1, ⟨vs', L2.upd_same, r.mono t⟩, h3⟩
    · obtain ⟨g1, g2, g3⟩ := s.owns j q o' e1
      have hq : q ≠ p := fun z => by subst z; exact hj (s.inj j i q o' o e1 e)
      exact ⟨g1, g2.step (fun u hu => by rw [L2.upd_ne hq]; exact hu) t, g3⟩
  · have go : ∀ (j : Nat) q o1, (env.set i (.own p (.lst xs)))[j]? = some (.own q o1) → ∃ o2, env[j]? = some (.own q o2) := fun j q o1 e1 => by
      rcases cs j _ e1 with ⟨hj, z⟩ | ⟨hj, e5⟩
      · cases z; subst hj; exact ⟨o, e⟩
      · exact ⟨o1, e5⟩
    obtain ⟨o3, e3⟩ := go j q o1 e1
    obtain ⟨o4, e4⟩ := go k q o2 e2
    exact s.inj j k q o3 o4 e3 e4
  · have ha : a ≠ p := fun z => by subst z; rw [h3] at e'; cases e'
    exact (s.mem a u e').step (fun u hu => by rw [L2.upd_ne ha]; exact hu) t
theorem bo_own {i : Nat} {p : Addr} {o o' : MO} (b : BO B H env M) (e : env[i]? = some (.own p o)) {vs : List V} : BO B (L2.upd H p (.lst vs)) (env.set i (.own p o')) M := fun a u ea => by
  obtain ⟨h1, h2, h3⟩ := b a u ea
  have ha : p ≠ a := h3 i p o e
  refine ⟨by rw [L2.upd_ne ha.symm]; exact h1, h2, fun j q o2 e2 => ?_⟩
  by_cases hj : j = i
  · subst hj
    rw [List.getElem?_set_self (List.getElem?_eq_some_iff.mp e).1] at e2
    cases e2; exact ha
  · rw [List.getElem?_set_ne (Ne.symm hj)] at e2; exact h3 j q o2 e2
theorem bo_new {i : Nat} {p : Addr} {o' : MO} (b : BO B H1 env M1) (hp : B p = none) : BO B H1 (env.set i (.own p o')) M1 := fun a u ea => by
  obtain ⟨h1, h2, h3⟩ := b a u ea
  refine ⟨h1, h2, fun j q o2 e2 => ?_⟩
  by_cases hj : j = i
  · subst hj
    by_cases hl : j < env.length
    · rw [List.getElem?_set_self hl] at e2; cases e2
      intro z; subst z; rw [hp] at ea; cases ea
    · rw [List.getElem?_eq_none (by simpa using Nat.not_lt.mp hl)] at e2; cases e2
  · rw [List.getElem?_set_ne (Ne.symm hj)] at e2; exact h3 j q o2 e2
theorem asgN_go (hF : FMono F) {i : Nat} {n : IN} {D : Ends} {σ : L2.St} {H : Hp} (h : liftS K RX W (wS F (.asgN i n)) D σ H) : tAsg (liftN K RX W (wN F n)) (gName i) D σ H := by
  obtain ⟨env, M, B, s, b, q⟩ := h
  refine ⟨env, M, s, wN_mono hF n (fun xs M1 q p vs H1 x1 s1 hp r hM hf no => ?_) (fun _ _ q => xc_post b q) q⟩
  have b1 := b.step x1
  refine q p hM _ H1 (s1.setOwn hp r hM fun j q o' e _ => no j q o' e) (bo_new b1 ?_)
  cases e : B p with
  | none => rfl
  | some u =>
    obtain ⟨h1, h2, _⟩ := b p u e
    rw [hf h2] at h1; cases h1
theorem asgM_go (hF : FMono F) {i : Nat} {n : IN} {D : Ends} {σ : L2.St} {H : Hp} (h : liftS K RX W (wS F (.asgM i n)) D σ H) : tAsg (liftN K RX W (wN F n)) (gName i) D σ H := by
  obtain ⟨env, M, B, s, b, q⟩ := h
  refine ⟨env, M, s, wN_mono hF n (fun xs M1 q p vs H1 x1 s1 hp r hM hf no => ?_) (fun _ _ q => xc_post b q) q⟩
  have b1 := b.step x1
  have s2 := s1.put hp r hM no
  refine q p hM _ H1 (s2.setVal (d := .ref p) rfl) ((Kp.set (i := i) (d := .ref p)).bo (fun a u e => ?_))
  obtain ⟨e1, e2, e3⟩ := b1 a u e
  refine ⟨e1, ?_, e3⟩
  rw [upd_other (fun z => ?_)]
  · exact e2
  · subst z
    obtain ⟨h1, h2, _⟩ := b _ u e
    rw [hf h2] at h1; cases h1
theorem js_par (hF : FMono F) {i j : Nat} {x y : Str} {a b : Expr} {ia ib : IE} {px py pt pos : Pos} {kt k2 pt2} (hc : X.calm = true) (hN : X.N.Nodup) (hi : X.N[i]? = some x) (hj : X.N[j]? = some y) (hij : i ≠ j)
    (hx : X.env.scope.names.lookup x = some .local) (hy : X.env.scope.names.lookup y = some .local) (ha : PE X a (liftE X.K RX W (wE F ia))) (hb : PE X b (liftE X.K RX W (wE F ib)))
    (hs1 : starEach [a, b] X.env = (false, eval a X.env) :: starEach [b] X.env) (hs2 : starEach [b] X.env = [(false, eval b X.env)])
    (hw : swappedStores [.Tuple [.Name x px, .Name y py] kt pt] (.Tuple [a, b] k2 pt2) X.env = pure (some [x, y]))
    (hs : swapsWithSole [.Tuple [.Name x px, .Name y py] kt pt] (.Tuple [a, b] k2 pt2) pos.line X.env = pure false) :
    PS X (.Assign [.Tuple [.Name x px, .Name y py] kt pt] (.Tuple [a, b] k2 pt2) pos) (liftS X.K RX W (wS F (.par i j ia ib))) :=
  PS.imp (ps_par hc hN hi hj hij hx hy (pa_cons ha (pa_cons hb pa_nil hs2) hs1) hw hs) fun D σ H ⟨env, M, B, s, b, q⟩ => exp_go hF s b q fun d M1 v H1 x1 s1 b1 r q =>
    exp_go hF s1 b1 q fun d2 M2 v2 H2 x2 s2 b2 r2 q => by
      refine ⟨v, v2, rfl, q _ H2 ((s2.setVal (r.mono (x2.tm s1))).setVal r2) ?_⟩
      exact (Kp.set (env := env.set i (.val d)) (i := j) (d := d2)).bo ((Kp.set (env := env) (i := i) (d := d)).bo b2)
theorem aug_ok (o : BOp) {pins : List (Addr × Obj)} {s : Shared} {x y : V} {v u : Value} {dx dy : DL.D} {Q : VK} (I : L2.Inv X pins σ H s) (rx : L2.RelV x v) (ry : L2.RelV y u) (hx : Rep X.K H dx x) (hy : Rep X.K H dy y)
    (w : wAug o dx dy fun z => ∀ v H', Alc H H' → Rep X.K H' z v → Q v H') : wpAny (model X.prog X.w) X.A (inplaceOp o.py v u) (EP X pins σ Q) X.xe s := by
  unfold wAug at w
  split at w
  · cases dy <;> first | exact w.1.elim | skip
    cases hx; cases hy; exact iop_fdiv pins s σ H _ _ _ _ _ I rx ry ⟨_, _, rfl, rfl, ⟨w.2.1.1, w.1⟩, w.2.2 _ _ Alc.refl rfl⟩
  · cases dy <;> first | exact w.elim | skip
    cases hx; cases hy; exact iop_add pins s σ H _ _ _ _ _ I rx ry ⟨_, _, rfl, rfl, w _ _ Alc.refl rfl⟩
  · cases dy <;> first | exact w.elim | skip
    cases hx; cases hy; exact iop_sub pins s σ H _ _ _ _ _ I rx ry ⟨_, _, rfl, rfl, w _ _ Alc.refl rfl⟩
  · cases dy <;> first | exact w.elim | skip
    cases hx; cases hy; exact iop_mul pins s σ H _ _ _ _ _ I rx ry ⟨_, _, rfl, rfl, w.1, w.2 _ _ Alc.refl rfl⟩
  · cases dy <;> first | exact w.elim | skip
    cases hx; cases hy; exact iop_mod pins s σ H _ _ _ _ _ I rx ry ⟨_, _, rfl, rfl, w.1, w.2 _ _ Alc.refl rfl⟩
  · cases dy <;> first | exact w.elim | skip
    cases hx; cases hy; exact iop_add_str pins s σ H _ _ _ _ _ I rx ry ⟨_, _, rfl, rfl, w.1, w.2 _ _ Alc.refl rfl⟩
  · exact w.elim
def rAug (K : PySem.W.Frag) (o : BOp) : TIp := fun x y H Q => ∃ dx dy, Rep K H dx x ∧ Rep K H dy y ∧ wAug o dx dy fun z => ∀ v H', Alc H H' → Rep K H' z v → Q v H'
theorem ip_aug (o : BOp) : PIp X o.py (rAug X.K o) := fun pins s σ H x y v u Q I rx ry ⟨dx, dy, hx, hy, w⟩ => aug_ok o I rx ry hx hy w
theorem js_aug (hF : FMono F) {o : BOp} {i : Nat} {x : Str} {e : Expr} {ie : IE} {p pos : Pos} (hN : X.N.Nodup) (hi : X.N[i]? = some x) (hx : Loc X.env.scope x) (h : PE X e (liftE X.K RX W (wE F ie)))
    (hf : X.fn x = true ∨ X.env.scope.names.lookup x = some .local) : PS X (.AugAssign (.Name x p) o.py e pos) (liftS X.K RX W (wS F (.aug i o ie))) :=
  PS.imp (ps_aug hN hi hx h (ip_aug o) hf) fun D σ H ⟨env, M, B, s, b, d, e, q⟩ => by
    obtain ⟨v, h1, h2⟩ := s.vals i d e
    refine ⟨v, h1, exp_go hF s b q fun d2 M1 u H1 x1 s1 b1 r q => ⟨d, d2, h2.mono (x1.tm s), r, wAug_mono (fun z q v H' a r => ?_) q⟩⟩
    exact q _ H' ((s1.alc a).setVal r) ((Kp.set (env := env) (i := i) (d := z)).bo (b1.step (Ext.alc a)))
/-! ### lists of one's own -/
theorem js_app (hF : FMono F) {i : Nat} {x : Str} {e : Expr} {ie : IE} {p ap cp pos : Pos} (hN : X.N[i]? = some x) (hv : Vis X.env.scope x) (hd : (x == ("__debug__" : Str)) = false) (hcd : (x == ("__classdict__" : Str)) = false)
    (h : PE X e (liftE X.K RX W (wE F ie))) (hs : starEach [e] X.env = [(false, eval e X.env)]) (hl : (ap.endLine == cp.line) = true) :
    PS X (.Expr (.Call (.Attribute (.Name x p) "append" ap) [e] [] cp) pos) (liftS X.K RX W (wS F (.app i ie))) :=
  PS.imp (ps_expr (pe_bm PySem.F.plainAttrs_list PySem.F.slot_list_append PySem.F.type_list_append mt_append (pe_var (i := i) hN hv hd hcd) (pa_cons h pa_nil hs) (hfew := by rw [hs]; rfl) (hline := hl) (hs := hs) (hplain := by rfl))) fun D σ H ⟨env, M, B, s, b, q⟩ => by
    obtain ⟨p, xs, e, q⟩ := q
    obtain ⟨h1, ⟨vs, h2, h3⟩, h4⟩ := s.owns i p _ e
    refine ⟨_, h1, .inl ⟨rfl, vs, SqL.of h2⟩, exp_go hF s b q fun d M1 v H1 x1 s1 b1 r q => ?_⟩
    obtain ⟨_, ⟨us, h5, h6⟩, _⟩ := s1.owns i p _ e
    refine ⟨p, us, v, rfl, rfl, h5, by rw [← h6.length]; exact q.1, ?_⟩
    exact q.2 σ _ (s1.wrOwn e h5 (Reps.append h6 ⟨v, [], rfl, r, rfl⟩)) (bo_own b1 e)
theorem js_set (hF : FMono F) {i : Nat} {x : Str} {e k : Expr} {ie ik : IE} {p sp pos : Pos} (hN : X.N[i]? = some x) (hv : Vis X.env.scope x) (hd : (x == ("__debug__" : Str)) = false) (hcd : (x == ("__classdict__" : Str)) = false)
    (h : PE X e (liftE X.K RX W (wE F ie))) (hk : PE X k (liftE X.K RX W (wE F ik))) (hns : ∀ lo hi st q, k ≠ .Slice lo hi st q) (hs : swapsWithSole [.Subscript (.Name x p) k sp] e pos.line X.env = pure false) (hw : swappedStores [.Subscript (.Name x p) k sp] e X.env = pure none) :
    PS X (.Assign [.Subscript (.Name x p) k sp] e pos) (liftS X.K RX W (wS F (.set i ik ie))) :=
  PS.imp (ps_asg h (pg_sub (pe_var (i := i) hN hv hd hcd) hk set_list (by intro v; cases k <;> first | rfl | exact absurd rfl (hns _ _ _ _))) hs hw rfl) fun D σ H ⟨env, M, B, s, b, q⟩ => by
    obtain ⟨p, xs, e, q⟩ := q
    refine exp_go hF s b q fun d M1 v H1 x1 s1 b1 r q => ?_
    obtain ⟨h1, _⟩ := s1.owns i p _ e
    refine ⟨_, h1, exp_go hF s1 b1 q fun y M2 u H2 x2 s2 b2 r2 q => ?_⟩
    obtain ⟨j, m, rfl, hm, q⟩ := q
    cases r2
    obtain ⟨_, ⟨us, h5, h6⟩, _⟩ := s2.owns i p _ e
    refine ⟨p, us, j, m, rfl, rfl, h5, by rw [← h6.length]; exact hm, ?_⟩
    exact q σ _ (s2.wrOwn e h5 (h6.set (r.mono (x2.tm s1)) m)) (bo_own b2 e)
theorem js_pop (hF : FMono F) {i j : Nat} {x y : Str} {p q ap cp pos : Pos} (hNd : X.N.Nodup) (hi : X.N[i]? = some x) (hx : Loc X.env.scope x) (hf : X.fn x = true ∨ X.env.scope.names.lookup x = some .local) (hN : X.N[j]? = some y) (hv : Vis X.env.scope y)
    (hd : (y == ("__debug__" : Str)) = false) (hcd : (y == ("__classdict__" : Str)) = false) (hl : (ap.endLine == cp.line) = true) :
    PS X (.Assign [.Name x p] (.Call (.Attribute (.Name y q) "pop" ap) [] [] cp) pos) (liftS X.K RX W (wS F (.pop i j))) :=
  PS.imp (ps_set hNd hi hx (pe_bm0 PySem.F.plainAttrs_list PySem.F.slot_list_pop PySem.F.type_list_pop mt_pop (pe_var (i := j) hN hv hd hcd) (hline := hl)) (by rfl) hf) fun D σ H ⟨env, M, B, s, b, p, xs, z, e, hz, hij, q⟩ => by
    obtain ⟨h1, ⟨vs, h2, h3⟩, h4⟩ := s.owns j p _ e
    obtain ⟨v, hv, r⟩ := h3.get (by rw [List.getLast?_eq_getElem?] at hz; exact hz)
    refine ⟨_, h1, .inl ⟨rfl, vs, SqL.of h2⟩, p, vs, v, rfl, rfl, h2, by rw [← h3.length]; exact hv, ?_⟩
    have t : Tm X.K H (L2.upd H p (.lst vs.dropLast)) := upd_tm (fun _ z => by rw [h2] at z; cases z) fun _ _ z => by rw [h2] at z; cases z
    exact q _ _ ((s.wrOwn e h2 h3.dropLast).setVal (r.mono t)) ((Kp.set (i := i) (d := z)).bo (bo_own b e))
/-! ### lists of the memory -/
theorem bo_mem {p : Addr} {o o' : MO} (b : BO B H env M) (e : M p = some o) {vs : List V} : BO B (L2.upd H p (.lst vs)) env (upd M p o') := fun a u ea => by
  obtain ⟨h1, h2, h3⟩ := b a u ea
  have ha : a ≠ p := fun z => by subst z; rw [h2] at e; cases e
  exact ⟨by rw [L2.upd_ne ha]; exact h1, by rw [upd_other ha]; exact h2, h3⟩
theorem js_mapp (hF : FMono F) {l e : Expr} {il ie : IE} {ap cp pos : Pos} (hl : PE X l (liftE X.K RX W (wE F il))) (h : PE X e (liftE X.K RX W (wE F ie))) (hs : starEach [e] X.env = [(false, eval e X.env)]) (hb : attributeBase l "append" X.env (eval l X.env) = eval l X.env)
    (hli : (ap.endLine == cp.line) = true) : PS X (.Expr (.Call (.Attribute l "append" ap) [e] [] cp) pos) (liftS X.K RX W (wS F (.mapp il ie))) :=
  PS.imp (ps_expr (pe_bm PySem.F.plainAttrs_list PySem.F.slot_list_append PySem.F.type_list_append mt_append hl (pa_cons h pa_nil hs) (hbase := hb) (hfew := by rw [hs]; rfl) (hline := hli) (hs := hs) (hplain := by rfl))) fun D σ H ⟨env, M, B, s, b, q⟩ => by
    refine exp_go hF s b q fun d M1 v H1 x1 s1 b1 r q => ?_
    obtain ⟨a, ys, rfl, e, q⟩ := q
    cases r
    obtain ⟨vs, h2, h3⟩ := s1.mem a _ e
    refine ⟨.inl ⟨rfl, vs, SqL.of h2⟩, exp_go hF s1 b1 q fun d2 M2 v2 H2 x2 s2 b2 r2 q => ?_⟩
    obtain ⟨xs, e2, hsz, q⟩ := q
    obtain ⟨us, h5, h6⟩ := s2.mem a _ e2
    refine ⟨a, us, v2, rfl, rfl, h5, by rw [← h6.length]; exact hsz, ?_⟩
    exact q σ _ (s2.write h5 e2 (Reps.append h6 ⟨v2, [], rfl, r2, rfl⟩)) (bo_mem b2 e2)
theorem js_mset (hF : FMono F) {l k e : Expr} {il ik ie : IE} {sp pos : Pos} (hl : PE X l (liftE X.K RX W (wE F il))) (hk : PE X k (liftE X.K RX W (wE F ik))) (h : PE X e (liftE X.K RX W (wE F ie))) (hns : ∀ lo hi st q, k ≠ .Slice lo hi st q)
    (hs : swapsWithSole [.Subscript l k sp] e pos.line X.env = pure false) (hw : swappedStores [.Subscript l k sp] e X.env = pure none) : PS X (.Assign [.Subscript l k sp] e pos) (liftS X.K RX W (wS F (.mset il ik ie))) :=
  PS.imp (ps_asg h (pg_sub hl hk set_list (by intro v; cases k <;> first | rfl | exact absurd rfl (hns _ _ _ _))) hs hw rfl) fun D σ H ⟨env, M, B, s, b, q⟩ => by
    refine exp_go hF s b q fun d M1 v H1 x1 s1 b1 r q => ?_
    refine exp_go hF s1 b1 q fun y M2 u H2 x2 s2 b2 r2 q => ?_
    refine exp_go hF s2 b2 q fun z M3 u3 H3 x3 s3 b3 r3 q => ?_
    obtain ⟨a, xs, j, m, rfl, e, rfl, hm, q⟩ := q
    cases r2; cases r3
    obtain ⟨us, h5, h6⟩ := s3.mem a _ e
    refine ⟨a, us, j, m, rfl, rfl, h5, by rw [← h6.length]; exact hm, ?_⟩
    exact q σ _ (s3.write h5 e (h6.set ((r.mono (x2.tm s1)).mono (x3.tm s2)) m)) (bo_mem b3 e)
theorem get_list : PGet X (fun o i H Q => ∃ p xs k v, o = .ref p ∧ i = .int k ∧ SqL X.K H p xs ∧ L2.atI xs k = some v ∧ Q v H) := by
  intro pins s σ H o i ov iv Q I ro ri h
  obtain ⟨p, xs, k, z, rfl, rfl, hq, he, q⟩ := h
  cases ro
  obtain ⟨t, rfl⟩ := ri
  obtain ⟨its, r, pl, hz⟩ := I.list hq
  obtain ⟨j, h1, h2, h3, h4, h5⟩ := atI_get he
  obtain ⟨w, ew, rw'⟩ := r.get h2
  have hl := r.length
  have hn := line63
  have fin : EP X pins σ Q w s := ⟨z, H, I, rw', q⟩
  by_cases h0 : 0 ≤ k
  · have hj : k.toNat = j := by
      rw [seqIndex_of h0 h5] at h1
      exact Option.some.inj h1
    exact wpAny_getItem_list pl.isList h0 (by omega) (by rw [hj]; simpa using ew) fin
  · have hj : (k + (its.toArray.size : Int)).toNat = j := by
      rw [seqIndex_neg (by omega) h4] at h1
      rw [List.size_toArray, ← hl]
      exact Option.some.inj h1
    exact wpAny_getItem_list_neg pl.isList (by omega) (by rw [List.size_toArray] <;> omega) (by omega) (by rw [hj]; simpa using ew) fin
theorem atI_ix {α : Type} {xs : List α} {j : Int} {m : Nat} {v : α} (h : ixN xs.length j = some m) (e : xs[m]? = some v) : L2.atI xs j = some v := by
  unfold L2.atI; rw [h]; exact e
theorem js_maug (hF : FMono F) {o : BOp} {l k e : Expr} {il ik ie : IE} {sp pos : Pos} (hl : PE X l (liftE X.K RX W (wE F il))) (hk : PE X k (liftE X.K RX W (wE F ik))) (h : PE X e (liftE X.K RX W (wE F ie))) (hns : ∀ lo hi st q, k ≠ .Slice lo hi st q) :
    PS X (.AugAssign (.Subscript l k sp) o.py e pos) (liftS X.K RX W (wS F (.maug il ik o ie))) :=
  PS.imp (ps_augS hl hk get_list h (ip_aug o) set_list (by intro ov iv new; cases k <;> first | rfl | exact absurd rfl (hns _ _ _ _))) fun D σ H ⟨env, M, B, s, b, q⟩ => by
    refine exp_go hF s b q fun d M1 v H1 x1 s1 b1 r q => ?_
    refine exp_go hF s1 b1 q fun y M2 u H2 x2 s2 b2 r2 q => ?_
    obtain ⟨a, xs, j, m, z, rfl, e, rfl, hm, ez, q⟩ := q
    cases r; cases r2
    obtain ⟨us, h5, h6⟩ := s2.mem a _ e
    obtain ⟨zv, hz, rz⟩ := h6.atI (atI_ix hm ez)
    refine ⟨a, us, j, zv, rfl, rfl, SqL.of h5, hz, ?_⟩
    refine exp_go hF s2 b2 q fun z2 M3 u3 H3 x3 s3 b3 r3 q => ?_
    refine ⟨z, z2, rz.mono (x3.tm s2), r3, wAug_mono (fun w q v H' al rw' => ?_) q⟩
    obtain ⟨xs', e', hlen, q⟩ := q
    have s4 := s3.alc al
    obtain ⟨us', h7, h8⟩ := s4.mem a _ e'
    refine ⟨a, us', j, m, rfl, rfl, h7, by rw [← h8.length, hlen]; exact hm, ?_⟩
    exact q σ _ (s4.write h7 e' (h8.set rw' m)) (bo_mem (b3.step (Ext.alc al)) e')
/-! ### blocks -/
theorem js_nil' : PSs X [] (liftS X.K RX W (wSs F [])) := PSs.imp pss_nil fun D σ H ⟨env, M, B, s, b, q⟩ => q σ H s b
theorem js_cons' (hF : FMono F) {st : Stmt} {rest : List Stmt} {is : IS} {iss : List IS} (h : PS X st (liftS X.K RX W (wS F is))) (hr : PSs X rest (liftS X.K RX W (wSs F iss))) : PSs X (st :: rest) (liftS X.K RX W (wSs F (is :: iss))) :=
  PSs.imp (pss_cons h hr) fun D σ H ⟨env, M, B, s, b, q⟩ => ⟨env, M, B, s, b, by
    refine wS_mono hF is ?_ q
    exact ⟨fun e m q σ' H' s' b' => ⟨e, m, B, s', b', q⟩, fun _ _ q => q, fun _ _ q => q, fun _ _ q => q, fun _ _ _ q => q⟩⟩
theorem js_ite (hF : FMono F) {c : Expr} {a b : List Stmt} {ic : IT} {ia ib : List IS} {pos : Pos} (hc : PT X c (liftT X.K RX W (wT F ic))) (ha : PSs X a (liftS X.K RX W (wSs F ia))) (hb : PSs X b (liftS X.K RX W (wSs F ib))) :
    PS X (.If c a b pos) (liftS X.K RX W (wS F (.ite ic ia ib))) :=
  PS.imp (ps_if hc ha hb) fun D σ H ⟨env, M, B, s, b, q⟩ => ⟨env, M, s, wT_mono hF ic (fun k M1 q H1 x1 s1 => by
    cases k with
    | true => exact ⟨env, M1, B, s1, b.step x1, q⟩
    | false => exact ⟨env, M1, B, s1, b.step x1, q⟩) (fun _ _ q => xc_post b q) q⟩
theorem js_whl (hF : FMono F) {c : Expr} {body : List Stmt} {ic : IT} {ib : List IS} {pos : Pos} (hp : PassesOwn (model X.prog X.w) X.A X.env X.xe) (hc : PT X c (liftT X.K RX W (wT F ic))) (hb : PSs X body (liftS X.K RX W (wSs F ib))) :
    PS X (.While c body [] pos) (liftS X.K RX W (wS F (.whl ic ib))) :=
  PS.imp (ps_while hp hc hb) fun D σ H ⟨env, M, B, s, b, q⟩ => by
    obtain ⟨Wv, ⟨m0, h0⟩, hs⟩ := q
    refine ⟨fun m σ H => ∃ env M, StE X.K σ H env M ∧ BO B H env M ∧ Wv m env M, ⟨m0, env, M, s, b, h0⟩, fun m σ H ⟨env, M, s, b, hW⟩ => ?_⟩
    refine ⟨env, M, s, wT_mono hF ic (fun k M1 q H1 x1 s1 => ?_) (fun _ _ q => xc_post b q) (hs m env M hW)⟩
    cases k with
    | false => exact q σ H1 s1 (b.step x1)
    | true =>
      refine ⟨fun σ' H' => ∃ m', m' < m ∧ ∃ env M, StE X.K σ' H' env M ∧ BO B H' env M ∧ Wv m' env M, fun σ' H' ⟨m', h1, h2⟩ => ⟨m', h1, h2⟩, env, M1, B, s1, b.step x1, ?_⟩
      refine wSs_mono hF ib ?_ q
      exact ⟨fun e m ⟨m', h1, h2⟩ σ' H' s' b' => ⟨m', h1, e, m, s', b', h2⟩, fun _ _ q => q, fun _ _ q => q, fun e m ⟨m', h1, h2⟩ σ' H' s' b' => ⟨m', h1, e, m, s', b', h2⟩, fun _ _ _ q => q⟩
open Classical in
/-- what is no part of the state -/
noncomputable def Fg (env : Env) (H : Hp) (M : Mem) : Hp := fun a => if M a = none ∧ (∀ (i : Nat) q o', env[i]? = some (.own q o') → q ≠ a) then H a else none
theorem Fg_bo : BO (Fg env H M) H env M := fun a o e => by
  unfold Fg at e
  split at e
  · rename_i h; exact ⟨e, h.1, h.2⟩
  · cases e
theorem Fg_in {a : Addr} {o : HO} (e : H a = some o) (n : M a = none) (k : ∀ (i : Nat) q o', env[i]? = some (.own q o') → q ≠ a) : Fg env H M a = some o := by
  unfold Fg
  rw [if_pos ⟨n, k⟩]; exact e
theorem BO.down {B' : Hp} (b : BO B H env M) {H' : Hp} {e' : Env} {M' : Mem} (b' : BO (Fg env H M) H' e' M') : BO B H' e' M' := fun a o e =>
  let ⟨h1, h2, h3⟩ := b a o e
  b' a o (Fg_in h1 h2 h3)
theorem BR.down (b : BO B H env M) {H' : Hp} {M' : Mem} (b' : BR (Fg env H M) H' M') : BR B H' M' := fun a o e =>
  let ⟨h1, h2, h3⟩ := b a o e
  b' a o (Fg_in h1 h2 h3)
theorem wFor_ok {ok : Env → Mem → Prop} {bd : DL.D → Env → Mem → Kt → Prop} {xs : List DL.D} {K' : Kt} (h : wFor ok bd xs env M K') : ok env M := by
  cases xs with
  | nil => exact h.1
  | cons x xs => exact h.1
theorem js_for (hF : FMono F) {tg iter : Expr} {body : List Stmt} {t : Tg} {g : TG} {it : II} {ib : List IS} {pos : Pos} (hp : PassesOwn (model X.prog X.w) X.A X.env X.xe) (hc : X.calm = true) (hi : PI X tg iter (liftI X.K RX W (wI F it))) (hg : GOk X t tg g)
    (hb : PSs X body (liftS X.K RX W (wSs F ib))) (hs : ∀ x, foldedSetIterable iter X.env x = pure x) : PS X (.For tg iter body [] pos) (liftS X.K RX W (wS F (.for_ t it ib))) :=
  PS.imp (ps_for hp hc hi hg.pg hb hs) fun D σ H ⟨env, M, B, s, b, q⟩ => by
    unfold wS at q
    refine ⟨env, M, s, wI_mono hF it (fun xs ok M1 q J H1 x1 s1 wk => ?_) (fun _ _ q => xc_post b q) q⟩
    obtain ⟨G, wk, hG⟩ := wk
    have b1 := b.step x1
    refine for_it wk (fun i σ2 H2 => ∃ env2 M2, StE X.K σ2 H2 env2 M2 ∧ BO (Fg env H1 M1) H2 env2 M2 ∧
      wFor ok (fun x e m K' => wTg t x e fun e' => wSs F ib e' m K') (xs.drop i) env2 M2 (ktOf X.K RX W B D)) ?_ ?_ ?_ ?_
    · exact ⟨env, M1, s1, Fg_bo, by simpa using q⟩
    · rintro i σ2 H2 _ ⟨env2, M2, s2, b2, q⟩
      exact hG H2 σ2 env2 M2 (fun a o h n k _ => (b2 a o (Fg_in h n k)).1) s2 (wFor_ok q)
    · rintro i x σ2 H2 H3 hi ⟨env2, M2, s2, b2, q⟩ ⟨al, d, hd, rd⟩
      rw [List.drop_eq_getElem_cons hi] at q
      have hd' : xs[i] = d := by rw [List.getElem?_eq_getElem hi] at hd; exact Option.some.inj hd
      rw [hd'] at q
      obtain ⟨_, q⟩ := q
      have s3 := s2.alc al
      have b3 := b2.step (Ext.alc (M := M2) al)
      refine hg.go s3 rd (wTg_mono (fun e ⟨q, kp⟩ σ' s' _ => ?_) (wTg_keep q))
      refine ⟨e, M2, Fg env H1 M1, s', kp.bo b3, wSs_mono hF ib ?_ q⟩
      exact ⟨fun e m q σ' H' s' b' => ⟨e, m, s', b', q⟩, fun d m q v H' m' b' r => q v H' m' (BR.down b1 b') r, fun e m q σ' H' s' b' => q σ' H' s' (b1.down (B' := B) b'),
        fun e m q σ' H' s' b' => ⟨e, m, s', b', q⟩, fun x e m q c dd σ' H' s' b' r => q c dd σ' H' s' (b1.down (B' := B) b') r⟩
    · rintro σ2 H2 ⟨env2, M2, s2, b2, q⟩
      rw [List.drop_length] at q
      exact q.2 σ2 H2 s2 (b1.down (B' := B) b2)
end
end DL
/-! Soundness: methods of lists and texts; reversed, enumerate. -/
namespace DL
open PySem PySem.Spec PyProof.Rows L2
section
variable {X : Cx} {RX : RXT} {W : WX} {F : FS}
variable {K : PySem.W.Frag} {σ : L2.St} {H H1 H2 : Hp} {env : Env} {M M1 M2 : Mem} {Q : VK}
theorem Ext.write {p : Addr} {o o' : MO} {vs' : List V} (e : M p = some o) : Ext env H M (L2.upd H p (.lst vs')) (upd M p o') := fun a u ea n no => by
  have ha : a ≠ p := fun z => by subst z; rw [e] at n; cases n
  exact ⟨by rw [L2.upd_ne ha]; exact ea, by rw [upd_other ha]; exact n⟩
theorem strs_of : ∀ {ys : List Str} {us : List V}, Reps K H (ys.map D.str) us → us = ys.map V.str
  | [], us, r => r
  | y :: ys, us, r => by
    obtain ⟨v, us', rfl, h1, h2⟩ := r
    rw [strs_of h2]
    cases h1
    rfl
theorem reps_strs : ∀ {ys : List Str}, Reps K H (ys.map D.str) (ys.map V.str)
  | [] => rfl
  | y :: ys => ⟨.str y, _, rfl, rfl, reps_strs⟩
theorem Reps.erase' : ∀ {ds : List D} {vs : List V} (n : Nat), Reps K H ds vs → Reps K H (ds.eraseIdx n) (vs.eraseIdx n)
  | [], _, _, r => by cases r; rfl
  | d :: ds, _, 0, r => by
    obtain ⟨v, us, rfl, h1, h2⟩ := r
    exact h2
  | d :: ds, _, n + 1, r => by
    obtain ⟨v, us, rfl, h1, h2⟩ := r
    exact ⟨v, _, rfl, h1, Reps.erase' n h2⟩
def Mth.py : Mth → String
  | .append => "append" | .pop => "pop" | .popAt => "pop" | .reverse => "reverse" | .extend => "extend" | .insert => "insert" | .split => "split" | .join => "join"
def Mth.T (m : Mth) : String := match m.lst with | true => "list" | false => "str"
theorem ty_go {m : Mth} {d : D} {x : V} (s : StE K σ H env M) (r : Rep K H d x) (h : wTy m d M) : tyV K m.T x H := by
  cases hm : m.lst with
  | true =>
    have hT : m.T = "list" := by unfold Mth.T; rw [hm]
    have h' : ∃ a xs, d = .ref a ∧ M a = some (.lst xs) := by unfold wTy at h; rw [hm] at h; exact h
    obtain ⟨a, xs, rfl, e2⟩ := h'
    obtain ⟨vs, h2, _⟩ := s.mem a _ e2
    cases r
    rw [hT]
    exact .inl ⟨rfl, vs, SqL.of h2⟩
  | false =>
    have hT : m.T = "str" := by unfold Mth.T; rw [hm]
    have h' : ∃ s, d = .str s := by unfold wTy at h; rw [hm] at h; exact h
    obtain ⟨z, rfl⟩ := h'
    cases r
    rw [hT]
    exact rfl
abbrev MethR (K : PySem.W.Frag) (m : Mth) (r : V → List V → Hp → VK → Prop) : Prop := ∀ {d : D} {ds : List D} {x : V} {vs : List V} {H : Hp} {M : Mem} {env : Env} {σ : L2.St} {Q : VK}, StE K σ H env M → Rep K H d x → Reps K H ds vs → wMth m d ds M (postE K σ H env M Q) → r x vs H Q
theorem mr_append : MethR K .append rAppend := fun {d ds x vs H M env σ Q} s r rs w => by
  cases d with
  | ref a =>
    rcases ds with _ | ⟨y, _ | ⟨_, _⟩⟩
    · simp [wMth] at w
    · obtain ⟨xs, h1, h2, q⟩ := w
      obtain ⟨v, _, rfl, hv, rfl⟩ := rs
      cases r
      obtain ⟨us, h5, h6⟩ := s.mem a _ h1
      exact ⟨a, us, v, rfl, rfl, h5, by rw [← h6.length]; exact h2, q .non _ (Ext.write h1) (s.write h5 h1 (Reps.append h6 ⟨v, [], rfl, hv, rfl⟩)) rfl⟩
    · simp [wMth] at w
  | _ => simp [wMth] at w
theorem mr_pop : MethR K .pop rPop := fun {d ds x vs H M env σ Q} s r rs w => by
  cases d with
  | ref a =>
    rcases ds with _ | ⟨y, t⟩
    rotate_left
    · simp [wMth] at w
    · obtain ⟨xs, y, h1, h2, q⟩ := w
      cases rs
      cases r
      obtain ⟨us, h5, h6⟩ := s.mem a _ h1
      obtain ⟨v, hv, rv⟩ := h6.get (by rw [List.getLast?_eq_getElem?] at h2; exact h2)
      have t : Tm K H (L2.upd H a (.lst us.dropLast)) := upd_tm (fun _ z => by rw [h5] at z; cases z) fun _ _ z => by rw [h5] at z; cases z
      exact ⟨a, us, v, rfl, rfl, h5, by rw [← h6.length]; exact hv, q v _ (Ext.write h1) (s.write h5 h1 h6.dropLast) (rv.mono t)⟩
  | _ => simp [wMth] at w
theorem mr_popAt : MethR K .popAt rPopAt := fun {d ds x vs H M env σ Q} s r rs w => by
  cases d with
  | ref a =>
    rcases ds with _ | ⟨y, _ | ⟨_, _⟩⟩
    · simp [wMth] at w
    rotate_left
    · simp [wMth] at w
    cases y with
    | int i =>
      obtain ⟨xs, k, y, h1, h2, h3, h4, q⟩ := w
      obtain ⟨v0, _, rfl, hv, rfl⟩ := rs
      cases hv
      cases r
      obtain ⟨us, h5, h6⟩ := s.mem a _ h1
      obtain ⟨v, hv, rv⟩ := h6.get h4
      have t : Tm K H (L2.upd H a (.lst (us.eraseIdx k))) := upd_tm (fun _ z => by rw [h5] at z; cases z) fun _ _ z => by rw [h5] at z; cases z
      exact ⟨a, us, i, k, v, rfl, rfl, h5, h2.1, h2.2, by rw [← h6.length]; exact (ixN_seq h3).1, hv, q v _ (Ext.write h1) (s.write h5 h1 (h6.erase' k)) (rv.mono t)⟩
    | _ => simp [wMth] at w
  | _ => simp [wMth] at w
theorem mr_reverse : MethR K .reverse rReverse := fun {d ds x vs H M env σ Q} s r rs w => by
  cases d with
  | ref a =>
    rcases ds with _ | ⟨y, t⟩
    rotate_left
    · simp [wMth] at w
    · obtain ⟨xs, h1, q⟩ := w
      cases rs
      cases r
      obtain ⟨us, h5, h6⟩ := s.mem a _ h1
      exact ⟨a, us, rfl, rfl, h5, q .non _ (Ext.write h1) (s.write h5 h1 h6.reverse) rfl⟩
  | _ => simp [wMth] at w
theorem mr_extend : MethR K .extend rExtend := fun {d ds x vs H M env σ Q} s r rs w => by
  cases d with
  | ref a =>
    rcases ds with _ | ⟨y, _ | ⟨_, _⟩⟩
    · simp [wMth] at w
    rotate_left
    · simp [wMth] at w
    cases y with
    | ref b =>
      obtain ⟨xs, ys, h1, h2, h3, q⟩ := w
      obtain ⟨v0, _, rfl, hv, rfl⟩ := rs
      cases hv
      cases r
      obtain ⟨us, h5, h6⟩ := s.mem a _ h1
      obtain ⟨ws, h7, h8⟩ := s.mem b _ h2
      exact ⟨a, b, us, ws, rfl, rfl, h5, h7, by rw [← h6.length, ← h8.length]; exact h3, q .non _ (Ext.write h1) (s.write h5 h1 (Reps.append h6 h8)) rfl⟩
    | _ => simp [wMth] at w
  | _ => simp [wMth] at w
def rInsert : V → List V → Hp → VK → Prop := fun x vs H Q => ∃ (l : Addr) (xs : List V) (i : Int) (y : V), x = .ref l ∧ vs = [.int i, y] ∧ H l = some (.lst xs) ∧ xs.length < sizeLine ∧ 0 ≤ i ∧ i < 2 ^ 63 ∧
    Q .non (L2.upd H l (.lst (xs.take i.toNat ++ [y] ++ xs.drop i.toNat)))
theorem mr_insert : MethR K .insert rInsert := fun {d ds x vs H M env σ Q} s r rs w => by
  cases d with
  | ref a =>
    rcases ds with _ | ⟨z, _ | ⟨y, _ | ⟨_, _⟩⟩⟩
    · simp [wMth] at w
    · cases z <;> simp [wMth] at w
    rotate_left
    · cases z <;> simp [wMth] at w
    cases z with
    | int i =>
      obtain ⟨xs, h1, h2, h3, q⟩ := w
      obtain ⟨v0, _, rfl, hv, v1, _, rfl, hv1, rfl⟩ := rs
      cases hv
      cases r
      obtain ⟨us, h5, h6⟩ := s.mem a _ h1
      exact ⟨a, us, i, v1, rfl, rfl, h5, by rw [← h6.length]; exact h2, h3.1, h3.2, q .non _ (Ext.write h1) (s.write h5 h1 (Reps.append (Reps.append (h6.take _) ⟨v1, [], rfl, hv1, rfl⟩) (h6.drop _))) rfl⟩
    | _ => simp [wMth] at w
  | _ => simp [wMth] at w
def rSplit : V → List V → Hp → VK → Prop := fun x xs H Q => ∃ a b, x = .str a ∧ xs = [.str b] ∧ (b.length == 0) = false ∧ a.length + 2 ≤ sizeLine ∧ rNewStrs (Txt.split a b) H Q
theorem mr_split : MethR K .split rSplit := fun {d ds x vs H M env σ Q} s r rs w => by
  cases d with
  | str a =>
    rcases ds with _ | ⟨y, _ | ⟨_, _⟩⟩
    · simp [wMth] at w
    rotate_left
    · simp [wMth] at w
    cases y with
    | str b =>
      obtain ⟨h1, h2, q⟩ := w
      obtain ⟨v0, _, rfl, hv, rfl⟩ := rs
      cases hv
      cases r
      refine ⟨a, b, rfl, rfl, h1, h2, fun p hp => ?_⟩
      have hM : M p = none := s.fresh hp
      have al : Alc H (L2.upd H p (.lst ((Txt.split a b).map V.str))) := Alc.new hp
      refine q p hM _ _ (fun c o e n no => ?_) ((s.alc al).put L2.upd_same (reps_strs (ys := Txt.split a b)) hM fun i q o' e z => ?_) rfl
      · have hc : c ≠ p := fun z => by subst z; rw [hp] at e; cases e
        exact ⟨al _ _ e, by rw [upd_other hc]; exact n⟩
      · subst z
        exact not_own s hp i _ o' e rfl
    | _ => simp [wMth] at w
  | _ => simp [wMth] at w
def rJoin (K : PySem.W.Frag) : V → List V → Hp → VK → Prop := fun x xs H Q => ∃ a p, ∃ ys : List Str, x = .str a ∧ xs = [.ref p] ∧ (SqL K H p (ys.map V.str) ∨ SqT K H p (ys.map V.str)) ∧
    (ys.map (·.length)).sum + ys.length * a.length ≤ 16777216 ∧ Q (.str (Txt.join a ys)) H
theorem mr_join : MethR K .join (rJoin K) := fun {d ds x vs H M env σ Q} s r rs w => by
  cases d with
  | str a =>
    rcases ds with _ | ⟨y, _ | ⟨_, _⟩⟩
    · simp [wMth] at w
    rotate_left
    · simp [wMth] at w
    cases y with
    | ref b =>
      obtain ⟨ys, h1, h2, q⟩ := w
      obtain ⟨v0, _, rfl, hv, rfl⟩ := rs
      cases hv
      cases r
      obtain ⟨us, h5, h6⟩ := s.mem b _ h1
      rw [strs_of h6] at h5
      exact ⟨a, b, ys, rfl, rfl, .inl (SqL.of h5), h2, q.at s (d := .str _) rfl⟩
    | tup xs =>
      obtain ⟨ys, rfl, h2, q⟩ := w
      obtain ⟨v0, _, rfl, ⟨p, us, rfl, h5, h6⟩, rfl⟩ := rs
      cases r
      rw [strs_of h6] at h5
      exact ⟨a, p, ys, rfl, rfl, .inr h5, h2, q.at s (d := .str _) rfl⟩
    | _ => simp [wMth] at w
  | _ => simp [wMth] at w
theorem meth_go (hF : FMono F) {m : Mth} {r : V → List V → Hp → VK → Prop} (hr : MethR K m r) {o : IE} {es : IEs} {σ : L2.St} {H : Hp} {Q : VK} (h : liftE K RX W (wE F (.meth m o es)) σ H Q) :
    tBM K m.T r (liftE K RX W (wE F o)) (liftA K RX W (wEs F es)) σ H Q := by
  obtain ⟨env, M, s, h⟩ := h
  exact ⟨env, M, s, wE_mono hF o (fun d M1 q v H1 x1 s1 r1 => ⟨ty_go s1 r1 q.1, env, M1, s1, wEs_mono hF es (fun ds M2 q vs H2 x2 s2 r2 => hr s2 (r1.mono (x2.tm s1)) r2 (wMth_mono (fun _ _ q => q.go (x1.trans x2)) q)) (fun _ _ q => q.go x1) q.2⟩) (fun _ _ q => q) h⟩
theorem meth_go0 (hF : FMono F) {m : Mth} {r : V → List V → Hp → VK → Prop} (hr : MethR K m r) {o : IE} {σ : L2.St} {H : Hp} {Q : VK} (h : liftE K RX W (wE F (.meth m o .nil)) σ H Q) :
    tBM0 K m.T r (liftE K RX W (wE F o)) σ H Q := by
  obtain ⟨env, M, s, h⟩ := h
  exact ⟨env, M, s, wE_mono hF o (fun d M1 q v H1 x1 s1 r1 => ⟨ty_go s1 r1 q.1, hr s1 r1 (vs := []) (ds := []) rfl (wMth_mono (fun _ _ q => q.go x1) q.2)⟩) (fun _ _ q => q) h⟩
/-- o.m() -/
theorem je_meth0 (hF : FMono F) {m : Mth} (hm : m = .pop ∨ m = .reverse) {o : IE} {e : Expr} {ap cp : Pos} (h : PE X e (liftE X.K RX W (wE F o))) (hb : attributeBase e (m.py : Str) X.env (eval e X.env) = eval e X.env) (hl : (ap.endLine == cp.line) = true) :
    PE X (.Call (.Attribute e (m.py : Str) ap) [] [] cp) (liftE X.K RX W (wE F (.meth m o .nil))) := by
  rcases hm with rfl | rfl
  · exact PE.imp (pe_bm0 PySem.F.plainAttrs_list PySem.F.slot_list_pop PySem.F.type_list_pop mt_pop h (hbase := hb) (hline := hl)) fun σ H Q w => meth_go0 hF mr_pop w
  · exact PE.imp (pe_bm0 PySem.F.plainAttrs_list PySem.F.slot_list_reverse PySem.F.type_list_reverse mt_reverse h (hbase := hb) (hline := hl)) fun σ H Q w => meth_go0 hF mr_reverse w
/-- o.m(e, ..) -/
theorem je_methN (hF : FMono F) {m : Mth} (hm : m ≠ .pop ∧ m ≠ .reverse) {o : IE} {is : IEs} {e a : Expr} {as : List Expr} {ap cp : Pos} (h : PE X e (liftE X.K RX W (wE F o))) (ha : PA X (a :: as) (liftA X.K RX W (wEs F is))) (hb : attributeBase e (m.py : Str) X.env (eval e X.env) = eval e X.env) (hl : (ap.endLine == cp.line) = true)
    (hfew : ((backTo cp (starEach (a :: as) X.env)).all (fun x => !x.1) && (backToKw cp (keywordEach [] X.env)).all (fun x => x.1.isSome)
      && decide ((a :: as).length + ([] : List Keyword).length + (if ([] : List Keyword).isEmpty then 0 else 1) < 30)) = true)
    (hs : starEach (a :: as) X.env = (false, eval a X.env) :: starEach as X.env) (hplain : (backTo cp (starEach as X.env)).any (·.1) = false) :
    PE X (.Call (.Attribute e (m.py : Str) ap) (a :: as) [] cp) (liftE X.K RX W (wE F (.meth m o is))) := by
  cases m with
  | append => exact PE.imp (pe_bm PySem.F.plainAttrs_list PySem.F.slot_list_append PySem.F.type_list_append mt_append h ha (hbase := hb) (hfew := hfew) (hline := hl) (hs := hs) (hplain := hplain)) fun σ H Q w => meth_go hF mr_append w
  | pop => exact absurd rfl hm.1
  | popAt => exact PE.imp (pe_bm PySem.F.plainAttrs_list PySem.F.slot_list_pop PySem.F.type_list_pop mt_popAt h ha (hbase := hb) (hfew := hfew) (hline := hl) (hs := hs) (hplain := hplain)) fun σ H Q w => meth_go hF mr_popAt w
  | reverse => exact absurd rfl hm.2
  | extend => exact PE.imp (pe_bm PySem.F.plainAttrs_list PySem.F.slot_list_extend PySem.F.type_list_extend mt_extend h ha (hbase := hb) (hfew := hfew) (hline := hl) (hs := hs) (hplain := hplain)) fun σ H Q w => meth_go hF mr_extend w
  | insert => exact PE.imp (pe_bm PySem.F.plainAttrs_list PySem.F.slot_list_insert PySem.F.type_list_insert mt_insert h ha (hbase := hb) (hfew := hfew) (hline := hl) (hs := hs) (hplain := hplain)) fun σ H Q w => meth_go hF mr_insert w
  | split => exact PE.imp (pe_bm PySem.F.plainAttrs_str PySem.F.slot_str_split PySem.F.type_str_split mt_split h ha (hbase := hb) (hfew := hfew) (hline := hl) (hs := hs) (hplain := hplain)) fun σ H Q w => meth_go hF mr_split w
  | join => exact PE.imp (pe_bm PySem.F.plainAttrs_str PySem.F.slot_str_join PySem.F.type_str_join mt_join h ha (hbase := hb) (hfew := hfew) (hline := hl) (hs := hs) (hplain := hplain)) fun σ H Q w => meth_go hF mr_join w
/-- tuple(reversed(l)) -/
theorem je_tupRev (hF : FMono F) {l : IL} {e : Expr} {p p2 pos pos2 : Pos} (hc : X.calm = true) (hg : Gl X "tuple") (hm : X.mg "tuple" = none) (hg2 : Gl X "reversed") (hm2 : X.mg "reversed" = none) (h : PE X e (liftL X.K RX W (wL F l)))
    (hs : starEach [e] X.env = (false, eval e X.env) :: starEach [] X.env) :
    PE X (.Call (.Name "tuple" p) [.Call (.Name "reversed" p2) [e] [] pos2] [] pos) (liftE X.K RX W (wE F (.tupRev l))) :=
  PE.imp (RT.pe_tupRev hc hg hm hg2 hm2 h hs rfl) fun σ H Q ⟨env, M, s, h⟩ => ⟨env, M, s, wL_mono hF l (fun xs M1 q p us H1 x1 s1 hs' r =>
    ⟨p, us, rfl, hs', fun t ht => (q.go x1).alc s1 (d := .tup xs.reverse) (Alc.new ht) ⟨t, _, rfl, SqT.of L2.upd_same, r.reverse.mono (Alc.new ht).tm⟩⟩) (fun _ _ q => q) h⟩
/-- tuple(reversed(t)), t a tuple -/
theorem je_tupRevT (hF : FMono F) {ia : IE} {e : Expr} {p p2 pos pos2 : Pos} (hc : X.calm = true) (hg : Gl X "tuple") (hm : X.mg "tuple" = none) (hg2 : Gl X "reversed") (hm2 : X.mg "reversed" = none) (h : PE X e (liftE X.K RX W (wE F ia)))
    (hs : starEach [e] X.env = (false, eval e X.env) :: starEach [] X.env) :
    PE X (.Call (.Name "tuple" p) [.Call (.Name "reversed" p2) [e] [] pos2] [] pos) (liftE X.K RX W (wE F (.tupRevT ia))) :=
  PE.imp (DLX.pe_tupRevT hc hg hm hg2 hm2 h hs rfl) fun σ H Q ⟨env, M, s, h⟩ => ⟨env, M, s, wE_mono hF ia (fun d M1 q v H1 x1 s1 r1 => by
    obtain ⟨xs, rfl, q⟩ := q
    obtain ⟨p, us, rfl, hs', r⟩ := r1
    exact ⟨p, us, rfl, hs', fun t ht => (q.go x1).alc s1 (d := .tup xs.reverse) (Alc.new ht) ⟨t, _, rfl, SqT.of L2.upd_same, r.reverse.mono (Alc.new ht).tm⟩⟩) (fun _ _ q => q) h⟩
theorem je_dead {e : Expr} : PE X e (liftE X.K RX W (wE F .dead)) := ⟨fun pins s σ H Q I q => by obtain ⟨env, M, s, h⟩ := q; exact h.elim⟩
theorem js_dead {e : Stmt} : PS X e (liftS X.K RX W (wS F .dead)) := ⟨fun pins s σ H D I q => by obtain ⟨env, M, B, s, b, h⟩ := q; exact h.elim⟩
/-! ### reversed, enumerate -/
theorem walk_revT {a : Addr} {xs : List D} : Walk (RT.ItvT K a xs.length) xs.reverse.length (fun H => ∃ vs, SqT K H a vs ∧ Reps K H xs vs) (YD K xs.reverse) := by
  rw [List.length_reverse]
  refine ⟨fun i H hi ⟨vs, h1, h2⟩ => ?_, fun H ⟨vs, h1, h2⟩ => Nat.le_refl _, fun i H x H' hi ⟨vs, h1, h2⟩ ⟨e, y⟩ => ?_⟩
  · have := h2.length
    exact ⟨hi, vs, vs[xs.length - 1 - i]'(by omega), h1, List.getElem?_eq_getElem _⟩
  · subst e
    obtain ⟨d, g1, g2⟩ := h2.get' (y vs h1)
    exact ⟨Alc.refl, d, by rw [List.getElem?_reverse hi]; exact g1, g2⟩
theorem walk_revL {a : Addr} {xs : List D} : Walk (Itv K a xs.length) xs.reverse.length (fun H => ∃ vs, SqL K H a vs ∧ Reps K H xs vs) (YD K xs.reverse) := by
  rw [List.length_reverse]
  refine ⟨fun i H hi ⟨vs, h1, h2⟩ => ?_, fun H ⟨vs, h1, h2⟩ => Nat.le_refl _, fun i H x H' hi ⟨vs, h1, h2⟩ ⟨e, y⟩ => ?_⟩
  · have := h2.length
    exact ⟨hi, vs, vs[xs.length - 1 - i]'(by omega), h1, List.getElem?_eq_getElem _⟩
  · subst e
    obtain ⟨d, g1, g2⟩ := h2.get' (y vs h1)
    exact ⟨Alc.refl, d, by rw [List.getElem?_reverse hi]; exact g1, g2⟩
theorem ji_rev (hF : FMono F) {tg e : Expr} {ie : IE} {p pos : Pos} (hg : Gl X "reversed") (hm : X.mg "reversed" = none) (h : PE X e (liftE X.K RX W (wE F ie))) (hs : starEach [e] X.env = (false, eval e X.env) :: starEach [] X.env) :
    PI X tg (.Call (.Name "reversed" p) [e] [] pos) (liftI X.K RX W (wI F (.rev ie))) :=
  PI.imp (RT.pi_revA hg hm h hs) fun σ H R ⟨env, M, s, h⟩ => ⟨env, M, s, wE_mono hF ie (fun d M1 q v H1 x1 s1 r1 => by
    cases d with
    | tup xs =>
      obtain ⟨a, vs, rfl, h1, h2⟩ := r1
      refine ⟨a, vs, rfl, .inr ⟨h1, ?_⟩⟩
      rw [← h2.length]
      exact q _ H1 x1 s1 ⟨_, walk_revT, fun H' σ' env' M' k s' _ => ⟨vs, (tm_for s1 k _ _).1 h1, h2.mono (tm_for s1 k)⟩⟩
    | ref a =>
      cases r1
      obtain ⟨xs, e, q⟩ := q
      obtain ⟨vs, h2, h3⟩ := s1.mem _ _ e
      refine ⟨a, vs, rfl, .inl ⟨SqL.of h2, ?_⟩⟩
      rw [← h3.length]
      refine q _ H1 x1 s1 ⟨_, walk_revL, fun H' σ' env' M' k s' o => ?_⟩
      obtain ⟨vs', h5, h6⟩ := s'.mem _ _ o
      exact ⟨vs', SqL.of h5, h6⟩
    | _ => simp [wRevIt] at q) (fun _ _ q => q) h⟩
theorem walk_enT {a : Addr} {xs : List D} : Walk (DLK.IteT K a xs.length) (xs.mapIdx fun i x => D.tup [.int (i : Int), x]).length (fun H => ∃ vs, SqT K H a vs ∧ Reps K H xs vs) (YD K (xs.mapIdx fun i x => .tup [.int (i : Int), x])) := by
  rw [List.length_mapIdx]
  refine ⟨fun i H hi ⟨vs, h1, h2⟩ => ?_, fun H ⟨vs, h1, h2⟩ => ⟨Nat.le_refl _, vs, h1, h2.length.symm⟩, fun i H x H' hi ⟨vs, h1, h2⟩ ⟨T, u, e1, e2, e3, y⟩ => ?_⟩
  · have := h2.length
    exact ⟨hi, vs, vs[i]'(by omega), h1, this.symm, List.getElem?_eq_getElem _⟩
  · subst e1 e3
    obtain ⟨d, g1, g2⟩ := h2.get' (y vs h1)
    refine ⟨Alc.new e2, .tup [.int (i : Int), d], ?_, T, [.int (i : Int), u], rfl, SqT.of L2.upd_same, .int (i : Int), [u], rfl, rfl, u, [], rfl, g2.mono (Alc.new e2).tm, rfl⟩
    rw [List.getElem?_mapIdx, g1]; rfl
theorem walk_enL {a : Addr} {xs : List D} : Walk (Ite K a) (xs.mapIdx fun i x => D.tup [.int (i : Int), x]).length (fun H => ∃ vs, SqL K H a vs ∧ Reps K H xs vs) (YD K (xs.mapIdx fun i x => .tup [.int (i : Int), x])) := by
  rw [List.length_mapIdx]
  refine ⟨fun i H hi ⟨vs, h1, h2⟩ => ?_, fun H ⟨vs, h1, h2⟩ => ⟨vs, h1, by rw [h2.length]; exact Nat.le_refl _⟩, fun i H x H' hi ⟨vs, h1, h2⟩ ⟨T, u, e1, e2, e3, y⟩ => ?_⟩
  · have := h2.length
    exact ⟨vs, vs[i]'(by omega), h1, List.getElem?_eq_getElem _⟩
  · subst e1 e3
    obtain ⟨d, g1, g2⟩ := h2.get' (y vs h1)
    refine ⟨Alc.new e2, .tup [.int (i : Int), d], ?_, T, [.int (i : Int), u], rfl, SqT.of L2.upd_same, .int (i : Int), [u], rfl, rfl, u, [], rfl, g2.mono (Alc.new e2).tm, rfl⟩
    rw [List.getElem?_mapIdx, g1]; rfl
theorem ji_enum (hF : FMono F) {e : Expr} {ie : IE} {p pos tpos : Pos} {elts : List Expr} {kk : Nat} (hg : Gl X "enumerate") (hm : X.mg "enumerate" = none) (h : PE X e (liftE X.K RX W (wE F ie))) (hs : starEach [e] X.env = (false, eval e X.env) :: starEach [] X.env) :
    PI X (.Tuple elts kk tpos) (.Call (.Name "enumerate" p) [e] [] pos) (liftI X.K RX W (wI F (.enum ie))) :=
  PI.imp (DLK.pi_enumA hg hm h hs) fun σ H R ⟨env, M, s, h⟩ => ⟨env, M, s, wE_mono hF ie (fun d M1 q v H1 x1 s1 r1 => by
    cases d with
    | tup xs =>
      obtain ⟨a, vs, rfl, h1, h2⟩ := r1
      refine ⟨a, vs, rfl, .inr ⟨h1, ?_⟩⟩
      rw [← h2.length]
      exact q _ H1 x1 s1 ⟨_, walk_enT, fun H' σ' env' M' k s' _ => ⟨vs, (tm_for s1 k _ _).1 h1, h2.mono (tm_for s1 k)⟩⟩
    | ref a =>
      cases r1
      obtain ⟨xs, e, q⟩ := q
      obtain ⟨vs, h2, h3⟩ := s1.mem _ _ e
      refine ⟨a, vs, rfl, .inl ⟨SqL.of h2, ?_⟩⟩
      refine q _ H1 x1 s1 ⟨_, walk_enL, fun H' σ' env' M' k s' o => ?_⟩
      obtain ⟨vs', h5, h6⟩ := s'.mem _ _ o
      exact ⟨vs', SqL.of h5, h6⟩
    | _ => simp [wEnum] at q) (fun _ _ q => q) h⟩
/-! ### sorted -/
theorem reps_ints : ∀ {ys : List Int}, Reps K H (ys.map D.int) (ys.map V.int)
  | [] => rfl
  | y :: ys => ⟨.int y, _, rfl, rfl, reps_ints⟩
/-! data in order -/
mutual
theorem reads_nl {h : Heap} : ∀ {d : D} {v : Value} {as : List Addr}, Reads h v d.py as → as = []
  | .non, _, _, r => by cases r; rfl
  | .bl _, _, _, r => by cases r; rfl
  | .int _, _, _, r => by cases r; rfl
  | .str _, _, _, r => by cases r; rfl
  | .ref _, _, _, r => by cases r; rfl
  | .rl _, _, _, r => by cases r; rfl
  | .tup xs, _, _, r => by
    cases r with
    | tuple _ _ _ ra => exact reads_nls ra
theorem reads_nls {h : Heap} : ∀ {ds : List D} {vs : List Value} {as : List Addr}, ReadsAll h vs (D.pys ds) as → as = []
  | [], _, _, r => by cases r; rfl
  | d :: ds, _, _, r => by
    cases r with
    | cons a b => rw [reads_nl a, reads_nls b]; rfl
end
/-- what the items of a list stand for -/
def ItR (K : PySem.W.Frag) (H : Hp) (v : Value) (d : D) : Prop := ∃ u : V, RelV u v ∧ Rep K H d u
theorem each_itR : ∀ {xs : List D} {us : List V} {vs : List Value}, Reps K H xs us → Vals us vs → PySem.W.EachIs (ItR K H) vs xs
  | [], _, _, r, w => by cases r; cases w; exact .nil
  | x :: xs, _, _, r, w => by
    obtain ⟨v, us, rfl, h1, h2⟩ := r
    cases w with
    | cons a b => exact .cons ⟨v, a, h1⟩ (each_itR h2 b)
theorem itR_each : ∀ {xs : List D} {vs : List Value}, PySem.W.EachIs (ItR K H) vs xs → ∃ us, Reps K H xs us ∧ Vals us vs
  | _, _, .nil => ⟨[], rfl, .nil⟩
  | _, _, .cons ⟨u, a, b⟩ r => by
    obtain ⟨us, h1, h2⟩ := itR_each r
    exact ⟨u :: us, ⟨u, us, rfl, b, h1⟩, .cons a h2⟩
theorem each_imp {α β : Type} {R S : α → β → Prop} : ∀ {as : List α} {bs : List β}, PySem.W.EachIs R as bs → (∀ a b, b ∈ bs → R a b → S a b) → PySem.W.EachIs S as bs
  | _, _, .nil, _ => .nil
  | _, _, .cons a r, h => .cons (h _ _ List.mem_cons_self a) (each_imp r fun a b m => h a b (List.mem_cons_of_mem _ m))
theorem flats_memD : ∀ {n : Nat} {ds : List D}, D.flats n ds = true → ∀ z ∈ ds, D.flat n z = true
  | n, [], _, z, h => by simp at h
  | n, d :: ds, f, z, h => by
    have f' : D.flat n d = true ∧ D.flats n ds = true := by simpa [D.flats] using f
    rcases List.mem_cons.mp h with e | e
    · rw [e]; exact f'.1
    · exact flats_memD f'.2 z e
theorem srt_alike {xs : List D} (h : srtD xs) : PySem.W.AllAlike (xs.map D.py) := by
  intro d hd d' hd'
  obtain ⟨x, hx, rfl⟩ := List.mem_map.mp hd
  obtain ⟨y, hy, rfl⟩ := List.mem_map.mp hd'
  exact h.2.1 x hx y hy
theorem srt_able {xs : List D} (h : srtD xs) : PySem.W.Sortable (xs.map D.py) := by
  rcases h.2.2 with g | g
  · refine .inl fun d hd => ?_
    obtain ⟨x, hx, rfl⟩ := List.mem_map.mp hd
    obtain ⟨u, us, rfl⟩ := g x hx
    exact ⟨u.py, D.pys us, rfl⟩
  · refine .inr fun d hd => ?_
    obtain ⟨x, hx, rfl⟩ := List.mem_map.mp hd
    rcases g x hx with ⟨i, rfl⟩ | ⟨t, rfl⟩
    · exact ⟨(fun z => nomatch z), (fun xs z => nomatch z)⟩
    · exact ⟨(fun z => nomatch z), (fun xs z => nomatch z)⟩
theorem srt_pair {xs : List D} : (xs.mergeSort (PySem.W.dataLe false D.py)).Pairwise (fun x y => PySem.W.dataLt y.py x.py = false) := by
  have h := PySem.W.sort_pairwise (PySem.W.sortLe_total (PyProof.Rows.listOrd PyProof.Rows.itemOrd) false fun d : D => PySem.W.keyToks d.py) xs
  refine List.Pairwise.imp (fun {a b} q => ?_) h
  have q' : PySem.W.dataLe false D.py a b = true := q
  rw [PySem.W.dataLe_eq] at q'
  simpa using q'
theorem cr_srtD (hu : X.A.units + 100 < cLine) : CallR X (.builtin "sorted") (fun vs H Q => ∃ p us xs, vs = [.ref p] ∧ SqL X.K H p us ∧ Reps X.K H xs us ∧ wSrtD xs fun ys => ∀ q ws, H q = none → Reps X.K H ys ws → Q (.ref q) (L2.upd H q (.lst ws))) := by
  intro pins s σ H vs us Q I r h
  obtain ⟨p, us', xs, rfl, hs, hr, hx, w⟩ := h
  obtain ⟨its, rv, hl, hz⟩ := I.list hs
  rw [Vals.ref1 r]
  have e := each_itR hr rv
  refine PySem.W.sorted_data (enc := D.py) hl.isList e (each_imp e fun v d hd ⟨u, h1, h2⟩ => Dp.reads I d.py u v (dp_of (flats_memD hx.1 d hd) h2) h1) (srt_alike hx) (srt_able hx) (by rw [hr.length]; exact hz) (fun d hd => ?_) fun out ho hout => ?_
  · have := (lay_of (flats_memD hx.1 d hd)).2
    omega
  · obtain ⟨ws, h1, h2⟩ := itR_each hout
    obtain ⟨ep, he'⟩ := PyProof.Rows.sortedAll_at s.heap its out.toArray
    have hlen : ws.length ≤ sizeLine := by rw [h2.length, ho, hr.length]; exact hz
    exact ⟨.ref _, L2.upd H (s.heap.objs.size + 1) (.lst ws), I.laid (t' := s.toks) (fun _ _ => PyProof.Rows.sortedAll_old) (Nat.le_succ _) ⟨hlen, out, ep, h2, he'⟩, rfl, w _ (List.mergeSort_perm _ _) srt_pair _ ws (I.hok.fresh (Nat.le_succ _)) h1⟩
def rSrt (K : PySem.W.Frag) : List V → Hp → VK → Prop := fun vs H Q => ∃ p us xs, vs = [.ref p] ∧ SqL K H p us ∧ Reps K H xs us ∧ wSorted xs fun ys => ∀ q ws, H q = none → Reps K H ys ws → Q (.ref q) (L2.upd H q (.lst ws))
theorem call_srt (hu : X.A.units + 100 < cLine) : CallR X (.builtin "sorted") (rSrt X.K) := by
  intro pins s σ H vs us Q I r h
  obtain ⟨p, us', xs, rfl, hs, hr, w⟩ := h
  rcases w with ⟨ns, rfl, h64, w⟩ | ⟨ns, rfl, h64, w⟩ | w
  · have e := ints_reps hr
    subst e
    exact cr_sorted pins s σ H _ us Q I r ⟨p, ns, rfl, hs, h64, fun ns' q h1 h2 hq => w ns' h1 h2 q _ hq reps_ints⟩
  · have e := strs_of hr
    subst e
    exact cr_sortedS pins s σ H _ us Q I r ⟨p, ns, rfl, hs, h64, fun ns' q h1 h2 hq => w ns' h1 h2 q _ hq reps_strs⟩
  · exact cr_srtD hu pins s σ H _ us Q I r ⟨p, us', xs, rfl, hs, hr, w⟩
theorem je_sorted (hF : FMono F) {l : IL} {e : Expr} {t : TE} (h : PE X e t) (ht : ∀ σ H Q, (liftL X.K RX W (wL F l) σ H fun x H1 => rSrt X.K [x] H1 Q) → t σ H Q) : PE X e (liftE X.K RX W (wE F (.sorted l))) :=
  PE.imp h fun σ H Q ⟨env, M, s, h⟩ => ht σ H Q ⟨env, M, s, wL_mono hF l (fun xs M1 q p us H1 x1 s1 hs r => ⟨p, us, xs, rfl, hs, r, wSorted_mono (fun ys q t ws ht' rw' => by
    have hM : M1 t = none := s1.fresh ht'
    have al : Alc H1 (L2.upd H1 t (.lst ws)) := Alc.new ht'
    refine ((q t hM).go x1) (.ref t) _ (fun c o e n no => ?_) ((s1.alc al).put L2.upd_same (rw'.mono al.tm) hM fun i q o' e z => ?_) rfl
    · have hc : c ≠ t := fun z => by subst z; rw [ht'] at e; cases e
      exact ⟨al _ _ e, by rw [upd_other hc]; exact n⟩
    · subst z
      exact not_own s1 ht' i _ o' e rfl) q⟩) (fun _ _ q => q) h⟩
end
end DL
/-! Soundness: dicts. -/
namespace DL
open PySem PySem.Spec PyProof.Rows L2
section
variable {X : Cx} {pins : List (Addr × Obj)} {σ : L2.St} {H : Hp} {s : Shared}
mutual
theorem nis_of (I : Inv X pins σ H s) : ∀ {n : Nat} {d : D} {x : V} {v : Value}, D.kt n d = true → Rep X.K H d x → RelV x v → NestedIs s.heap d.nk v ∧ d.nk.depth ≤ n ∧ DLK.nk0 d.nk = true
  | n, .non, x, v, _, r, rv => by
    cases r; cases rv
    exact ⟨.none, by simp [D.nk, NestedKey.depth], by simp [D.nk, DLK.nk0]⟩
  | n, .int i, x, v, _, r, rv => by
    cases r
    obtain ⟨t, rfl⟩ := rv
    exact ⟨.int _ _, by simp [D.nk, NestedKey.depth], by simp [D.nk, DLK.nk0]⟩
  | n + 1, .tup xs, x, v, h, r, rv => by
    obtain ⟨a, vs, rfl, hq, q⟩ := r
    cases rv
    obtain ⟨its, rs, ⟨o, h1, h2, m, h3⟩, _⟩ := I.tuple hq
    obtain ⟨k1, k2, k3⟩ := niss_of I (n := n) (by simpa [D.kt] using h) q rs
    refine ⟨.tup h1 h2 h3 (by simpa using k1), ?_, ?_⟩
    · simp only [D.nk, NestedKey.depth]; omega
    · simp only [D.nk, DLK.nk0]; exact k3
  | 0, .tup xs, x, v, h, r, rv => by simp [D.kt] at h
  | n, .bl _, x, v, h, r, rv => by cases n <;> simp [D.kt] at h
  | n, .str _, x, v, h, r, rv => by cases n <;> simp [D.kt] at h
  | n, .ref _, x, v, h, r, rv => by cases n <;> simp [D.kt] at h
  | n, .rl _, x, v, h, r, rv => by cases n <;> simp [D.kt] at h
theorem niss_of (I : Inv X pins σ H s) : ∀ {n : Nat} {ds : List D} {xs : List V} {vs : List Value}, D.kts n ds = true → Reps X.K H ds xs → Vals xs vs → NestedAll s.heap (D.nks ds) vs ∧ NestedKey.depthAll (D.nks ds) ≤ n ∧ DLK.nk0s (D.nks ds) = true
  | n, [], xs, vs, _, r, rv => by
    cases r; cases rv
    exact ⟨.nil, Nat.zero_le _, rfl⟩
  | n, d :: ds, xs, vs, h, r, rv => by
    obtain ⟨x, r', rfl, h1, h2⟩ := r
    cases rv with
    | cons g1 g2 =>
      have h' : D.kt n d = true ∧ D.kts n ds = true := by simpa [D.kts] using h
      obtain ⟨a1, a2, a3⟩ := nis_of I h'.1 h1 g1
      obtain ⟨b1, b2, b3⟩ := niss_of I h'.2 h2 g2
      refine ⟨.cons a1 b1, ?_, ?_⟩
      · simp only [D.nks, NestedKey.depthAll]; omega
      · simp only [D.nks, DLK.nk0s, a3, b3]; rfl
end
mutual
theorem nk_inj : ∀ {n m : Nat} {a b : D}, D.kt n a = true → D.kt m b = true → a.nk = b.nk → a = b
  | n, m, .non, .non, _, _, _ => rfl
  | n, m, .int i, .int j, _, _, h => by simp [D.nk] at h; rw [h]
  | n + 1, m + 1, .tup xs, .tup ys, h1, h2, h => by
    have h3 : D.nks xs = D.nks ys := by simpa [D.nk] using h
    rw [nks_inj (n := n) (m := m) (by simpa [D.kt] using h1) (by simpa [D.kt] using h2) h3]
  | 0, m, .tup xs, b, h1, _, _ => by simp [D.kt] at h1
  | n, 0, a, .tup xs, _, h2, _ => by simp [D.kt] at h2
  | n, m, .non, .int j, _, _, h => by simp [D.nk] at h
  | n, m, .int j, .non, _, _, h => by simp [D.nk] at h
  | n, m + 1, .non, .tup j, _, _, h => by simp [D.nk] at h
  | n + 1, m, .tup j, .non, _, _, h => by simp [D.nk] at h
  | n, m + 1, .int i, .tup j, _, _, h => by simp [D.nk] at h
  | n + 1, m, .tup j, .int i, _, _, h => by simp [D.nk] at h
  | n, m, .bl _, b, h, _, _ => by cases n <;> simp [D.kt] at h
  | n, m, .str _, b, h, _, _ => by cases n <;> simp [D.kt] at h
  | n, m, .ref _, b, h, _, _ => by cases n <;> simp [D.kt] at h
  | n, m, .rl _, b, h, _, _ => by cases n <;> simp [D.kt] at h
  | n, m, a, .bl _, _, h, _ => by cases m <;> simp [D.kt] at h
  | n, m, a, .str _, _, h, _ => by cases m <;> simp [D.kt] at h
  | n, m, a, .ref _, _, h, _ => by cases m <;> simp [D.kt] at h
  | n, m, a, .rl _, _, h, _ => by cases m <;> simp [D.kt] at h
theorem nks_inj : ∀ {n m : Nat} {as bs : List D}, D.kts n as = true → D.kts m bs = true → D.nks as = D.nks bs → as = bs
  | n, m, [], [], _, _, _ => rfl
  | n, m, [], _ :: _, _, _, h => by simp [D.nks] at h
  | n, m, _ :: _, [], _, _, h => by simp [D.nks] at h
  | n, m, a :: as, b :: bs, h1, h2, h => by
    have h1' : D.kt n a = true ∧ D.kts n as = true := by simpa [D.kts] using h1
    have h2' : D.kt m b = true ∧ D.kts m bs = true := by simpa [D.kts] using h2
    have h' : a.nk = b.nk ∧ D.nks as = D.nks bs := by simpa [D.nks] using h
    rw [nk_inj h1'.1 h2'.1 h'.1, nks_inj h1'.2 h2'.2 h'.2]
end
mutual
theorem D.beq_self : ∀ d : D, D.beq d d = true
  | .non => rfl
  | .bl b => by simp [D.beq]
  | .int b => by simp [D.beq]
  | .str b => by simp [D.beq]
  | .ref b => by simp [D.beq]
  | .tup xs => by rw [D.beq]; exact D.beqs_self xs
  | .rl xs => by rw [D.beq]; exact D.beqs_self xs
theorem D.beqs_self : ∀ ds : List D, D.beqs ds ds = true
  | [] => rfl
  | d :: ds => by rw [D.beqs, D.beq_self d, D.beqs_self ds]; rfl
end
theorem D.beq_iff {a b : D} : D.beq a b = true ↔ a = b := ⟨D.beq_eq, fun h => by rw [h]; exact D.beq_self b⟩
theorem pk_inj {a b : D} {k : L2.Key} (h : a.pk = some k) (h' : b.pk = some k) : a = b := by
  cases a <;> cases b <;> first | (simp [D.pk] at h; done) | (simp [D.pk] at h'; done) | (have e := h.trans h'.symm; simpa [D.pk] using e)
/-- what is there, and what stands for it -/
def OV (K : PySem.W.Frag) (H : Hp) (o : Option D) (o' : Option V) : Prop := (o = none ∧ o' = none) ∨ ∃ d v, o = some d ∧ o' = some v ∧ Rep K H d v
theorem dget_k {K : PySem.W.Frag} {H : Hp} {k : D} {k' : L2.Key} (hk : k.pk = some k') : ∀ {es : List (D × D)} {kvs : List (L2.Key × V)}, Paired (fun (p : D × D) (q : L2.Key × V) => p.1.pk = some q.1 ∧ Rep K H p.2 q.2) es kvs → OV K H (dget es k) (valV kvs k')
  | _, _, .nil => .inl ⟨rfl, rfl⟩
  | p :: es, q :: kvs, .cons h t => by
    by_cases e : p.1 = k
    · have e2 : q.1 = k' := by have := h.1; rw [e, hk] at this; exact (Option.some.inj this).symm
      right
      refine ⟨p.2, q.2, ?_, valV_pos e2, h.2⟩
      unfold dget
      rw [List.find?_cons, D.beq_iff.mpr e]; rfl
    · have e2 : ¬ q.1 = k' := fun z => e (pk_inj (by rw [h.1, z]) hk)
      have e3 : D.beq p.1 k = false := by
        cases e4 : D.beq p.1 k with
        | false => rfl
        | true => exact absurd (D.beq_eq e4) e
      have ih := dget_k hk t
      rw [valV_neg e2]
      have : dget (p :: es) k = dget es k := by unfold dget; rw [List.find?_cons, e3]
      rw [this]; exact ih
theorem any_dget {k : D} : ∀ {es : List (D × D)}, (es.any fun p => D.beq p.1 k) = (dget es k).isSome
  | [] => rfl
  | p :: es => by
    unfold dget
    rw [List.any_cons, List.find?_cons]
    cases e : D.beq p.1 k with
    | true => rfl
    | false => rw [Bool.false_or, any_dget (es := es)]; rfl
theorem paired_map {α β : Type} {F : α → β → Prop} {f : α → α} {g : β → β} (h : ∀ a b, F a b → F (f a) (g b)) : ∀ {l : List α} {m : List β}, Paired F l m → Paired F (l.map f) (m.map g)
  | _, _, .nil => .nil
  | _, _, .cons a b => .cons (h _ _ a) (paired_map h b)
theorem dput_k {K : PySem.W.Frag} {H : Hp} {k d : D} {k' : L2.Key} {v : V} (hk : k.pk = some k') (hv : Rep K H d v) {es : List (D × D)} {kvs : List (L2.Key × V)} (r : Paired (fun (p : D × D) (q : L2.Key × V) => p.1.pk = some q.1 ∧ Rep K H p.2 q.2) es kvs) :
    Paired (fun (p : D × D) (q : L2.Key × V) => p.1.pk = some q.1 ∧ Rep K H p.2 q.2) (dput es k d) (putK kvs k' v) := by
  have e : (kvs.any fun kv => decide (kv.1 = k')) = (es.any fun p => D.beq p.1 k) := by
    rw [valV_any, any_dget]
    rcases dget_k hk r with ⟨a, b⟩ | ⟨x, y, a, b, _⟩
    · rw [a, b]; rfl
    · rw [a, b]; rfl
  unfold dput putK
  rw [e]
  by_cases a : (es.any fun p => D.beq p.1 k) = true
  · rw [if_pos a, if_pos a]
    refine paired_map (fun p q h => ?_) r
    by_cases e1 : p.1 = k
    · have e2 : q.1 = k' := by have := h.1; rw [e1, hk] at this; exact (Option.some.inj this).symm
      rw [if_pos (D.beq_iff.mpr e1), if_pos e2]; exact ⟨h.1, hv⟩
    · have e2 : ¬ q.1 = k' := fun z => e1 (pk_inj (by rw [h.1, z]) hk)
      rw [if_neg (fun z => e1 (D.beq_eq z)), if_neg e2]; exact h
  · rw [if_neg a, if_neg a]
    exact Paired.snoc r ⟨hk, hv⟩
abbrev NR (K : PySem.W.Frag) (H : Hp) : D × D → DLK.XE → Prop := fun p q => p.1.kt 8 = true ∧ p.1.nk = q.1 ∧ Rep K H p.1 (.ref q.2.1) ∧ ∃ v, RelV v q.2.2 ∧ Rep K H p.2 v
theorem dget_n {K : PySem.W.Frag} {H : Hp} {k : D} (hk : k.kt 8 = true) : ∀ {es : List (D × D)} {xs : List DLK.XE}, Paired (NR K H) es xs → (dget es k = none ∧ atKey xs k.nk = none) ∨ ∃ d p v, dget es k = some d ∧ atKey xs k.nk = some p ∧ RelV v p.2 ∧ Rep K H d v
  | _, _, .nil => .inl ⟨rfl, rfl⟩
  | p :: es, q :: xs, .cons h t => by
    by_cases e : p.1 = k
    · have e2 : q.1 = k.nk := by rw [← h.2.1, e]
      right
      obtain ⟨v, h1, h2⟩ := h.2.2.2
      refine ⟨p.2, q.2, v, ?_, ?_, h1, h2⟩
      · unfold dget
        rw [List.find?_cons, D.beq_iff.mpr e]; rfl
      · simp [atKey, List.find?_cons, e2]
    · have e2 : ¬ q.1 = k.nk := fun z => e (nk_inj h.1 hk (by rw [h.2.1, z]))
      have e3 : D.beq p.1 k = false := by
        cases e4 : D.beq p.1 k with
        | false => rfl
        | true => exact absurd (D.beq_eq e4) e
      have ih := dget_n hk t
      have : dget (p :: es) k = dget es k := by unfold dget; rw [List.find?_cons, e3]
      rw [this]
      have : atKey (q :: xs) k.nk = atKey xs k.nk := by simp [atKey, List.find?_cons, e2]
      rw [this]; exact ih
theorem dput_n {K : PySem.W.Frag} {H : Hp} {k d : D} {b : Addr} {v : V} {u : Value} (hk : k.kt 8 = true) (hb : Rep K H k (.ref b)) (rv : RelV v u) (hv : Rep K H d v) {es : List (D × D)} {xs : List DLK.XE} (r : Paired (NR K H) es xs) :
    Paired (NR K H) (dput es k d) (storedH xs k.nk b u) := by
  have e : (atKey xs k.nk).isSome = (es.any fun p => D.beq p.1 k) := by
    rw [any_dget]
    rcases dget_n hk r with ⟨a, b⟩ | ⟨x, y, z, a, b, _⟩
    · rw [a, b]; rfl
    · rw [a, b]; rfl
  unfold dput storedH
  rw [e]
  by_cases a : (es.any fun p => D.beq p.1 k) = true
  · rw [if_pos a, if_pos a]
    refine paired_map (fun p q h => ?_) r
    unfold putAt
    by_cases e1 : p.1 = k
    · have e2 : q.1 = k.nk := by rw [← h.2.1, e1]
      rw [if_pos (D.beq_iff.mpr e1), if_pos e2]; exact ⟨h.1, h.2.1, h.2.2.1, v, rv, hv⟩
    · have e2 : ¬ q.1 = k.nk := fun z => e1 (nk_inj h.1 hk (by rw [h.2.1, z]))
      rw [if_neg (fun z => e1 (D.beq_eq z)), if_neg e2]; exact h
  · rw [if_neg a, if_neg a]
    exact Paired.snoc r ⟨hk, rfl, hb, v, rv, hv⟩
/-! ### a dict and a key at hand -/
theorem kt_tup {K : PySem.W.Frag} {H : Hp} {d : D} {b : Addr} {n : Nat} (h : d.kt n = true) (r : Rep K H d (.ref b)) : d.plain = false := by
  cases d <;> first | rfl | (cases r) | (cases n <;> simp [D.kt] at h)
theorem pk_plain {d : D} {k : L2.Key} (h : d.pk = some k) : d.plain = true := by cases d <;> simp_all [D.pk, D.plain]
theorem dk_split {a : Addr} {es : List (D × D)} {k : D} {y : V} (I : Inv X pins σ H s) (ok : OOk X.K H a (.dct es)) (hk : DkOk es k) (r : Rep X.K H k y) :
    (∃ kvs k', H a = some (.dK kvs) ∧ Paired (fun (p : D × D) (q : L2.Key × V) => p.1.pk = some q.1 ∧ Rep X.K H p.2 q.2) es kvs ∧ k.pk = some k' ∧ y = kV k') ∨
    ∃ xs b, y = .ref b ∧ k.kt 8 = true ∧ Paired (NR X.K H) es xs ∧ DLK.DkN X s a xs k.nk b ∧ Mut (H a) := by
  obtain ⟨h1, h2⟩ := hk
  have nested : ∀ xs, Paired (NR X.K H) es xs → (k.plain = false) → (s.heap.DictOfH (nestedKind X.prog X.w) a xs ∧ xs.length ≤ sizeLine ∧ (a == sysModules) = false) → (∀ x ∈ xs, DLK.nk0 x.1 = true) → Mut (H a) → ∃ xs b, y = .ref b ∧ k.kt 8 = true ∧ Paired (NR X.K H) es xs ∧ DLK.DkN X s a xs k.nk b ∧ Mut (H a) := fun xs pr hp hd hn mu => by
    cases k with
    | tup ks =>
      have hk8 : D.kt 8 (.tup ks) = true := by simpa [D.keyOk] using h1
      obtain ⟨b, vs, rfl, hq, q⟩ := r
      obtain ⟨g1, g2, g3⟩ := nis_of I hk8 ⟨b, vs, rfl, hq, q⟩ (show RelV (.ref b) (.ref b) from rfl)
      exact ⟨xs, b, rfl, hk8, pr, ⟨hd.1, hd.2.1, hd.2.2, hn, g3, g1, g2⟩, mu⟩
    | int i => simp [D.plain] at hp
    | str i => simp [D.plain] at hp
    | _ => simp [D.keyOk] at h1
  rcases ok with ⟨kvs, e1, e2⟩ | ⟨h0, xs, e1, e2⟩
  · cases hp : k.plain with
    | true =>
      left
      cases k with
      | int i => cases r; exact ⟨kvs, .inl i, e1, e2, rfl, rfl⟩
      | str i => cases r; exact ⟨kvs, .inr i, e1, e2, rfl, rfl⟩
      | _ => simp [D.plain] at hp
    | false =>
      have : es = [] := by
        cases es with
        | nil => rfl
        | cons p es =>
          have z := (h2 p List.mem_cons_self).2
          cases e2 with
          | cons g _ => rw [pk_plain g.1, hp] at z; cases z
      subst this
      cases e2
      obtain ⟨dd, sm⟩ := DLK.n_empty I e1
      exact .inr (nested [] .nil hp ⟨dd, Nat.zero_le _, sm⟩ (fun x hx => nomatch hx) (by rw [e1]; exact True.intro))
  · have hp : k.plain = false := by
      cases es with
      | nil => exact absurd rfl h0
      | cons p es =>
        have z := (h2 p List.mem_cons_self).2
        cases e2 with
        | cons g _ => rw [← z]; exact kt_tup g.1 g.2.2.1
    have kn : ∀ x ∈ xs, DLK.nk0 x.1 = true ∧ (nestedKind X.prog X.w).is s.heap x.1 x.2.1 := by
      intro x hx
      obtain ⟨p, g1, g2, g3, _⟩ := Paired.right e2 x hx
      obtain ⟨m1, m2, m3⟩ := nis_of I g1 g3 (show RelV (.ref x.2.1) (.ref x.2.1) from rfl)
      rw [g2] at m1 m2 m3
      exact ⟨m3, m1, m2⟩
    obtain ⟨z, sm, dd⟩ := DLK.nd_of I.hok e1 (fun x hx => (kn x hx).1) (fun x hx => (kn x hx).2)
    exact .inr (nested xs e2 hp ⟨dd, z, sm⟩ (fun x hx => (kn x hx).1) (by rw [e1]; exact True.intro))
section
variable {a : Addr} {es : List (D × D)} {k d : D} {y : V} {u : Value} {A : Around} {E : Value → Shared → Prop}
theorem dd_isD (I : Inv X pins σ H s) (ok : OOk X.K H a (.dct es)) : s.TypeIs (.ref a) "dict" ∧ (∀ b, Value.ref a = .ref b → ∃ ob, s.heap.get? b = some ob ∧ ob.dict = none) := by
  rcases ok with ⟨kvs, e1, e2⟩ | ⟨h0, xs, e1, e2⟩
  · obtain ⟨h1, h2, _⟩ := isD_at I (.inl ⟨kvs, .inl e1⟩)
    exact ⟨h1, h2⟩
  · obtain ⟨⟨z, hd, o, es, ep, f1, f2, f3, _⟩, _⟩ := (show ObjOk X.prog X.w H s.heap a (DLK.ND a xs) from I.hok a _ e1)
    refine ⟨⟨o, f1, f2.1⟩, fun b q => ?_⟩
    cases q
    exact ⟨o, f1, f2.2.1⟩
theorem dd_get {Q : Value → Shared → Prop} (hu : A.units + 100 < cLine) (I : Inv X pins σ H s) (ok : OOk X.K H a (.dct es)) (hk : DkOk es k) (r : Rep X.K H k y) (ry : RelV y u) (g : dget es k = some d)
    (h : ∀ v w' s', Inv X pins σ H s' → RelV v w' → Rep X.K H d v → Q w' s') : wpAny (model X.prog X.w) A (getItem (.ref a) u) Q E s := by
  rcases dk_split I ok hk r with ⟨kvs, k', e1, pr, hk', rfl⟩ | ⟨xs, b, rfl, h8, pr, dn, mu⟩
  · rcases dget_k hk' pr with ⟨z, _⟩ | ⟨d', v, z1, z2, z3⟩
    · rw [g] at z; cases z
    · rw [g] at z1; cases z1
      have dg : DGet H a (kV k') (some v) := by rw [← z2]; exact DGet.k e1
      exact d_getItem (by omega) I dg ry fun w' s' I' rw' => h v w' s' I' rw' z3
  · cases ry
    rcases dget_n h8 pr with ⟨z, _⟩ | ⟨d', p, v, z1, z2, z3, z4⟩
    · rw [g] at z; cases z
    · rw [g] at z1; cases z1
      exact DLK.n_get (by omega) I dn z2 fun s' I' => h v _ s' I' z3 z4
theorem dd_in {Q : Value → Shared → Prop} (neg : Bool) (hu : A.units + 100 < cLine) (I : Inv X pins σ H s) (ok : OOk X.K H a (.dct es)) (hk : DkOk es k) (r : Rep X.K H k y) (ry : RelV y u)
    (h : ∀ s', Inv X pins σ H s' → Q (.bool (neg != (dget es k).isSome)) s') : wpAny (model X.prog X.w) A (compareOp (if neg then .NotIn else .In) u (.ref a)) Q E s := by
  rcases dk_split I ok hk r with ⟨kvs, k', e1, pr, hk', rfl⟩ | ⟨xs, b, rfl, h8, pr, dn, mu⟩
  · have e : (dget es k).isSome = (valV kvs k').isSome := by
      rcases dget_k hk' pr with ⟨z1, z2⟩ | ⟨d', v, z1, z2, z3⟩ <;> rw [z1, z2] <;> rfl
    rw [e] at h
    cases neg with
    | true => exact d_notIn (by omega) I (DGet.k e1) ry fun s' I' => by simpa using h s' I'
    | false => exact d_in (by omega) I (DGet.k e1) ry fun s' I' => by simpa using h s' I'
  · cases ry
    have e : (dget es k).isSome = (atKey xs k.nk).isSome := by
      rcases dget_n h8 pr with ⟨z1, z2⟩ | ⟨d', p, v, z1, z2, z3, z4⟩ <;> rw [z1, z2] <;> rfl
    rw [e] at h
    cases neg with
    | true => exact DLK.n_notIn (by omega) I dn fun s' I' => by simpa using h s' I'
    | false => exact DLK.n_in (by omega) I dn fun s' I' => by simpa using h s' I'
theorem dd_get2 {z : D} {zv : V} {zu : Value} {Q : Value → Shared → Prop} (hu : A.units + 100 < cLine) (I : Inv X pins σ H s) (ok : OOk X.K H a (.dct es)) (hk : DkOk es k) (r : Rep X.K H k y) (ry : RelV y u) (rz : Rep X.K H z zv) (rzu : RelV zv zu)
    (h : ∀ v w' s', Inv X pins σ H s' → RelV v w' → Rep X.K H ((dget es k).getD z) v → Q w' s') : wpAny (model X.prog X.w) A (call (.builtin "dict.get") [.ref a, u, zu]) Q E s := by
  rcases dk_split I ok hk r with ⟨kvs, k', e1, pr, hk', rfl⟩ | ⟨xs, b, rfl, h8, pr, dn, mu⟩
  · refine d_get2 (by omega) I (DGet.k e1) ry rzu fun w' s' I' rw' => ?_
    rcases dget_k hk' pr with ⟨z1, z2⟩ | ⟨d', v, z1, z2, z3⟩
    · rw [z1] at h; rw [z2] at rw'; exact h zv w' s' I' rw' rz
    · rw [z1] at h; rw [z2] at rw'; exact h v w' s' I' rw' z3
  · cases ry
    refine DLK.n_get2 (by omega) I dn fun s' I' => ?_
    rcases dget_n h8 pr with ⟨z1, z2⟩ | ⟨d', p, v, z1, z2, z3, z4⟩
    · rw [z1] at h; rw [z2]; exact h zv _ s' I' rzu rz
    · rw [z1] at h; rw [z2]; exact h v _ s' I' z3 z4
theorem dd_get1 {Q : Value → Shared → Prop} (hu : A.units + 100 < cLine) (I : Inv X pins σ H s) (ok : OOk X.K H a (.dct es)) (hk : DkOk es k) (r : Rep X.K H k y) (ry : RelV y u)
    (h : ∀ v w' s', Inv X pins σ H s' → RelV v w' → Rep X.K H ((dget es k).getD .non) v → Q w' s') : wpAny (model X.prog X.w) A (call (.builtin "dict.get") [.ref a, u]) Q E s := by
  rcases dk_split I ok hk r with ⟨kvs, k', e1, pr, hk', rfl⟩ | ⟨xs, b, rfl, h8, pr, dn, mu⟩
  · refine d_get1 (by omega) I (DGet.k e1) ry fun w' s' I' rw' => ?_
    rcases dget_k hk' pr with ⟨z1, z2⟩ | ⟨d', v, z1, z2, z3⟩
    · rw [z1] at h; rw [z2] at rw'; exact h .non w' s' I' rw' rfl
    · rw [z1] at h; rw [z2] at rw'; exact h v w' s' I' rw' z3
  · cases ry
    refine DLK.n_get1 (by omega) I dn fun s' I' => ?_
    rcases dget_n h8 pr with ⟨z1, z2⟩ | ⟨d', p, v, z1, z2, z3, z4⟩
    · rw [z1] at h; rw [z2]; exact h .non _ s' I' rfl rfl
    · rw [z1] at h; rw [z2]; exact h v _ s' I' z3 z4
theorem dput_ne {es : List (D × D)} {k v : D} : dput es k v ≠ [] := by
  unfold dput
  split
  · rename_i h
    intro z
    rw [List.map_eq_nil_iff] at z
    subst z
    simp at h
  · simp
theorem dd_set {v : V} {r' : Value} {Q : Unit → Shared → Prop} (hu : A.units + 100 < cLine) (I : Inv X pins σ H s) (ok : OOk X.K H a (.dct es)) (hk : DkOk es k) (r : Rep X.K H k y) (ry : RelV y u) (rd : Rep X.K H d v) (rv : RelV v r') (hl : es.length < sizeLine)
    (h : ∀ ho s', Inv X pins σ (L2.upd H a ho) s' → OOk X.K (L2.upd H a ho) a (.dct (dput es k d)) → Q () s') : wpAny (model X.prog X.w) A (setItem (.ref a) u r') Q E s := by
  have t : ∀ {ho}, Tm X.K H (L2.upd H a ho) := fun {ho} => upd_tm ok.notTup.1 ok.notTup.2.1
  rcases dk_split I ok hk r with ⟨kvs, k', e1, pr, hk', rfl⟩ | ⟨xs, b, rfl, h8, pr, dn, mu⟩
  · have hkl : kvs.length < sizeLine := by rw [← Paired.length pr]; exact hl
    refine d_setItem (by omega) I (DPut.k e1 hkl) ry rv fun s' I' => h _ s' I' (.inl ⟨_, L2.upd_same, ?_⟩)
    exact L2.Paired.mapP (dput_k hk' rd pr) fun p q z => ⟨z.1, z.2.mono t⟩
  · cases ry
    have hkl : xs.length < sizeLine := by rw [← Paired.length pr]; exact hl
    refine DLK.n_set (by omega) I mu dn hkl fun s' I' => h _ s' I' (.inr ⟨dput_ne, _, L2.upd_same, ?_⟩)
    exact L2.Paired.mapP (dput_n h8 r rv rd pr) fun p q ⟨z1, z2, z3, v, z4, z5⟩ => ⟨z1, z2, z3.mono t, v, z4, z5.mono t⟩
end
end
/-! ### the rules -/
section
variable {X : Cx} {RX : RXT} {W : WX} {F : FS}
variable {K : PySem.W.Frag} {σ : L2.St} {H H1 H2 : Hp} {env : Env} {M M1 M2 : Mem} {Q : VK}
theorem je_dnew {pos : Pos} : PE X (.Dict [] [] pos) (liftE X.K RX W (wE F .dnew)) :=
  PE.imp pe_dnewK fun σ H Q ⟨env, M, s, h⟩ => fun p hp => by
    have a : Alc H (L2.upd H p (.dK [])) := Alc.new hp
    have hM : M p = none := s.fresh hp
    refine h p hM (.ref p) _ (fun c o e n no => ?_) ((s.alc a).putO (.inl ⟨[], L2.upd_same, .nil⟩) hM (not_own s hp)) rfl
    have hc : c ≠ p := fun z => by subst z; rw [hp] at e; cases e
    exact ⟨a _ _ e, by rw [upd_other hc]; exact n⟩
theorem je_dget (hF : FMono F) (hu : X.A.units + 100 < cLine) {a b : Expr} {ia ib : IE} {pos : Pos} (ha : PE X a (liftE X.K RX W (wE F ia))) (hb : PE X b (liftE X.K RX W (wE F ib))) (hs : NoSl b) :
    PE X (.Subscript a b pos) (liftE X.K RX W (wE F (.dget ia ib))) := by
  refine ⟨fun pins s σ H Q I ⟨env, M, st, h⟩ => ?_⟩
  refine subD_of PySem.F.slot_dict_getitem.lookup hs (thn (ha.run pins s σ H (fun x H1 => ∃ dx M1, Ext env H M H1 M1 ∧ StE X.K σ H1 env M1 ∧ Rep X.K H1 dx x ∧ wE F ib env M1 (fun y M2 => ∃ a es v, dx = .ref a ∧ M2 a = some (.dct es) ∧ DkOk es y ∧ dget es y = some v ∧ postE X.K σ H env M Q v M2) (postX X.K RX W σ H env M)) I
    ⟨env, M, st, wE_mono hF ia (fun dx M1 q x H1 x1 s1 r1 => ⟨dx, M1, x1, s1, r1, q⟩) (fun _ _ q => q) h⟩) fun u s1 ⟨x, H1, I1, rx, dx, M1, x1, st1, r1, q1⟩ =>
    thn (hb.run pins s1 σ H1 (fun y H2 => ∃ dy M2, Ext env H1 M1 H2 M2 ∧ StE X.K σ H2 env M2 ∧ Rep X.K H2 dy y ∧ ∃ a es v, dx = .ref a ∧ M2 a = some (.dct es) ∧ DkOk es dy ∧ dget es dy = some v ∧ postE X.K σ H env M Q v M2) I1
      ⟨env, M1, st1, wE_mono hF ib (fun dy M2 q y H2 x2 s2 r2 => ⟨dy, M2, x2, s2, r2, q⟩) (fun _ _ q => q.go x1) q1⟩) fun iv s2 ⟨y, H2, I2, ry, dy, M2, x2, st2, r2, a, es, v, e1, e2, hk, g, q⟩ => ?_)
  subst e1
  cases r1; cases rx
  exact ⟨(dd_isD I2 (st2.mem a _ e2)).1, dd_get hu I2 (st2.mem a _ e2) hk r2 ry g fun w w' s' I' rw' rv => ⟨w, H2, I', rw', (q.go (x1.trans x2)).at st2 rv⟩⟩
theorem op_din (neg : Bool) (hu : X.A.units + 100 < cLine) : OpR X (compareOp (if neg then .NotIn else .In)) (fun y x H Q => ∃ dk a es, x = .ref a ∧ OOk X.K H a (.dct es) ∧ DkOk es dk ∧ Rep X.K H dk y ∧ Q (.bl (neg != (dget es dk).isSome)) H) := by
  intro pins s σ H y x u v Q I ry rx h
  obtain ⟨dk, a, es, rfl, ok, hk, r, q⟩ := h
  cases rx
  exact dd_in neg hu I ok hk r ry fun s' I' => ⟨.bl _, H, I', rfl, q⟩
theorem je_din (hF : FMono F) (neg : Bool) (hu : X.A.units + 100 < cLine) {a b : Expr} {ia ib : IE} {pos : Pos} (ha : PE X a (liftE X.K RX W (wE F ia))) (hb : PE X b (liftE X.K RX W (wE F ib))) (hm : behindInMarks (if neg then .NotIn else .In) b = false) :
    PE X (.Compare a [if neg then .NotIn else .In] [b] pos) (liftE X.K RX W (wE F (.din neg ia ib))) :=
  PE.imp (pe_cmpR (op_din neg hu) ha hb hm) fun σ H Q ⟨env, M, s, h⟩ => by
    refine ⟨env, M, s, wE_mono hF ia (fun d M1 q x H1 x1 s1 r1 => ?_) (fun _ _ q => q) h⟩
    refine ⟨env, M1, s1, wE_mono hF ib (fun e M2 q y H2 x2 s2 r2 => ?_) (fun _ _ q => q.go x1) q⟩
    obtain ⟨a, es, rfl, e2, hk, q⟩ := q
    cases r2
    exact ⟨d, a, es, rfl, s2.mem a _ e2, hk, r1.mono (x2.tm s1), (postE.go (x1.trans x2) q).at s2 (d := .bl _) rfl⟩
theorem jt_din (hF : FMono F) (neg : Bool) (hu : X.A.units + 100 < cLine) {a b : Expr} {ia ib : IE} {pos : Pos} (ha : PE X a (liftE X.K RX W (wE F ia))) (hb : PE X b (liftE X.K RX W (wE F ib))) (hm : behindInMarks (if neg then .NotIn else .In) b = false) :
    PT X (.Compare a [if neg then .NotIn else .In] [b] pos) (liftT X.K RX W (wT F (.v (.din neg ia ib)))) :=
  PT.imp (pt_cmpR (op_din neg hu) ha hb hm) fun σ H Q ⟨env, M, s, h⟩ => by
    refine ⟨env, M, s, wE_mono hF ia (fun d M1 q x H1 x1 s1 r1 => ?_) (fun _ _ q => q) h⟩
    refine ⟨env, M1, s1, wE_mono hF ib (fun e M2 q y H2 x2 s2 r2 => ?_) (fun _ _ q => q.go x1) q⟩
    obtain ⟨a, es, rfl, e2, hk, q⟩ := q
    cases r2
    exact ⟨d, a, es, rfl, s2.mem a _ e2, hk, r1.mono (x2.tm s1), _, rfl, q H2 (x1.trans x2) s2⟩
theorem je_dget1 (hF : FMono F) (hu : X.A.units + 100 < cLine) {o e : Expr} {io ie : IE} {ap cp : Pos} (ho : PE X o (liftE X.K RX W (wE F io))) (he : PE X e (liftE X.K RX W (wE F ie))) (m : L2.M1 X o "get" ap e cp) :
    PE X (.Call (.Attribute o "get" ap) [e] [] cp) (liftE X.K RX W (wE F (.dget1 io ie))) := by
  refine ⟨fun pins s σ H Q I ⟨env, M, st, h⟩ => ?_⟩
  refine wpAny_Call_method m.base m.few m.line PySem.F.plainAttrs_dict PySem.F.slot_dict_get PySem.F.type_dict_get (thn (ho.run pins s σ H (fun x H1 => ∃ dx M1, Ext env H M H1 M1 ∧ StE X.K σ H1 env M1 ∧ Rep X.K H1 dx x ∧ ∃ a es0, dx = .ref a ∧ M1 a = some (.dct es0) ∧ wE F ie env M1 (fun y M2 => ∃ es, M2 a = some (.dct es) ∧ DkOk es y ∧ postE X.K σ H env M Q ((dget es y).getD .non) M2) (postX X.K RX W σ H env M)) I
    ⟨env, M, st, wE_mono hF io (fun dx M1 q x H1 x1 s1 r1 => ⟨dx, M1, x1, s1, r1, q⟩) (fun _ _ q => q) h⟩) fun u s1 ⟨x, H1, I1, rx, dx, M1, x1, st1, r1, a, es0, e1, e2, q1⟩ => ?_)
  subst e1
  cases r1; cases rx
  obtain ⟨t1, t2⟩ := dd_isD I1 (st1.mem a _ e2)
  refine ⟨t1, t2, ?_⟩
  rw [m.trees]
  refine Calls.callWith_builtin rfl (Calls.evalArgs_plain (Calls.spliced_cons (thn (he.run pins s1 σ H1 (fun y H2 => ∃ dy M2, Ext env H1 M1 H2 M2 ∧ StE X.K σ H2 env M2 ∧ Rep X.K H2 dy y ∧ ∃ es, M2 a = some (.dct es) ∧ DkOk es dy ∧ postE X.K σ H env M Q ((dget es dy).getD .non) M2) I1
    ⟨env, M1, st1, wE_mono hF ie (fun dy M2 q y H2 x2 s2 r2 => ⟨dy, M2, x2, s2, r2, q⟩) (fun _ _ q => q.go x1) q1⟩) fun iv s2 ⟨y, H2, I2, ry, dy, M2, x2, st2, r2, es, e3, hk, q⟩ => Calls.spliced_nil ?_)))
  exact dd_get1 hu I2 (st2.mem a _ e3) hk r2 ry fun w w' s' I' rw' rv => ⟨w, H2, I', rw', (q.go (x1.trans x2)).at st2 rv⟩
theorem je_dgetd (hF : FMono F) (hu : X.A.units + 100 < cLine) {o e f : Expr} {io ie if' : IE} {ap cp : Pos} (ho : PE X o (liftE X.K RX W (wE F io))) (he : PE X e (liftE X.K RX W (wE F ie))) (hf : PE X f (liftE X.K RX W (wE F if'))) (m : L2.M2 X o "get" ap e f cp) :
    PE X (.Call (.Attribute o "get" ap) [e, f] [] cp) (liftE X.K RX W (wE F (.dgetd io ie if'))) := by
  refine ⟨fun pins s σ H Q I ⟨env, M, st, h⟩ => ?_⟩
  refine wpAny_Call_method m.base m.few m.line PySem.F.plainAttrs_dict PySem.F.slot_dict_get PySem.F.type_dict_get (thn (ho.run pins s σ H (fun x H1 => ∃ dx M1, Ext env H M H1 M1 ∧ StE X.K σ H1 env M1 ∧ Rep X.K H1 dx x ∧ ∃ a es0, dx = .ref a ∧ M1 a = some (.dct es0) ∧ wE F ie env M1 (fun y M2 => wE F if' env M2 (fun z M3 => ∃ es, M3 a = some (.dct es) ∧ DkOk es y ∧ postE X.K σ H env M Q ((dget es y).getD z) M3) (postX X.K RX W σ H env M)) (postX X.K RX W σ H env M)) I
    ⟨env, M, st, wE_mono hF io (fun dx M1 q x H1 x1 s1 r1 => ⟨dx, M1, x1, s1, r1, q⟩) (fun _ _ q => q) h⟩) fun u s1 ⟨x, H1, I1, rx, dx, M1, x1, st1, r1, a, es0, e1, e2, q1⟩ => ?_)
  subst e1
  cases r1; cases rx
  obtain ⟨t1, t2⟩ := dd_isD I1 (st1.mem a _ e2)
  refine ⟨t1, t2, ?_⟩
  rw [m.trees]
  refine Calls.callWith_builtin rfl (Calls.evalArgs_plain (Calls.spliced_cons (thn (he.run pins s1 σ H1 (fun y H2 => ∃ dy M2, Ext env H1 M1 H2 M2 ∧ StE X.K σ H2 env M2 ∧ Rep X.K H2 dy y ∧ wE F if' env M2 (fun z M3 => ∃ es, M3 a = some (.dct es) ∧ DkOk es dy ∧ postE X.K σ H env M Q ((dget es dy).getD z) M3) (postX X.K RX W σ H env M)) I1
    ⟨env, M1, st1, wE_mono hF ie (fun dy M2 q y H2 x2 s2 r2 => ⟨dy, M2, x2, s2, r2, q⟩) (fun _ _ q => q.go x1) q1⟩) fun iv s2 ⟨y, H2, I2, ry, dy, M2, x2, st2, r2, q2⟩ =>
    Calls.spliced_cons (thn (hf.run pins s2 σ H2 (fun z H3 => ∃ dz M3, Ext env H2 M2 H3 M3 ∧ StE X.K σ H3 env M3 ∧ Rep X.K H3 dz z ∧ ∃ es, M3 a = some (.dct es) ∧ DkOk es dy ∧ postE X.K σ H env M Q ((dget es dy).getD dz) M3) I2
    ⟨env, M2, st2, wE_mono hF if' (fun dz M3 q z H3 x3 s3 r3 => ⟨dz, M3, x3, s3, r3, q⟩) (fun _ _ q => q.go (x1.trans x2)) q2⟩) fun fv s3 ⟨z, H3, I3, rz, dz, M3, x3, st3, r3, es, e3, hk, q⟩ => Calls.spliced_nil ?_))))
  exact dd_get2 hu I3 (st3.mem a _ e3) hk (r2.mono (x3.tm st2)) ry r3 rz fun w w' s' I' rw' rv => ⟨w, H3, I', rw', (q.go ((x1.trans x2).trans x3)).at st3 rv⟩
theorem set_dct (hu : X.A.units + 100 < cLine) : PSet X (fun o i v H Q => ∃ a es dk dv, o = .ref a ∧ OOk X.K H a (.dct es) ∧ DkOk es dk ∧ Rep X.K H dk i ∧ Rep X.K H dv v ∧ es.length < sizeLine ∧ ∀ ho, OOk X.K (L2.upd H a ho) a (.dct (dput es dk dv)) → Q (L2.upd H a ho)) := by
  intro pins s σ H o i v ov iv u Q I ro ri rv h
  obtain ⟨a, es, dk, dv, rfl, ok, hk, r1, r2, hl, q⟩ := h
  cases ro
  exact dd_set hu I ok hk r1 ri r2 rv hl fun ho s' I' ok' => ⟨_, I', q ho ok'⟩
theorem bo_memO {B : Hp} {p : Addr} {o o' : MO} {ho : HO} (b : BO B H env M) (e : M p = some o) : BO B (L2.upd H p ho) env (upd M p o') := fun a u ea => by
  obtain ⟨h1, h2, h3⟩ := b a u ea
  have ha : a ≠ p := fun z => by subst z; rw [h2] at e; cases e
  exact ⟨by rw [L2.upd_ne ha]; exact h1, by rw [upd_other ha]; exact h2, h3⟩
theorem js_dset (hF : FMono F) (hu : X.A.units + 100 < cLine) {l k e : Expr} {il ik ie : IE} {sp pos : Pos} (hl : PE X l (liftE X.K RX W (wE F il))) (hk : PE X k (liftE X.K RX W (wE F ik))) (h : PE X e (liftE X.K RX W (wE F ie))) (hns : ∀ lo hi st q, k ≠ .Slice lo hi st q)
    (hs : swapsWithSole [.Subscript l k sp] e pos.line X.env = pure false) (hw : swappedStores [.Subscript l k sp] e X.env = pure none) : PS X (.Assign [.Subscript l k sp] e pos) (liftS X.K RX W (wS F (.dset il ik ie))) :=
  PS.imp (ps_asg h (pg_sub hl hk (set_dct hu) (by intro v; cases k <;> first | rfl | exact absurd rfl (hns _ _ _ _))) hs hw rfl) fun D σ H ⟨env, M, B, s, b, q⟩ => by
    refine exp_go hF s b q fun d M1 v H1 x1 s1 b1 r q => ?_
    refine exp_go hF s1 b1 q fun y M2 u H2 x2 s2 b2 r2 q => ?_
    refine exp_go hF s2 b2 q fun z M3 u3 H3 x3 s3 b3 r3 q => ?_
    obtain ⟨a, es, rfl, e, hk, hsz, q⟩ := q
    cases r2
    refine ⟨a, es, z, d, rfl, s3.mem a _ e, hk, r3, (r.mono (x2.tm s1)).mono (x3.tm s2), hsz, fun ho ok => ?_⟩
    exact q σ _ (s3.writeO e ok) (bo_memO b3 e)
/-- max(l, default=i) -/
def rMaxd (K : PySem.W.Frag) (mn : Bool) : List V → List V → Hp → VK → Prop := fun vs zs H Q => ∃ (p : Addr) (ns : List Int) (i : Int), vs = [.ref p] ∧ zs = [.int i] ∧ SqL K H p (ns.map V.int) ∧ (ns = [] → Q (.int i) H) ∧ ∀ m, m ∈ ns → (∀ y, y ∈ ns → if mn = true then m ≤ y else y ≤ m) → Q (.int m) H
theorem cr_maxd (hu : X.A.units + 100 < cLine) (hc : X.calm = true) : CallRK X (.builtin "max") [Str.ofString "default"] (rMaxd X.K false) := by
  intro pins s σ H vs zs us ws Q I r rz h
  obtain ⟨p, ns, i, rfl, rfl, hs, q0, q⟩ := h
  obtain ⟨its, rv, pl, _⟩ := I.list hs
  rw [Vals.ref1 r]
  cases rz with
  | cons g1 g2 =>
    cases g2
    obtain ⟨t, rfl⟩ := g1
    obtain ⟨as, ra⟩ := reads_ints (h := s.heap) rv
    refine PySem.W.max_list_default (I.ok.hd hc) pl.isList (by simpa using ra) alike_ints (by rw [depth_ints]; omega) (fun e h' tk hk => ?_) fun y ys j v h' tk bs e _ hr hk => ?_
    · have : ns = [] := by simpa using e
      exact ⟨.int _, H, I.kept hk, ⟨_, rfl⟩, q0 this⟩
    · cases ns with
      | nil => simp at e
      | cons n ns =>
        obtain ⟨e1, e2⟩ : PyData.int n = y ∧ ns.map PyData.int = ys := by simpa using e
        subst e1 e2
        rw [PySem.W.maxD_ints] at hr
        obtain ⟨t, rfl⟩ := int_reads hr
        obtain ⟨f1, f2⟩ := fold_max ns n
        exact ⟨.int _, H, I.kept hk, ⟨_, rfl⟩, q _ f1 (by simpa using f2)⟩
theorem je_maxd (hF : FMono F) (hu : X.A.units + 100 < cLine) (hc : X.calm = true) {l : IL} {i : Int} {e : Expr} {p cp kp pos : Pos} {j : Nat} (hg : Gl X "max") (hm : X.mg "max" = none) (h : PE X e (liftL X.K RX W (wL F l))) (hs : starEach [e] X.env = (false, eval e X.env) :: starEach [] X.env) :
    PE X (.Call (.Name "max" p) [e] [⟨some "default", .Constant (.int i) j cp, kp⟩] pos) (liftE X.K RX W (wE F (.maxd false l i))) :=
  PE.imp (pe_callBK (cr_maxd hu hc) hg hm PyProof.Rows.boot_max (pa_cons h pa_nil hs) (pk_cons pe_int pk_nil) (he := by rw [hs]; rfl) (hpl := by rw [hs]; rfl)) fun σ H Q ⟨env, M, s, h⟩ =>
    ⟨env, M, s, wL_mono hF l (fun xs M1 q p us H1 x1 s1 hs r => by
      obtain ⟨ns, rfl, q0, q⟩ := q
      have e := ints_rep r
      subst e
      exact ⟨p, ns, i, rfl, rfl, hs, fun z => (postE.go x1 (q0 z)).at s1 (d := .int _) rfl, fun m a b => (postE.go x1 (q m a b)).at s1 (d := .int _) rfl⟩) (fun _ _ q => q) h⟩
/-- reversed(range(..)) -/
theorem ji_revR (hF : FMono F) {tg a b : Expr} {ia ib : IE} {p p2 pos pos2 : Pos} (hg : Gl X "reversed") (hm : X.mg "reversed" = none) (hg2 : Gl X "range") (hm2 : X.mg "range" = none) (ha : PE X a (liftE X.K RX W (wE F ia))) (hb : PE X b (liftE X.K RX W (wE F ib)))
    (hs : starEach [a, b] X.env = (false, eval a X.env) :: starEach [b] X.env) (hs2 : starEach [b] X.env = (false, eval b X.env) :: starEach [] X.env) (hp : (backTo pos2 (starEach [b] X.env)).any (·.1) = false) :
    PI X tg (.Call (.Name "reversed" p) [.Call (.Name "range" p2) [a, b] [] pos2] [] pos) (liftI X.K RX W (wI F (.revR ia ib))) :=
  PI.imp (pi_revR hg hm (prg_2 hg2 hm2 ha hb hs hs2 hp)) fun σ H R ⟨env, M, s, h⟩ => ⟨env, M, s, wE_mono hF ia (fun d M1 q v H1 x1 s1 r1 =>
    ⟨env, M1, s1, wE_mono hF ib (fun e M2 q u H2 x2 s2 r2 => by
      obtain ⟨i, j, rfl, rfl, hn, q⟩ := q
      cases r1; cases r2
      exact ⟨i, j, rfl, rfl, hn.1, hn.2.1, hn.2.2.1, hn.2.2.2, q _ H2 (x1.trans x2) s2 walk_fnr⟩) (fun _ _ q => q.go x1) q⟩) (fun _ _ q => q) h⟩
theorem ji_revR1 (hF : FMono F) {tg b : Expr} {ib : IE} {p p2 pos pos2 : Pos} (hg : Gl X "reversed") (hm : X.mg "reversed" = none) (hg2 : Gl X "range") (hm2 : X.mg "range" = none) (hb : PE X b (liftE X.K RX W (wE F ib)))
    (hs2 : starEach [b] X.env = (false, eval b X.env) :: starEach [] X.env) :
    PI X tg (.Call (.Name "reversed" p) [.Call (.Name "range" p2) [b] [] pos2] [] pos) (liftI X.K RX W (wI F (.revR (.cst (.int 0)) ib))) :=
  PI.imp (pi_revR hg hm (prg_1 hg2 hm2 hb hs2)) fun σ H R ⟨env, M, s, h⟩ => ⟨env, M, s, wE_mono hF ib (fun e M2 q u H2 x2 s2 r2 => by
      obtain ⟨i, j, e1, rfl, hn, q⟩ := q
      cases e1
      cases r2
      exact ⟨j, rfl, hn.1, hn.2.1, hn.2.2.1, hn.2.2.2, q _ H2 x2 s2 walk_fnr⟩) (fun _ _ q => q) (show wE F ib env M _ _ from h)⟩
/-! ### sorted(d.keys()) -/
/-- a dict's keys, looked at -/
def KVw (r d : Addr) : HO := .ext fun h => PySem.W.KdlKeysView h r d
theorem kvw_mk {P : Program} {w : World} {H : Hp} {h : Heap} {r d : Addr} (v : PySem.W.KdlKeysView h r d) : ObjOk P w H h r (KVw r d) := by
  obtain ⟨o, h1, h2⟩ := v
  exact ⟨⟨o, h1, h2⟩, ⟨o, h1⟩, fun h1 h2 ⟨o, e1, e2⟩ k => ⟨o, k _ e1, e2⟩⟩
theorem cr_sortK (hcalm : X.calm = true) : CallR X (.builtin "sorted") (fun xs H Q => ∃ (r a : Addr) (kvs : List (Key × V)) (ks : List Int), xs = [.ref r] ∧ H r = some (KVw r a) ∧ H a = some (.dK kvs) ∧ kvs.map (·.1) = ks.map Sum.inl ∧ ks.length < 64 ∧
    ∀ (ys : List Int) (p : Addr), ys.Perm ks → ys.Pairwise (· ≤ ·) → H p = none → Q (.ref p) (L2.upd H p (.lst (ys.map V.int)))) := by
  intro pins s σ H xs us Q I r q
  obtain ⟨r', a, kvs, ks, ex, hr, hd, hks, h64, q⟩ := q
  subst ex
  rw [Vals.ref1 r]
  have hview : PySem.W.KdlKeysView s.heap r' a := by
    obtain ⟨h1, _⟩ := (show ObjOk X.prog X.w H s.heap r' (KVw r' a) from I.hok r' _ hr)
    exact h1
  obtain ⟨z, lo, vs, rel, dd⟩ := dk_of I.hok hd
  obtain ⟨ep, hat⟩ := dd.dictAt
  have hkeys : vs.map (·.1) = ks.map Sum.inl := rel.keys.symm.trans hks
  have hl : vs.length = ks.length := by
    have e := congrArg List.length hkeys
    rw [List.length_map, List.length_map] at e
    exact e
  have h16 : vs.length ≤ sizeLine := by rw [hl, sizeLine_eq]; omega
  refine Calls.call_function_entry PyProof.Rows.kind_sorted PyProof.Rows.plain_sorted PyProof.Rows.entry_sorted (PyProof.Rows.args_sorted1 _) ?_
  unfold Builtin.«sorted»
  refine wpAny_bind (m := checkCount "sorted" 1 1 _) (wpAny_pure ?_)
  refine wpAny_bind (PySem.W.kdu_collect (A := X.A.in1) (PySem.W.kdl_keys (knd := mixKind X.prog X.w) (kvs := vs) (ep := ep)) (I.ok.hd hcalm) ⟨hview, hat⟩ h16 fun h' tk acc hk hacc => ?_)
  have hal : acc.toList.length = ks.length := by rw [Array.length_toList, hacc.1, hl]
  have hS : IntsAre acc.toList ks := ints_each hal fun j v e => by
    obtain ⟨k, x, e1, e2⟩ := hacc.2 j v (by rw [← Array.getElem?_toList]; exact e)
    have e3 : (vs.map (·.1))[j]? = some k := by rw [List.getElem?_map, e1]; rfl
    rw [hkeys, List.getElem?_map] at e3
    cases e4 : ks[j]? with
    | none => rw [e4] at e3; cases e3
    | some y =>
      rw [e4] at e3
      have e5 : Sum.inl y = k := Option.some.inj e3
      subst e5
      rcases keyIs_shape (show keyIs (Sum.inl y) v = true from e2) with ⟨i, t, ek, ev⟩ | ⟨z, t, ek, ev⟩
      · cases ek
        exact ⟨y, t, rfl, ev⟩
      · cases ek
  have I1 : Inv X pins σ H { s with heap := h', toks := tk } := I.kept hk
  refine wpAny_bind (wpAny_newList ?_ (by rw [hal, sizeLine_eq]; omega))
  have hoL : (h'.push (seqObj "list" acc.toList.toArray 0)).get? h'.objs.size = some (seqObj "list" acc.toList.toArray 0) := Heap.get?_push_size _ rfl
  show wpAny _ _ _ _ _ { s with heap := h'.push (seqObj "list" acc.toList.toArray 0), toks := tk }
  refine wpAny_bind (wpAny_holding (wpAny_call_entry PyProof.Rows.slot_list_sort ⟨_, hoL, rfl⟩ PyProof.Rows.entry_list_sort
    (PyProof.Rows.list_sort_tree (s := { s with heap := h'.push (seqObj "list" acc.toList.toArray 0), toks := tk }) hoL hS (by rw [hal]; exact h64) fun out ys g1 g2 g3 => ⟨_, rfl, ?_⟩) (PyProof.Rows.args_list_sort _)))
  obtain ⟨e', he'⟩ := PyProof.Rows.sortedHeap_at (vs := acc.toList) (out := out) hoL
  have hlen : (ys.map V.int).length ≤ sizeLine := by
    rw [List.length_map, g2.length_eq]
    exact Nat.le_trans (Nat.le_of_lt h64) (by decide)
  refine wpAny_pure ⟨_, rfl, .ref h'.objs.size, L2.upd H h'.objs.size (.lst (ys.map V.int)), I1.laid (t' := tk) (fun b u e => ?_) (Nat.le_refl _)
    (show ObjOk X.prog X.w _ _ _ (.lst (ys.map V.int)) from ⟨hlen, out.toList, e', vals_of_ints g1, by rw [Array.toArray_toList]; exact he'⟩), rfl, q ys _ g2 g3 (I1.hok.fresh (Nat.le_refl _))⟩
  have hb : b < h'.objs.size := Heap.lt_size e
  rw [PyProof.Rows.sortedHeap_old (Nat.ne_of_lt hb) (by rw [size_push']; exact Nat.lt_succ_of_lt hb)]
  exact Heap.get?_push_of_some _ e
theorem pgetD {α β : Type} {F : α → β → Prop} : ∀ {l₁ : List α} {l₂ : List β} {j : Nat} {x : β}, Paired F l₁ l₂ → l₂[j]? = some x → ∃ y, l₁[j]? = some y ∧ F y x
  | _, _, j, x, Paired.nil, h => by simp at h
  | _, _, 0, x, Paired.cons (a := y) f _, h => by
    simp only [List.getElem?_cons_zero] at h ⊢
    cases h
    exact ⟨y, rfl, f⟩
  | _, _, j + 1, x, Paired.cons _ r, h => by
    simp only [List.getElem?_cons_succ] at h ⊢
    exact pgetD r h
/-- a dict's entries as they lie: each key stands for its datum -/
theorem raw_of {pins : List (Addr × Obj)} {s : Shared} {a : Addr} {es : List (D × D)} (I : Inv X pins σ H s) (ok : OOk X.K H a (.dct es)) : es.length ≤ sizeLine ∧ (a == sysModules) = false ∧ ∃ (rs : Array DictEntry) (ep : Nat), s.heap.DictRaw a rs ep ∧ rs.size = es.length ∧ ∀ i (hi : i < rs.size), ∃ (p : D × D) (v : V), es[i]? = some p ∧ Rep X.K H p.1 v ∧ RelV v rs[i].key := by
  rcases ok with ⟨kvs, e1, e2⟩ | ⟨h0, xs, e1, e2⟩
  · obtain ⟨z, hd, vs, rel, dd⟩ := dk_of I.hok e1
    obtain ⟨rs, ep, hr, hsz, hk⟩ := dd.raw
    have hl : kvs.length = vs.length := by
      have e := congrArg List.length rel.keys
      rw [List.length_map, List.length_map] at e
      exact e
    refine ⟨by rw [Paired.length e2]; exact z, hd, rs, ep, hr, by rw [hsz, ← hl, Paired.length e2], fun i hi => ?_⟩
    have hv : i < vs.length := by omega
    obtain ⟨h1, _⟩ := hk i hi vs[i].1 vs[i].2 (by rw [List.getElem?_eq_getElem hv])
    have hi' : i < kvs.length := by omega
    have e3 : (kvs.map (·.1))[i]? = (vs.map (·.1))[i]? := by rw [rel.keys]
    rw [List.getElem?_map, List.getElem?_map, List.getElem?_eq_getElem hi', List.getElem?_eq_getElem hv] at e3
    have e4 : kvs[i].1 = vs[i].1 := Option.some.inj e3
    obtain ⟨p, g1, g2, g3⟩ := pgetD e2 (List.getElem?_eq_getElem hi')
    rw [e4] at g2
    rcases keyIs_shape (show keyIs vs[i].1 rs[i].key = true from h1) with ⟨n, t, ek, ev⟩ | ⟨n, t, ek, ev⟩
    · rw [ek] at g2
      have hp : p.1 = .int n := by
        cases hq : p.1 <;> rw [hq] at g2 <;> simp [D.pk] at g2
        rw [g2]
      exact ⟨p, .int n, g1, by rw [hp]; rfl, t, ev⟩
    · rw [ek] at g2
      have hp : p.1 = .str n := by
        cases hq : p.1 <;> rw [hq] at g2 <;> simp [D.pk] at g2
        rw [g2]
      exact ⟨p, .str n, g1, by rw [hp]; rfl, t, ev⟩
  · obtain ⟨⟨z, hd, o, rs, ep, g1, g2, g3, g4, g5⟩, _⟩ := (show ObjOk X.prog X.w H s.heap a (DLK.ND a xs) from I.hok a _ e1)
    have hsz : rs.size = xs.length := by
      have e := congrArg List.length g4
      rw [List.length_map, Array.length_toList] at e
      exact e
    refine ⟨by rw [Paired.length e2]; exact z, hd, rs, ep, ⟨o, g1, g2, g3⟩, by rw [hsz, Paired.length e2], fun i hi => ?_⟩
    have hx : i < xs.length := by omega
    obtain ⟨p, q1, _, _, q2, _⟩ := pgetD e2 (List.getElem?_eq_getElem hx)
    have e3 : rs.toList[i]? = (xs.map DLK.ent0)[i]? := by rw [g4]
    rw [List.getElem?_map, List.getElem?_eq_getElem hx, Array.getElem?_toList, Array.getElem?_eq_getElem hi] at e3
    have e4 : rs[i] = DLK.ent0 xs[i] := Option.some.inj e3
    refine ⟨p, .ref xs[i].2.1, q1, q2, ?_⟩
    rw [e4]
    rfl
theorem CallR.or {v : Value} {R R' : List V → Hp → VK → Prop} (h : CallR X v R) (h' : CallR X v R') : CallR X v (fun xs H Q => R xs H Q ∨ R' xs H Q) := by
  intro pins s σ H xs us Q I r q
  rcases q with q | q
  · exact h pins s σ H xs us Q I r q
  · exact h' pins s σ H xs us Q I r q
theorem each_of_get {α β : Type} {R : α → β → Prop} : ∀ {as : List α} {bs : List β}, as.length = bs.length → (∀ (j : Nat) (a : α) (b : β), as[j]? = some a → bs[j]? = some b → R a b) → PySem.W.EachIs R as bs
  | [], [], _, _ => .nil
  | [], _ :: _, h, _ => by simp at h
  | _ :: _, [], h, _ => by simp at h
  | a :: as, b :: bs, h, f => .cons (f 0 a b rfl rfl) (each_of_get (by simpa using h) fun j a b e1 e2 => f (j + 1) a b (by simpa using e1) (by simpa using e2))
theorem pe_keysR {td : TE} {e : Expr} {apos cpos : Pos} (he : PE X e td) (hbase : attributeBase e "keys" X.env (eval e X.env) = eval e X.env) (hline : (apos.endLine == cpos.line) = true) :
    PE X (.Call (.Attribute e "keys" apos) [] [] cpos) (fun σ H Q => td σ H fun x H1 => ∃ d es, x = .ref d ∧ OOk X.K H1 d (.dct es) ∧ ∀ r, H1 r = none → Q (.ref r) (L2.upd H1 r (KVw r d))) := by
  refine ⟨fun pins s σ H Q I h => ?_⟩
  refine wpAny_Call_method (T := "dict") (id := "dict.keys") hbase rfl hline PySem.F.plainAttrs_dict PySem.F.slot_dict_keys PySem.F.type_dict_keys (thn (he.run pins s σ H _ I h) fun u s1 ⟨x, H1, I1, rx, d, es, ex, hd, q⟩ => ?_)
  subst ex
  obtain rfl : u = Value.ref d := rx
  obtain ⟨z, lo, rs, ep, dd, _⟩ := raw_of I1 hd
  refine ⟨dd.typeIs, ?_, ?_⟩
  · obtain ⟨o, h1, h2, h3⟩ := dd
    exact fun b hb => ⟨o, by cases hb; exact h1, h2.2.1⟩
  have hv : PySem.W.KdlKeysView (s1.heap.push { cls := .type "dict_keys", data := .fields #[.ref d] }) s1.heap.objs.size d := ⟨_, Heap.get?_push_size _ rfl, rfl, rfl⟩
  have I2 : Inv X pins σ (L2.upd H1 s1.heap.objs.size (KVw s1.heap.objs.size d)) { s1 with heap := s1.heap.push { cls := .type "dict_keys", data := .fields #[.ref d] } } :=
    I1.laid (t' := s1.toks) (fun b u e => Heap.get?_push_of_some _ e) (Nat.le_refl _) (kvw_mk hv)
  show wpAny _ _ (callWith cpos (.builtin "dict.keys") [.ref d] [] []) _ X.xe s1
  exact method_meetsIn PySem.F.slot_dict_keys PySem.F.entry_dict_keys rfl (PySem.evalArgs_none ⟨rfl, dd.typeIs, PySem.F.args_dict_keys_1 _, _, PySem.meets_dict_keys_raw d lo, ⟨⟨rs, ep, dd⟩, ⟨.ref s1.heap.objs.size, _, I2, rfl, q _ (I1.hok.fresh (Nat.le_refl _))⟩⟩⟩)
theorem cr_sortKR (hu : X.A.units + 100 < cLine) (hcalm : X.calm = true) : CallR X (.builtin "sorted") (fun xs H Q => ∃ (r a : Addr) (es : List (D × D)), xs = [.ref r] ∧ H r = some (KVw r a) ∧ OOk X.K H a (.dct es) ∧ wSrtD (es.map (·.1)) fun ys => ∀ (p : Addr) ws, H p = none → Reps X.K H ys ws → Q (.ref p) (L2.upd H p (.lst ws))) := by
  intro pins s σ H xs us Q I r q
  obtain ⟨r', a, es, ex, hr, ho, hx, q⟩ := q
  subst ex
  rw [Vals.ref1 r]
  have hview : PySem.W.KdlKeysView s.heap r' a := by
    obtain ⟨h1, _⟩ := (show ObjOk X.prog X.w H s.heap r' (KVw r' a) from I.hok r' _ hr)
    exact h1
  obtain ⟨h16, lo, rs, ep, dd, hsz, hkey⟩ := raw_of I ho
  refine Calls.call_function_entry PyProof.Rows.kind_sorted PyProof.Rows.plain_sorted PyProof.Rows.entry_sorted (PyProof.Rows.args_sorted1 _) ?_
  unfold Builtin.«sorted»
  refine wpAny_bind (m := checkCount "sorted" 1 1 _) (wpAny_pure ?_)
  refine wpAny_bind (PySem.W.kdu_collect (A := X.A.in1) (PySem.KdlSrc.rawKeys (prog := X.prog) (w := X.w) (es := rs) (ep := ep)) (I.ok.hd hcalm) ⟨hview, dd⟩ (by omega) fun h' tk acc hk hacc => ?_)
  have hal : acc.toList.length = es.length := by rw [Array.length_toList, hacc.1, hsz]
  have I1 : Inv X pins σ H { s with heap := h', toks := tk } := I.kept hk
  have hE : PySem.W.EachIs (ItR X.K H) acc.toList (es.map (·.1)) := by
    refine each_of_get (by rw [List.length_map]; exact hal) fun j v d e1 e2 => ?_
    obtain ⟨hi, e3⟩ := hacc.2 j v (by rw [← Array.getElem?_toList]; exact e1)
    obtain ⟨p, w, g1, g2, g3⟩ := hkey j hi
    rw [List.getElem?_map, g1] at e2
    cases e2
    rw [e3]
    exact ⟨w, g3, g2⟩
  refine wpAny_bind (wpAny_newList ?_ (by rw [hal]; exact h16))
  have hoL : (h'.push (seqObj "list" acc.toList.toArray 0)).get? h'.objs.size = some (seqObj "list" acc.toList.toArray 0) := Heap.get?_push_size _ rfl
  show wpAny _ _ _ _ _ { s with heap := h'.push (seqObj "list" acc.toList.toArray 0), toks := tk }
  have hRd : PySem.W.EachIs (fun v d => ∃ as, Reads (h'.push (seqObj "list" acc.toList.toArray 0)) v d.py as ∧ h'.objs.size ∉ as) acc.toList (es.map (·.1)) :=
    each_imp hE fun v d hd ⟨u, h1, h2⟩ => by
      obtain ⟨as, g⟩ := Dp.reads I1 d.py u v (dp_of (flats_memD hx.1 d hd) h2) h1
      have e0 := reads_nl g
      subst e0
      exact ⟨[], PyProof.Rows.Reads.keeps (fun _ _ => Heap.get?_push_of_some _) g, by simp⟩
  refine wpAny_bind (wpAny_holding (PySem.W.list_sort_data (enc := D.py) hoL hE hRd (srt_alike hx) (srt_able hx) (by rw [List.length_map]; exact h16) (fun d hd => ?_) fun out hol hout => ?_))
  · have := (lay_of (flats_memD hx.1 d hd)).2
    have := Around.in1_units X.A
    omega
  · obtain ⟨ws, h1, h2⟩ := itR_each hout
    obtain ⟨e', he'⟩ := PyProof.Rows.sortedHeap_at (vs := acc.toList) (out := out.toArray) hoL
    have hlen : ws.length ≤ sizeLine := by rw [h2.length, hol, List.length_map]; exact h16
    refine wpAny_pure ⟨_, rfl, .ref h'.objs.size, L2.upd H h'.objs.size (.lst ws), I1.laid (t' := tk) (fun b u e => ?_) (Nat.le_refl _)
      (show ObjOk X.prog X.w _ _ _ (.lst ws) from ⟨hlen, out, e', h2, he'⟩), rfl, q _ (List.mergeSort_perm _ _) srt_pair _ ws (I1.hok.fresh (Nat.le_refl _)) h1⟩
    have hb : b < h'.objs.size := Heap.lt_size e
    rw [PyProof.Rows.sortedHeap_old (Nat.ne_of_lt hb) (by rw [size_push']; exact Nat.lt_succ_of_lt hb)]
    exact Heap.get?_push_of_some _ e
/-- the keys of a dict of whole numbers -/
theorem dk_ints {a : Addr} {es : List (D × D)} {ns : List Int} (ok : OOk K H a (.dct es)) (h : es.map (·.1) = ns.map D.int) : ∃ kvs : List (Key × V), H a = some (.dK kvs) ∧ kvs.map (·.1) = ns.map Sum.inl := by
  have keys : ∀ {es : List (D × D)} {kvs : List (L2.Key × V)} {ns : List Int}, Paired (fun (p : D × D) (q : L2.Key × V) => p.1.pk = some q.1 ∧ Rep K H p.2 q.2) es kvs → es.map (·.1) = ns.map D.int → kvs.map (·.1) = ns.map Sum.inl := by
    intro es kvs ns r
    induction r generalizing ns with
    | nil => intro h; cases ns with
      | nil => rfl
      | cons n ns => simp at h
    | @cons p q es kvs h1 h2 ih =>
      intro h
      cases ns with
      | nil => simp at h
      | cons n ns =>
        simp only [List.map_cons, List.cons.injEq] at h
        have e := h1.1
        rw [h.1] at e
        have e : q.1 = Sum.inl n := (Option.some.inj e).symm
        rw [List.map_cons, List.map_cons, e, ih h.2]
  rcases ok with ⟨kvs, e1, e2⟩ | ⟨h0, xs, e1, e2⟩
  · exact ⟨kvs, e1, keys e2 h⟩
  · exfalso
    cases es with
    | nil => exact h0 rfl
    | cons p es =>
      cases ns with
      | nil => simp at h
      | cons n ns =>
        simp only [List.map_cons, List.cons.injEq] at h
        cases e2 with
        | cons g _ =>
          have := kt_tup g.1 g.2.2.1
          rw [h.1] at this
          simp [D.plain] at this
theorem je_sortK (hF : FMono F) (hu : X.A.units + 100 < cLine) (hc : X.calm = true) {o : Expr} {io : IE} {p ap cp pos : Pos} (hg : Gl X "sorted") (hm : X.mg "sorted" = none) (ho : PE X o (liftE X.K RX W (wE F io))) (hbase : attributeBase o "keys" X.env (eval o X.env) = eval o X.env) (hline : (ap.endLine == cp.line) = true)
    (hs : starEach [.Call (.Attribute o "keys" ap) [] [] cp] X.env = (false, eval (.Call (.Attribute o "keys" ap) [] [] cp) X.env) :: starEach [] X.env) :
    PE X (.Call (.Name "sorted" p) [.Call (.Attribute o "keys" ap) [] [] cp] [] pos) (liftE X.K RX W (wE F (.sortK io))) :=
  PE.imp (pe_callB (CallR.or (cr_sortK hc) (cr_sortKR hu hc)) hg hm PyProof.Rows.boot_sorted (pa_cons (pe_keysR ho hbase hline) pa_nil hs) (by decide +kernel) (by decide +kernel) hs rfl) fun σ H Q ⟨env, M, s, h⟩ =>
    ⟨env, M, s, wE_mono hF io (fun d M1 q v H1 x1 s1 r1 => by
      obtain ⟨a, es, rfl, e, q⟩ := q
      cases r1
      have ok := s1.mem a _ e
      refine ⟨a, es, rfl, ok, fun r hr => ?_⟩
      have al : Alc H1 (L2.upd H1 r (KVw r a)) := Alc.new hr
      have hra : a ≠ r := fun z => by
        subst z
        rcases ok with ⟨_, e1, _⟩ | ⟨_, _, e1, _⟩ <;> rw [hr] at e1 <;> cases e1
      have s2 := s1.alc al
      have fin : ∀ ys ws t, (L2.upd H1 r (KVw r a)) t = none → Reps X.K (L2.upd H1 r (KVw r a)) ys ws → (∀ t, M1 t = none → postE X.K σ H env M Q (.ref t) (upd M1 t (.lst ys))) → Q (.ref t) (L2.upd (L2.upd H1 r (KVw r a)) t (.lst ws)) := fun ys ws t ht hr' q => by
        have hM : M1 t = none := s2.fresh ht
        have al2 : Alc (L2.upd H1 r (KVw r a)) (L2.upd (L2.upd H1 r (KVw r a)) t (.lst ws)) := Alc.new ht
        refine ((q t hM).go (x1.trans (Ext.alc al))) (.ref t) _ (fun c o e n no => ?_) ((s2.alc al2).put L2.upd_same (hr'.mono al2.tm) hM fun i q o' e z => ?_) rfl
        · have hc : c ≠ t := fun z => by subst z; rw [ht] at e; cases e
          exact ⟨al2 _ _ e, by rw [upd_other hc]; exact n⟩
        · subst z
          exact not_own s2 ht i _ o' e rfl
      rcases q with ⟨ns, hk, h64, q⟩ | q
      · obtain ⟨kvs, e1, e2⟩ := dk_ints ok hk
        exact .inl ⟨r, a, kvs, ns, rfl, L2.upd_same, by rw [L2.upd_ne hra]; exact e1, e2, h64, fun ys t hy1 hy2 ht => fin _ _ t ht reps_ints fun t hM => q ys hy1 hy2 t hM⟩
      · exact .inr ⟨r, a, es, rfl, L2.upd_same, s2.mem a _ e, q.1, fun ys hy1 hy2 t ws ht hr' => fin _ _ t ht hr' fun t hM => q.2 ys hy1 hy2 t hM⟩) (fun _ _ q => q) h⟩
/-! ### list + list, list * int -/
theorem je_cat (hF : FMono F) {a b : Expr} {ia ib : IE} {pos : Pos} (ha : PE X a (liftE X.K RX W (wE F ia))) (hb : PE X b (liftE X.K RX W (wE F ib))) : PE X (.BinOp a .Add b pos) (liftE X.K RX W (wE F (.cat ia ib))) :=
  PE.imp (pe_op op_cat ha hb) fun σ H Q ⟨env, M, s, h⟩ => ⟨env, M, s, wE_mono hF ia (fun dx M1 q x H1 x1 s1 r1 => ⟨env, M1, s1, wE_mono hF ib (fun dy M2 q y H2 x2 s2 r2 => by
    obtain ⟨p, q', xs, ys, rfl, rfl, e1, e2, hl, q⟩ := q
    obtain ⟨vs, h1, h2⟩ := s2.mem _ _ e1
    obtain ⟨us, h3, h4⟩ := s2.mem _ _ e2
    cases r1; cases r2
    refine ⟨p, q', vs, us, rfl, rfl, h1, h3, by rw [← h2.length, ← h4.length]; exact hl, fun t ht => ?_⟩
    have hM : M2 t = none := s2.fresh ht
    have al : Alc H2 (L2.upd H2 t (.lst (vs ++ us))) := Alc.new ht
    refine ((q t hM).go (x1.trans x2)) (.ref t) _ (fun c o e n no => ?_) ((s2.alc al).put L2.upd_same ((Reps.append h2 h4).mono al.tm) hM fun i q o' e z => ?_) rfl
    · have hc : c ≠ t := fun z => by subst z; rw [ht] at e; cases e
      exact ⟨al _ _ e, by rw [upd_other hc]; exact n⟩
    · subst z
      exact not_own s2 ht i _ o' e rfl) (fun _ _ q => q.go x1) q⟩) (fun _ _ q => q) h⟩
theorem je_repL (hF : FMono F) {a b : Expr} {ia ib : IE} {pos : Pos} (ha : PE X a (liftE X.K RX W (wE F ia))) (hb : PE X b (liftE X.K RX W (wE F ib))) : PE X (.BinOp a .Mult b pos) (liftE X.K RX W (wE F (.repL ia ib))) :=
  PE.imp (pe_op op_rep ha hb) fun σ H Q ⟨env, M, s, h⟩ => ⟨env, M, s, wE_mono hF ia (fun dx M1 q x H1 x1 s1 r1 => ⟨env, M1, s1, wE_mono hF ib (fun dy M2 q y H2 x2 s2 r2 => by
    obtain ⟨p, xs, k, rfl, rfl, e1, ⟨k1, k2⟩, hl, q⟩ := q
    obtain ⟨vs, h1, h2⟩ := s2.mem _ _ e1
    cases r1; cases r2
    refine ⟨p, k, vs, rfl, rfl, h1, k1, k2, by rw [← h2.length]; exact hl, fun t ht => ?_⟩
    have hM : M2 t = none := s2.fresh ht
    have al : Alc H2 (L2.upd H2 t (.lst (List.replicate k.toNat vs).flatten)) := Alc.new ht
    refine ((q t hM).go (x1.trans x2)) (.ref t) _ (fun c o e n no => ?_) ((s2.alc al).put L2.upd_same ((reps_flat h2).mono al.tm) hM fun i q o' e z => ?_) rfl
    · have hc : c ≠ t := fun z => by subst z; rw [ht] at e; cases e
      exact ⟨al _ _ e, by rw [upd_other hc]; exact n⟩
    · subst z
      exact not_own s2 ht i _ o' e rfl) (fun _ _ q => q.go x1) q⟩) (fun _ _ q => q) h⟩
end
end DL
set_option maxHeartbeats 1000000
/-! Soundness: own errors. -/
namespace DL
open PySem PySem.Spec PyProof.Rows L2 DLX
/-- a class of errors: its name, its fields -/
structure XCls where
  name : String
  fields : List String
def fStr (fs : List String) : List Str := fs.map fun (s : String) => (s : Str)
/-- what a raised error is -/
def RXK (K : PySem.W.Frag) : RXT := fun H c dd x => ∃ cl, c = .ref cl ∧ XF K H cl dd x
def clsV : Value → Option V
  | .ref C => some (.ref C)
  | .type T => some (.ty T)
  | _ => none
theorem clsV_rel {u : Value} {v : V} (h : clsV u = some v) : RelV v u ∧ ∀ w, RelV v w → w = u := by
  unfold clsV at h
  split at h
  · cases h; exact ⟨rfl, fun w z => z⟩
  · cases h; exact ⟨rfl, fun w z => z⟩
  · cases h
/-- the class a is one of b, or not -/
structure RelOk (K : PySem.W.Frag) (mg : Str → Option Value) (a b : String) (r : Bool) : Prop where
  ex : ∃ Ca vb, PySem.W.nsIn K mainGlobals (a : Str) = some (some (.ref Ca)) ∧ (mg (b : Str) = some vb ∨ (mg (b : Str) = none ∧ bootBuiltins (b : Str) = some vb ∧ (b : Str) ≠ "__name__")) ∧ (∃ v, clsV vb = some v) ∧
    PySem.W.exmOne K (.ref Ca) vb = some r ∧ PySem.W.kitOne K (.ref Ca) vb = some r
structure ClsOk (prog : Program) (K : PySem.W.Frag) (mg : Str → Option Value) (c : XCls) : Prop where
  ex : ∃ C, PySem.W.nsIn K mainGlobals (c.name : Str) = some (some (.ref C)) ∧ mg (c.name : Str) = some (.ref C) ∧ ExcC K C ∧ OexC K C ∧ OwnI prog K mg C (fStr c.fields) ∧ (fStr c.fields).Nodup
/-- what is asked beside one another -/
inductive Asks (K : PySem.W.Frag) (mg : Str → Option Value) : List String → List V → List Value → Prop
  | nil : Asks K mg [] [] []
  | cons {b : String} {vb : Value} {v : V} {bs vs us} (h : mg (b : Str) = some vb ∨ (mg (b : Str) = none ∧ bootBuiltins (b : Str) = some vb ∧ (b : Str) ≠ "__name__")) (hv : clsV vb = some v) (r : Asks K mg bs vs us) : Asks K mg (b :: bs) (v :: vs) (vb :: us)
theorem kitAny_all {K : PySem.W.Frag} {t : Value} : ∀ {us : List Value} {rs : List Bool}, rs.length = us.length → (∀ (i : Nat) u, us[i]? = some u → ∃ r, rs[i]? = some r ∧ PySem.W.kitOne K t u = some r) → PySem.W.kitAny K t us = some (rs.any id)
  | [], [], _, _ => rfl
  | [], _ :: _, h, _ => by simp at h
  | _ :: _, [], h, _ => by simp at h
  | u :: us, r :: rs, hl, h => by
    obtain ⟨r', e1, e2⟩ := h 0 u rfl
    cases e1
    unfold PySem.W.kitAny
    rw [e2]
    cases r with
    | true => rfl
    | false =>
      have := kitAny_all (K := K) (t := t) (us := us) (rs := rs) (by simpa using hl) fun i u' hu => h (i + 1) u' (by simpa using hu)
      simpa using this
section
variable {X : Cx} {RX : RXT} {W : WX} {F : FS}
variable {K : PySem.W.Frag} {mg : Str → Option Value} {σ : L2.St} {H H1 H2 : Hp} {env : Env} {M M1 M2 : Mem} {Q : VK} {B : Hp} {D : Ends}
theorem je_xfld {i : Nat} {x : Str} {f : String} {p pos : Pos} (hN : X.N[i]? = some x) (hv : Vis X.env.scope x) (hd : (x == ("__debug__" : Str)) = false) (hcd : (x == ("__classdict__" : Str)) = false)
    (hpin : ∀ a cl d, F.pin a cl d → AtHand X a cl d) : PE X (.Attribute (.Name x p) (f : Str) pos) (liftE X.K RX W (wE F (.xfld i f))) :=
  PE.imp (pe_fldE hN hv hd hcd rfl) fun σ H Q ⟨env, M, s, a, cl, d, y, v, e1, e2, e3, q⟩ => by
    obtain ⟨h1, h2, h3, h4, h5⟩ := s.excs i a cl d y e1
    obtain ⟨g0, dx, kvs, u, g1, g2, g3, g4⟩ := h5 f v e3
    exact ⟨a, cl, d, dx, kvs, u, h1, hpin a cl d e2, h3, g0, g1, g2, g3, postE.at s g4 q⟩
theorem isa_arg {y : Str} {b : String} {vb : Value} {v : V} {p : Pos} (hg : Gl X y) (hy : y = (b : Str)) (hd : (y == ("__debug__" : Str)) = false) (hm : X.mg (b : Str) = some vb ∨ (X.mg (b : Str) = none ∧ bootBuiltins (b : Str) = some vb ∧ (b : Str) ≠ "__name__")) (hv : clsV vb = some v) : PE X (.Name y p) (tC v) := by
  subst hy
  rcases hm with hm | ⟨hm, hb, hn⟩
  · exact pe_glob hg hm (clsV_rel hv).1 hd
  · exact pe_bltn hg hm hb (clsV_rel hv).1 hn hd
/-- what the second argument of isinstance is -/
structure IsaAt (X : Cx) (b : String) (y : Str) : Prop where
  gl : Gl X y
  nm : y = (b : Str)
  nd : (y == ("__debug__" : Str)) = false
theorem je_xisa1 {i : Nat} {x : Str} {b : String} {yes no : List String} {y f : Str} {p p2 p3 pos : Pos} (hg : Gl X f) (hf : f = ("isinstance" : Str)) (hm : X.mg ("isinstance" : Str) = none) (hN : X.N[i]? = some x) (hv : Vis X.env.scope x) (hd : (x == ("__debug__" : Str)) = false) (hcd : (x == ("__classdict__" : Str)) = false)
    (hpin : ∀ a cl d, F.pin a cl d → AtHand X a cl d) (ha : IsaAt X b y) {vb : Value} {v : V} (hmb : X.mg (b : Str) = some vb ∨ (X.mg (b : Str) = none ∧ bootBuiltins (b : Str) = some vb ∧ (b : Str) ≠ "__name__")) (hvb : clsV vb = some v)
    (hrel : ∀ n C, (yes ++ no).contains n = true → PySem.W.nsIn X.K mainGlobals (n : Str) = some (some (.ref C)) → PySem.W.kitOne X.K (.ref C) vb = some (yes.contains n)) :
    PE X (.Call (.Name f p) [.Name x p2, .Name y p3] [] pos) (liftE X.K RX W (wE F (.xisa i [b] false yes no))) := by
  subst hf
  have h2 : PE X (.Name y p3) (tC v) := isa_arg ha.gl ha.nm ha.nd hmb hvb
  refine PE.imp (pe_callB (call_isE1 (u := vb)) hg hm (by decide +kernel) (pa_cons (pe_var (i := i) hN hv hd hcd) (pa_cons h2 pa_nil rfl) rfl) (by decide +kernel) (by decide +kernel) rfl rfl) fun σ H Q ⟨env, M, s, a, cl, d, z, e1, e2, e3, q⟩ => ?_
  obtain ⟨h1, h2, h3, h4, h5⟩ := s.excs i a cl d z e1
  exact ⟨_, h1, a, cl, d, _, v, rfl, (clsV_rel hvb).2, hpin a cl d e2, h3, h4, hrel _ _ e3 h2, postE.at s (d := .bl (yes.contains z.cls)) rfl q⟩
def IsaAts (X : Cx) : List String → List Expr → Prop
  | [], [] => True
  | b :: bs, .Name y _ :: es => IsaAt X b y ∧ IsaAts X bs es
  | _, _ => False
def tVs (vs : List V) : TA := fun σ H Q => Q vs H
theorem isa_args : ∀ {cs : List String} {es : List Expr} {vs : List V} {us : List Value}, IsaAts X cs es → Asks X.K X.mg cs vs us → PA X es (tVs vs)
  | [], [], _, _, _, .nil => PA.imp pa_nil fun σ H Q q => q
  | [], _ :: _, _, _, h, _ => h.elim
  | b :: bs, [], _, _, h, _ => h.elim
  | b :: bs, e :: es, _, _, h, .cons hm hv r => by
    cases e with
    | Name y p =>
      exact PA.imp (pa_cons (isa_arg h.1.gl h.1.nm h.1.nd hm hv) (isa_args h.2 r) rfl) fun σ H Q q => q
    | _ => exact h.elim
theorem asks_is : ∀ {cs : List String} {vs : List V} {us : List Value}, Asks K mg cs vs us → Paired (fun v u => ∀ w, RelV v w → w = u) vs us
  | _, _, _, .nil => .nil
  | _, _, _, .cons _ hv r => .cons (clsV_rel hv).2 (asks_is r)
theorem asks_len : ∀ {cs : List String} {vs : List V} {us : List Value}, Asks K mg cs vs us → vs.length = cs.length ∧ us.length = cs.length
  | _, _, _, .nil => ⟨rfl, rfl⟩
  | _, _, _, .cons _ _ r => by simp [asks_len r]
theorem je_xisas {i : Nat} {x : Str} {cs : List String} {yes no : List String} {es : List Expr} {kk : Nat} {f : Str} {p p2 p3 pos : Pos} (hg : Gl X f) (hf : f = ("isinstance" : Str)) (hm : X.mg ("isinstance" : Str) = none) (hN : X.N[i]? = some x) (hv : Vis X.env.scope x) (hd : (x == ("__debug__" : Str)) = false) (hcd : (x == ("__classdict__" : Str)) = false)
    (hpin : ∀ a cl d, F.pin a cl d → AtHand X a cl d) (ha : IsaAts X cs es) {vs : List V} {us : List Value} (hk : Asks X.K X.mg cs vs us) (hl : cs.length ≤ 100)
    (hrel : ∀ n C, (yes ++ no).contains n = true → PySem.W.nsIn X.K mainGlobals (n : Str) = some (some (.ref C)) → PySem.W.kitAny X.K (.ref C) us = some (yes.contains n)) :
    PE X (.Call (.Name f p) [.Name x p2, .Tuple es kk p3] [] pos) (liftE X.K RX W (wE F (.xisa i cs true yes no))) := by
  subst hf
  have h2 : PE X (.Tuple es kk p3) (tTup (tVs vs)) := pe_tup (isa_args ha hk)
  refine PE.imp (pe_callB (call_isEs (ws := us)) hg hm (by decide +kernel) (pa_cons (pe_var (i := i) hN hv hd hcd) (pa_cons h2 pa_nil rfl) rfl) (by decide +kernel) (by decide +kernel) rfl rfl) fun σ H Q ⟨env, M, s, a, cl, d, z, e1, e2, e3, q⟩ => ?_
  obtain ⟨h1, h2, h3, h4, h5⟩ := s.excs i a cl d z e1
  refine ⟨_, h1, ⟨by rw [(asks_len hk).1]; exact Nat.le_trans hl (by decide), fun tp htp => ?_⟩⟩
  have al : Alc H (L2.upd H tp (.tup vs)) := Alc.new htp
  refine ⟨a, cl, d, _, tp, vs, rfl, L2.upd_same, asks_is hk, hpin a cl d e2, h3, h4.imp id fun ⟨dx, kvs, g1, g2⟩ => ⟨dx, kvs, g1, al _ _ g2⟩, hrel _ _ e3 h2, ?_⟩
  exact postE.alc s (d := .bl (yes.contains z.cls)) al rfl q
/-! ### raise -/
theorem lookup_mem {α : Type} {f : String} {v : α} : ∀ {fl : List String} {ds : List α}, (fl.zip ds).lookup f = some v → ∃ i : Nat, fl[i]? = some f ∧ ds[i]? = some v
  | [], _, h => by simp at h
  | _ :: _, [], h => by simp at h
  | g :: fl, d :: ds, h => by
    rw [List.zip_cons_cons, List.lookup_cons] at h
    by_cases e : (f == g) = true
    · rw [e] at h
      cases h
      exact ⟨0, by rw [beq_iff_eq.mp e]; rfl, rfl⟩
    · have e' : (f == g) = false := by simpa using e
      rw [e'] at h
      obtain ⟨i, h1, h2⟩ := lookup_mem h
      exact ⟨i + 1, by simpa using h1, by simpa using h2⟩
theorem js_raise (hF : FMono F) {c : XCls} {ies : IEs} {x : Str} {e : Expr} {es : List Expr} {p pos pos2 : Pos} (hc : X.calm = true) (tk : L2N.Takes X W) (hrx : RX = RXK X.K) (ck : ClsOk X.prog X.K X.mg c) (hr : X.A.depth + 1 < recursionLimit) (hg : Gl X x) (hx : x = (c.name : Str)) (hlen : (e :: es).length = c.fields.length)
    (ha : PA X (e :: es) (liftA X.K RX W (wEs F ies))) (hdb : (x == ("__debug__" : Str)) = false) (he : starEach (e :: es) X.env = (false, eval e X.env) :: starEach es X.env) (hpl : (backTo pos (starEach es X.env)).any (·.1) = false) :
    PS X (.Raise (some (.Call (.Name x p) (e :: es) [] pos)) none pos2) (liftS X.K RX W (wS F (.raise c.name c.fields ies))) := by
  subst hx
  obtain ⟨C, k1, k2, k3, k4, k5, k6⟩ := ck.ex
  have hfl : (fStr c.fields).length = c.fields.length := by simp [fStr]
  refine PS.imp (L2N.ps_raise hc tk (pmk_ownE (x := (c.name : Str)) k5 k4 k6 hr k2 ha hg (by rw [hfl]; exact hlen) hdb he hpl)) fun D σ H ⟨env, M, B, s, b, q⟩ => ?_
  refine ⟨env, M, s, wEs_mono hF ies (fun ds M1 q vs H1 x1 s1 r1 => ?_) (fun _ _ q => xc_post b q) q⟩
  obtain ⟨q1, q2⟩ := q
  refine ⟨by rw [hfl, ← q1, r1.length], fun d hd => ?_⟩
  have al : Alc H1 (L2.upd H1 d (.xd ((fStr c.fields).zip vs).reverse)) := Alc.new hd
  refine q2 (.ref C) (some d) σ _ (s1.alc al) ((b.step x1).step (Ext.alc al)) ?_
  rw [hrx]
  refine ⟨C, rfl, k1, k3, .inr ⟨d, _, rfl, L2.upd_same⟩, fun f v hf => ?_⟩
  obtain ⟨i, h1, h2⟩ := lookup_mem hf
  obtain ⟨u, h3, h4⟩ := r1.get h2
  have hfi : (fStr c.fields)[i]? = some (f : Str) := by simp [fStr, h1]
  refine ⟨k5.noN _ (List.mem_of_getElem? hfi), d, _, u, rfl, L2.upd_same, lookup_rev k6 (by rw [hfl, ← q1, r1.length]) ?_, h4.mono al.tm⟩
  exact List.mem_of_getElem? (i := i) (by rw [List.getElem?_zip_eq_some]; exact ⟨hfi, h3⟩)
/-! ### try -/
theorem StE.setExc {i : Nat} {a cl : Nat} {d : Option Nat} {x : Xn} (s : StE K σ H env M) (f : XF K H cl d x) : StE K (σ.set i (some (.ref a))) H (env.set i (.exc a cl d x)) M := by
  have cs : ∀ (j : Nat) z, (env.set i (.exc a cl d x))[j]? = some z → (j = i ∧ z = .exc a cl d x ∧ i < env.length) ∨ (j ≠ i ∧ env[j]? = some z) := fun j z e => by
    by_cases hj : j = i
    · subst hj
      by_cases hl : j < env.length
      · rw [List.getElem?_set_self hl] at e; cases e; exact .inl ⟨rfl, rfl, hl⟩
      · rw [List.getElem?_eq_none (by simpa using Nat.not_lt.mp hl)] at e; cases e
    · rw [List.getElem?_set_ne (Ne.symm hj)] at e; exact .inr ⟨hj, e⟩
  refine ⟨by simp [s.len], fun j d' e => ?_, fun j q o' e => ?_, fun j k q o o' e e' => ?_, s.mem, fun j a' cl' d' x' e => ?_⟩
  · rcases cs j _ e with ⟨_, z, _⟩ | ⟨hj, e⟩
    · cases z
    · obtain ⟨v, h1, h2⟩ := s.vals j d' e
      exact ⟨v, by rw [List.getElem?_set_ne (Ne.symm hj)]; exact h1, h2⟩
  · rcases cs j _ e with ⟨_, z, _⟩ | ⟨hj, e⟩
    · cases z
    · obtain ⟨h1, h2, h3⟩ := s.owns j q o' e
      exact ⟨by rw [List.getElem?_set_ne (Ne.symm hj)]; exact h1, h2, h3⟩
  · rcases cs j _ e with ⟨_, z, _⟩ | ⟨hj, e1⟩
    · cases z
    · rcases cs k _ e' with ⟨_, z, _⟩ | ⟨hk, e2⟩
      · cases z
      · exact s.inj j k q o o' e1 e2
  · rcases cs j _ e with ⟨rfl, z, hl⟩ | ⟨hj, e1⟩
    · cases z
      exact ⟨by rw [List.getElem?_set_self (s.len ▸ hl)], f⟩
    · obtain ⟨h1, h2⟩ := s.excs j a' cl' d' x' e1
      exact ⟨by rw [List.getElem?_set_ne (Ne.symm hj)]; exact h1, h2⟩
def FS.at (F : FS) (a cl : Nat) (d : Option Nat) : FS := { F with pin := fun a' cl' d' => a' = a ∧ cl' = cl ∧ d' = d }
/-- a clause's suite -/
def tsOf (K : PySem.W.Frag) (RX : RXT) (F : FS) (b : List IS) : Addr → Value → Option Addr → TS := fun a cls d D σ H => ∃ cl, cls = .ref cl ∧ liftS K RX W0 (wSs (F.at a cl d) b) D σ H
inductive HsOk (K : PySem.W.Frag) (RX : RXT) (F : FS) : IHs → List Hnd → Prop
  | nil : HsOk K RX F .nil []
  | cons {c : String} {yes no : List String} {i : Option Nat} {b : List IS} {hs : IHs} {l : List Hnd} {cv : Value} (hrel : ∀ (n : String) C, PySem.W.nsIn K mainGlobals (n : Str) = some (some (.ref C)) → (yes.contains n = true → PySem.W.exmOne K (.ref C) cv = some true) ∧ (no.contains n = true → PySem.W.exmOne K (.ref C) cv = some false))
      (r : HsOk K RX F hs l) : HsOk K RX F (.cons c yes no i b hs) ((cv, i, tsOf K RX F b) :: l)
theorem bo_exSet {e : Env} {i : Option Nat} {a cl : Nat} {d : Option Nat} {x : Xn} (b : BO B H e M) : BO B H (exSet e i a cl d x) M := b.envs fun j q o' h => by
  cases i with
  | none => exact ⟨j, o', h⟩
  | some i =>
    refine ⟨j, o', ?_⟩
    have h : (e.set i (.exc a cl d x))[j]? = some (.own q o') := h
    by_cases hj : j = i
    · subst hj
      by_cases hl : j < e.length
      · rw [List.getElem?_set_self hl] at h; cases h
      · rw [List.getElem?_eq_none (by simpa using Nat.not_lt.mp hl)] at h; cases h
    · rw [List.getElem?_set_ne (Ne.symm hj)] at h; exact h
theorem bo_exClr {e : Env} {i : Option Nat} (b : BO B H e M) : BO B H (exClr e i) M := b.envs fun j q o' h => by
  cases i with
  | none => exact ⟨j, o', h⟩
  | some i => exact ⟨j, o', (own_setNo h).1⟩
theorem st_exClr {e : Env} {i : Option Nat} (s : StE K σ H e M) : StE K (clrIo σ i) H (exClr e i) M := by
  cases i with
  | none => exact s
  | some i => exact s.setNo
theorem hs_go (hF : FMono F) (hrx : RX = RXK K) : ∀ {hs : IHs} {l : List Hnd}, HsOk K RX F hs l → ∀ {x : Xn} {e : Env} {m : Mem}, wHs F hs x e m (ktOf K RX W B D) → ∀ c dd σ' H', StE K σ' H' e m → BO B H' e m → RX H' c dd x → wGen K W D l c dd σ' H'
  | _, _, .nil, x, e, m, w, c, dd, σ', H', s, b, r => by
    unfold wHs at w
    exact w c dd σ' H' s b r
  | _, _, .cons (yes := yes) (no := no) (i := i) (b := sb) hrel rest, x, e, m, w, c, dd, σ', H', s, b, r => by
    have r0 := r
    rw [hrx] at r0
    obtain ⟨cl, rfl, xf⟩ := r0
    unfold wHs at w
    by_cases hy : yes.contains x.cls = true
    · rw [if_pos hy] at w
      refine ⟨true, (hrel _ _ xf.1).1 hy, fun _ a ha => ⟨cl, rfl, exSet e i a cl dd x, m, B, ?_, bo_exSet b, ?_⟩, fun z => by cases z⟩
      · cases i with
        | none => exact s
        | some i => exact s.setExc xf
      · refine wSs_mono (F := F.at a cl dd) ⟨hF.mono⟩ sb ?_ (w a cl dd)
        exact ⟨fun e1 M1 q σ2 H2 s2 b2 => q _ H2 (st_exClr s2) (bo_exClr b2), fun d M1 q => q, fun e1 M1 q σ2 H2 s2 b2 => q _ H2 (st_exClr s2) (bo_exClr b2), fun e1 M1 q σ2 H2 s2 b2 => q _ H2 (st_exClr s2) (bo_exClr b2), fun _ _ _ z => z.elim⟩
    · rw [if_neg hy] at w
      exact ⟨false, (hrel _ _ xf.1).2 w.1, (fun z => by cases z), fun _ => hs_go hF hrx rest w.2 _ dd σ' H' s b r⟩
theorem js_try (hF : FMono F) (hrx : RX = RXK X.K) {ib : List IS} {hs : IHs} {body : List Stmt} {h₀ : ExceptHandler} {hds : List ExceptHandler} {l : List Hnd} {pos : Pos} (hst : X.stack = X.env :: X.outer) (hfr : X.env.frame = some X.env.locals) (hNd : X.N.Nodup) (tk : L2N.Takes X W)
    (hb : ∀ (W' : WX) (pn : List (Addr × Obj)) (xe : Value → Shared → Prop), L2N.Takes (X.tr pn xe) W' → PassesOwn (model X.prog X.w) X.A X.env xe → PSs (X.tr pn xe) body (liftS X.K RX W' (wSs F ib)))
    (hh : HdsG X (h₀ :: hds) l) (ho : HsOk X.K RX F hs l) : PS X (.Try body (h₀ :: hds) [] [] pos) (liftS X.K RX W (wS F (.try_ ib hs))) := by
  refine PS.imp (ps_try_gen (tb := fun W' => liftS X.K RX W' (wSs F ib)) hst hfr hNd tk hb hh) fun D σ H ⟨env, M, B, s, b, q⟩ => ?_
  refine ⟨env, M, B, s, b, ?_⟩
  unfold wS at q
  refine wSs_mono hF ib ?_ q
  exact ⟨fun _ _ z => z, fun _ _ z => z, fun _ _ z => z, fun _ _ z => z, fun x e m w => hs_go hF hrx ho w⟩
end
end DL
/-! Objects of classes of the text. -/
namespace DL
open PySem PySem.Spec PyProof.Rows L2 DLX DLM
/-- a class of the text, its fields -/
structure ICls where
  name : String
  fields : List String
/-- what the written part says of such a class -/
structure InsOk (K : PySem.W.Frag) (mg : Str → Option Value) (c : ICls) : Prop where
  ex : ∃ Ca, PySem.W.nsIn K mainGlobals (c.name : Str) = some (some (.ref Ca)) ∧ mg (c.name : Str) = some (.ref Ca) ∧ Cls K Ca ∧ PySem.W.makesIn K Ca = true ∧ PySem.W.keepIn K (.ref Ca) = true ∧ ∀ f ∈ c.fields, NoAttr K Ca (f : Str)
/-- a method at hand -/
def CalleeM (X : Cx) (RX : RXT) (k : Nat) (c m : String) (t : List D → Mem → QE → QX → Prop) : Prop :=
  ∃ f fd ps Ca, PySem.W.nsIn X.K mainGlobals (c : Str) = some (some (.ref Ca)) ∧ Meth X.K Ca (m : Str) f ∧ Binds X.K fd ps [] ∧ FnOk X.prog X.w X.K X.mg X.base (L2N.CX X.prog X.w) k f fd ps (spL X.K RX t)
theorem ofStr_inj {a b : String} (h : (a : Str) = (b : Str)) : a = b := by
  rw [Str.ofString_eq_toList, Str.ofString_eq_toList] at h
  have h2 : a.toList.map Char.toNat = b.toList.map Char.toNat := by simpa using congrArg (fun s : Str => s.cps.toList) h
  have go : ∀ {xs ys : List Char}, xs.map Char.toNat = ys.map Char.toNat → xs = ys := fun {xs} => by
    induction xs with
    | nil => intro ys e; cases ys with
      | nil => rfl
      | cons _ _ => simp at e
    | cons x xs ih => intro ys e; cases ys with
      | nil => simp at e
      | cons y ys =>
        rw [List.map_cons, List.map_cons, List.cons.injEq] at e
        rw [ih e.2, ← Char.ofNat_toNat x, ← Char.ofNat_toNat y, e.1]
  have h3 : a.toList = b.toList := go h2
  exact String.toList_inj.mp h3
section
variable {X : Cx} {RX : RXT} {W : WX} {F : FS}
variable {K : PySem.W.Frag} {σ : L2.St} {H H1 H2 : Hp} {env : Env} {M M1 M2 : Mem} {Q : VK}
abbrev FR (K : PySem.W.Frag) (H : Hp) : String × D → Str × V → Prop := fun p q => (p.1 : Str) = q.1 ∧ Rep K H p.2 q.2
theorem fr_lookup {f : String} : ∀ {fs : List (String × D)} {kvs : List (Str × V)}, Paired (FR K H) fs kvs → (fs.lookup f = none ∧ kvs.lookup (f : Str) = none) ∨ ∃ d v, fs.lookup f = some d ∧ kvs.lookup (f : Str) = some v ∧ Rep K H d v
  | [], [], _ => .inl ⟨rfl, rfl⟩
  | (g, d) :: fs, (h, v) :: kvs, .cons r rs => by
    obtain ⟨e, r⟩ := r
    rw [List.lookup_cons, List.lookup_cons]
    by_cases hf : f = g
    · subst hf
      have e2 : ((f : Str) == h) = true := by rw [beq_iff_eq]; exact e
      rw [e2, show (f == f) = true by simp]
      exact .inr ⟨d, v, rfl, rfl, r⟩
    · have e2 : ((f : Str) == h) = false := by
        rw [beq_eq_false_iff_ne]
        intro z
        exact hf (ofStr_inj (z.trans e.symm))
      rw [e2, show (f == g) = false by simpa using hf]
      exact fr_lookup rs
theorem fr_put {f : String} {d : D} {v : V} (hd : Rep K H d v) : ∀ {fs : List (String × D)} {kvs : List (Str × V)}, Paired (FR K H) fs kvs → Paired (FR K H) (fput f d fs) (putF (f : Str) v kvs)
  | [], [], _ => .cons ⟨rfl, hd⟩ .nil
  | (g, d') :: fs, (h, v') :: kvs, .cons r rs => by
    obtain ⟨e, r⟩ := r
    unfold fput putF
    by_cases hf : g = f
    · subst hf
      rw [if_pos rfl, if_pos e.symm]
      exact .cons ⟨e, hd⟩ rs
    · rw [if_neg hf, if_neg (fun z => hf (ofStr_inj (e.trans z)))]
      exact .cons ⟨e, r⟩ (fr_put hd rs)
theorem fr_len : ∀ {fs : List (String × D)} {kvs : List (Str × V)}, Paired (FR K H) fs kvs → fs.length = kvs.length
  | [], [], _ => rfl
  | _ :: _, _ :: _, .cons _ rs => by simp [fr_len rs]
theorem je_fld (hF : FMono F) {c : ICls} {f : String} {o : Expr} {io : IE} {pos : Pos} (ck : InsOk X.K X.mg c) (hf : f ∈ c.fields) (ho : PE X o (liftE X.K RX W (wE F io))) (hb : attributeBase o (f : Str) X.env (eval o X.env) = eval o X.env) :
    PE X (.Attribute o (f : Str) pos) (liftE X.K RX W (wE F (.fld c.name f io))) :=
  PE.imp (pe_fld ho hb) fun σ H Q ⟨env, M, s, h⟩ => ⟨env, M, s, wE_mono hF io (fun x M1 q v H1 x1 s1 r1 => by
    obtain ⟨a, fs, d, rfl, e, l, q⟩ := q
    cases r1
    obtain ⟨Ca, h1, h2, h3, h4, h5, h6⟩ := ck.ex
    obtain ⟨Ca', dx, kvs, g1, g2, g3⟩ := s1.mem a _ e
    rw [h1] at g1; cases g1
    rcases fr_lookup g3 (f := f) with ⟨z, _⟩ | ⟨d', v, z1, z2, z3⟩
    · rw [z] at l; cases l
    · rw [z1] at l; cases l
      exact ⟨a, Ca, dx, kvs, v, rfl, g2, h3, h6 f hf, z2, (q.go x1).at s1 z3⟩) (fun _ _ q => q) h⟩
theorem js_fset (hF : FMono F) {c : ICls} {f : String} {o e : Expr} {io ie : IE} {ap pos : Pos} (ck : InsOk X.K X.mg c) (hf : f ∈ c.fields) (ho : PE X o (liftE X.K RX W (wE F io))) (he : PE X e (liftE X.K RX W (wE F ie)))
    (hs : swapsWith e (some (.Attribute o (f : Str) ap)) pos.line X.env = pure false) : PS X (.Assign [.Attribute o (f : Str) ap] e pos) (liftS X.K RX W (wS F (.fset c.name f io ie))) :=
  PS.imp (ps_fld ho he hs) fun D σ H ⟨env, M, B, s, b, q⟩ => by
    refine exp_go hF s b q fun d M1 v H1 x1 s1 b1 r q => ?_
    refine exp_go hF s1 b1 q fun x M2 u H2 x2 s2 b2 r2 q => ?_
    obtain ⟨a, fs, rfl, e, hl, q⟩ := q
    cases r2
    obtain ⟨Ca, h1, h2, h3, h4, h5, h6⟩ := ck.ex
    obtain ⟨Ca', dx, kvs, g1, g2, g3⟩ := s2.mem a _ e
    rw [h1] at g1; cases g1
    refine ⟨a, Ca, dx, kvs, rfl, g2, h3, h6 f hf, by rw [← fr_len g3]; exact hl, ?_⟩
    have t : Tm X.K H2 (L2.upd H2 a (.ins Ca dx (putF (f : Str) v kvs))) := s2.tmO e
    exact q σ _ (s2.writeO e ⟨Ca, dx, _, h1, L2.upd_same, L2.Paired.mapP (fr_put (r.mono (x2.tm s1)) g3) fun p q z => ⟨z.1, z.2.mono t⟩⟩) (bo_memO b2 e)
theorem make_go (hF : FMono F) {c : String} {f : Nat} {Ca : Addr} {as : IAs} {σ : L2.St} {H : Hp} {Q : VK} (hC : PySem.W.nsIn K mainGlobals (c : Str) = some (some (.ref Ca))) (h : liftE K RX W (wE F (.make c f as)) σ H Q) :
    liftAs K RX W (wAs F as) σ H fun vs H1 => ∀ x dx, H1 x = none → H1 dx = none → dx ≠ x → spL K RX (F f) (.ref x :: vs) (L2.upd (L2.upd H1 dx (.own x)) x (.ins Ca dx [])) (fun v H2 => v = .non ∧ Q (.ref x) H2) (WE W σ) := by
  obtain ⟨env, M, s, h⟩ := h
  refine ⟨env, M, s, wAs_mono hF as (fun ds ls M1 q vs H1 af r x dx hx hdx ne => ?_) (fun _ _ q => q) h⟩
  have hM : M1 x = none := af.mem.fresh hx
  have al1 : Alc H1 (L2.upd H1 dx (.own x)) := Alc.new hdx
  have hx' : L2.upd H1 dx (.own x) x = none := by rw [L2.upd_ne (fun z => ne z.symm)]; exact hx
  have al : Alc H1 (L2.upd (L2.upd H1 dx (.own x)) x (.ins Ca dx [])) := al1.trans (Alc.new hx')
  have hm : MemOk K (L2.upd (L2.upd H1 dx (.own x)) x (.ins Ca dx [])) (upd M1 x (.ins c [])) := fun a u e => by
    by_cases ha : a = x
    · subst ha; rw [upd_self] at e; cases e; exact ⟨Ca, dx, [], hC, L2.upd_same, .nil⟩
    · rw [upd_other ha] at e; exact (af.mem a u e).step (fun u q => al _ _ q) al.tm
  have ext : ∀ {H2 : Hp} {M2 : Mem}, Ext [] (L2.upd (L2.upd H1 dx (.own x)) x (.ins Ca dx [])) (upd M1 x (.ins c [])) H2 M2 → Ext [] H1 M1 H2 M2 := fun x2 a u e n k => by
    have ha : a ≠ x := fun z => by subst z; rw [hx] at e; cases e
    exact x2 a u (al _ _ e) (by rw [upd_other ha]; exact n) k
  refine ⟨.ref x :: ds, _, ⟨_, _, rfl, rfl, r.mono al.tm⟩, hm, hF.mono (fun d M2 q v H2 x2 m2 rv => ?_) (fun y M2 q cl dd H2 x2 m2 rx => ?_) (q x hM)⟩
  · obtain ⟨y1, y2⟩ := af.aft H2 M2 (ext x2) m2 q.2.1
    obtain ⟨rfl, _, q⟩ := q
    exact ⟨rv, q (.ref x) H2 y1 y2 rfl⟩
  · obtain ⟨y1, y2⟩ := af.aft H2 M2 (ext x2) m2 q.1
    exact q.2 cl dd H2 y1 y2 rx
theorem je_make (hF : FMono F) {c : ICls} {f : Nat} {as : IAs} {e : Expr} {es : List Expr} {k : Nat} {p pos : Pos} (tk : L2N.Takes X W) (hr : Room (k + 1) X.A) (hg : Gl X (c.name : Str)) (ck : InsOk X.K X.mg c) (cl : CalleeM X RX k c.name "__init__" (F f)) (ha : PA X (e :: es) (liftAs X.K RX W (wAs F as)))
    (hdb : ((c.name : Str) == ("__debug__" : Str)) = false) (he : starEach (e :: es) X.env = (false, eval e X.env) :: starEach es X.env) (hpl : (backTo pos (starEach es X.env)).any (·.1) = false) :
    PE X (.Call (.Name (c.name : Str) p) (e :: es) [] pos) (liftE X.K RX W (wE F (.make c.name f as))) := by
  obtain ⟨a, fd, ps, Ca, hC, hm, hb, fo⟩ := cl
  obtain ⟨Ca', h1, h2, h3, h4, h5, h6⟩ := ck.ex
  rw [hC] at h1; cases h1
  exact PE.imp (pe_makeE ⟨h4, hm.at_, hm.fn, h5⟩ fo hr hg h2 hb (fun σ => L2N.passAt tk σ) ha hdb he hpl) fun σ H Q h => make_go hF hC h
theorem je_make0 (hF : FMono F) {c : ICls} {f : Nat} {k : Nat} {p pos : Pos} (tk : L2N.Takes X W) (hr : Room (k + 1) X.A) (hg : Gl X (c.name : Str)) (ck : InsOk X.K X.mg c) (cl : CalleeM X RX k c.name "__init__" (F f)) (hdb : ((c.name : Str) == ("__debug__" : Str)) = false) :
    PE X (.Call (.Name (c.name : Str) p) [] [] pos) (liftE X.K RX W (wE F (.make c.name f .nil))) := by
  obtain ⟨a, fd, ps, Ca, hC, hm, hb, fo⟩ := cl
  obtain ⟨Ca', h1, h2, h3, h4, h5, h6⟩ := ck.ex
  rw [hC] at h1; cases h1
  exact PE.imp (pe_makeE0 ⟨h4, hm.at_, hm.fn, h5⟩ fo hr hg h2 hb (fun σ => L2N.passAt tk σ) hdb) fun σ H Q h => by
    obtain ⟨env, M, s, h⟩ := make_go hF hC h
    exact h [] H (Aft.nil s) rfl
theorem mcall_go (hF : FMono F) {c m : String} {f : Nat} {Ca : Addr} {io : IE} {as : IAs} {σ : L2.St} {H : Hp} {Q : VK} (hC : PySem.W.nsIn K mainGlobals (c : Str) = some (some (.ref Ca))) (h : liftE K RX W (wE F (.mcall c m f io as)) σ H Q) :
    liftE K RX W (wE F io) σ H fun x H1 => ∃ a dx fs, x = .ref a ∧ H1 a = some (.ins Ca dx fs) ∧ fs.lookup (m : Str) = none ∧ liftAs K RX W (wAs F as) σ H1 fun vs H2 => spL K RX (F f) (x :: vs) H2 Q (WE W σ) := by
  obtain ⟨env, M, s, h⟩ := h
  refine ⟨env, M, s, wE_mono hF io (fun x M1 q v H1 x1 s1 r1 => ?_) (fun _ _ q => q) h⟩
  obtain ⟨a, fs, rfl, e, hl, q⟩ := q
  cases r1
  obtain ⟨Ca', dx, kvs, g1, g2, g3⟩ := s1.mem a _ e
  rw [hC] at g1; cases g1
  refine ⟨a, dx, kvs, rfl, g2, ?_, env, M1, s1, wAs_mono hF as (fun ds ls M2 q vs H2 af r => ⟨.ref a :: ds, M2, ⟨_, _, rfl, rfl, r⟩, af.mem, hF.mono (fun d M3 q v H3 x3 m3 rv => ?_) (fun y M3 q cl dd H3 x3 m3 rx => ?_) q⟩) (fun _ _ q => q.go x1) q⟩
  · rcases fr_lookup g3 (f := m) with ⟨_, z⟩ | ⟨d', v, z1, z2, z3⟩
    · exact z
    · rw [z1] at hl; cases hl
  · obtain ⟨y1, y2⟩ := af.aft H3 M3 x3 m3 q.1
    exact q.2 v H3 (x1.trans y1) y2 rv
  · obtain ⟨y1, y2⟩ := af.aft H3 M3 x3 m3 q.1
    exact q.2 cl dd H3 (x1.trans y1) y2 rx
theorem je_mcall (hF : FMono F) {c : ICls} {m : String} {f : Nat} {o : Expr} {io : IE} {as : IAs} {e : Expr} {es : List Expr} {k : Nat} {ap pos : Pos} (tk : L2N.Takes X W) (hr : Room k X.A) (ck : InsOk X.K X.mg c) (cl : CalleeM X RX k c.name m (F f)) (ho : PE X o (liftE X.K RX W (wE F io)))
    (ha : PA X (e :: es) (liftAs X.K RX W (wAs F as))) (mt : MtOk X o (m : Str) (e :: es) ap pos) (he : starEach (e :: es) X.env = (false, eval e X.env) :: starEach es X.env) (hpl : (backTo pos (starEach es X.env)).any (·.1) = false) :
    PE X (.Call (.Attribute o (m : Str) ap) (e :: es) [] pos) (liftE X.K RX W (wE F (.mcall c.name m f io as))) := by
  obtain ⟨a, fd, ps, Ca, hC, hm, hb, fo⟩ := cl
  obtain ⟨Ca', h1, h2, h3, h4, h5, h6⟩ := ck.ex
  rw [hC] at h1; cases h1
  exact PE.imp (pe_methE ho h3 hm fo hr hb (fun σ => L2N.passAt tk σ) ha mt he hpl) fun σ H Q h => mcall_go hF hC h
theorem je_mcall0 (hF : FMono F) {c : ICls} {m : String} {f : Nat} {o : Expr} {io : IE} {k : Nat} {ap pos : Pos} (tk : L2N.Takes X W) (hr : Room k X.A) (ck : InsOk X.K X.mg c) (cl : CalleeM X RX k c.name m (F f)) (ho : PE X o (liftE X.K RX W (wE F io)))
    (mt : MtOk X o (m : Str) [] ap pos) : PE X (.Call (.Attribute o (m : Str) ap) [] [] pos) (liftE X.K RX W (wE F (.mcall c.name m f io .nil))) := by
  obtain ⟨a, fd, ps, Ca, hC, hm, hb, fo⟩ := cl
  obtain ⟨Ca', h1, h2, h3, h4, h5, h6⟩ := ck.ex
  rw [hC] at h1; cases h1
  exact PE.imp (pe_methE0 ho h3 hm fo hr hb (fun σ => L2N.passAt tk σ) mt) fun σ H Q h => by
    obtain ⟨env, M, s, h⟩ := mcall_go hF hC h
    refine ⟨env, M, s, wE_mono hF io (fun x M1 q v H1 x1 s1 r1 => ?_) (fun _ _ q => q) h⟩
    obtain ⟨a, dx, fs, e1, e2, e3, env', M', s', q⟩ := q v H1 x1 s1 r1
    exact ⟨a, dx, fs, e1, e2, e3, q [] H1 (Aft.nil s') rfl⟩
/-- o.m(..) on one line -/
theorem mt_plain {o : Expr} {m : Str} {es : List Expr} {ap pos : Pos} (hb : attributeBase o m X.env (eval o X.env) = eval o X.env) (hst : (backTo pos (starEach es X.env)).any (·.1) = false) (hn : es.length < 30) (hl : (ap.endLine == pos.line) = true) : MtOk X o m es ap pos := by
  refine ⟨(do return (← importBound o X.env).getD true), ?_⟩
  have hform : methodCallForm (es.length + 0) (backTo pos (starEach es X.env)) (backToKw pos (keywordEach [] X.env)) = true := by
    show ((backTo pos (starEach es X.env)).all (fun x => !x.1) && true && decide (es.length + 0 + 0 < 30)) = true
    rw [Bool.and_true, Bool.and_eq_true]
    refine ⟨?_, by simpa using hn⟩
    rw [List.all_eq_true]
    intro x hx
    have := List.any_eq_false.mp hst x hx
    simpa using this
  show (do let ov ← attributeBase o m X.env (eval o X.env); standAt ap.atName; methodCall o m ap pos X.env ov (es.length + 0) (backTo pos (starEach es X.env)) (backToKw pos (keywordEach [] X.env))) = _
  rw [hb]
  unfold methodCall calleeOf methodCallPos
  rw [hform, hl]
  rfl
end
end DL
/-! A dict display of one pair; ~x. -/
namespace DL
open PySem PySem.Spec PyProof.Rows L2
section
variable {prog : Program} {w : World} {A : Around} {E : Value → Shared → Prop} {s : Shared}
theorem sub1 {a b : Expr} {env : PySem.Env} {pos : Pos} {Q : Value → Shared → Prop}
    (h : wpAny (model prog w) A (eval a env) (fun kv s1 => wpAny (model prog w) A (eval b env) (fun vv s2 => wpAny (model prog w) A (dictSet s.heap.objs.size kv vv) (fun _ s3 => Q (.ref s.heap.objs.size) s3) E s2) E s1) E { s with heap := s.heap.push { cls := .type "dict", data := .dict #[] } }) :
    wpAny (model prog w) A (eval (.Dict [some a] [b] pos) env) Q E s := by
  rw [arm_eval_Dict, zip_pairTrees [some a] [b] env pos rfl rfl, dictDisplay_pairs _ (by simp [pairTrees]) (by simp [pairTrees])]
  refine wpAny_bind (wpAny_standAt (wpAny_bind ?_))
  unfold subDict
  refine wpAny_bind (wpAny_alloc ?_)
  refine wpAny_bind (wpAny_holding ?_)
  rw [if_pos (by simp [pairTrees])]
  refine wpAny_bind (pairTrees_cons_walk (wpAny_mono h (fun kv s1 h1 => wpAny_mono h1 (fun vv s2 h2 => pairTrees_nil_walk ?_) fun _ _ e => e) fun _ _ e => e))
  refine wpAny_holding ?_
  rw [List.forIn_cons]
  refine wpAny_bind (wpAny_bind (wpAny_bind (wpAny_mono h2 (fun _ s3 h3 => wpAny_pure ?_) fun _ _ e => e)))
  try dsimp only
  rw [List.forIn_nil]
  exact wpAny_pure (wpAny_pure (wpAny_pure (wpAny_pure h3)))
end
section
variable {X : Cx} {pins : List (Addr × Obj)} {σ : L2.St} {H : Hp} {s : Shared} {a : Addr} {k d : D} {y : V} {u : Value} {E : Value → Shared → Prop}
theorem n_set0 {b : Addr} {xs : List DLK.XE} {k : NestedKey} {r : Value} {Q : Unit → Shared → Prop} (hu : X.A.units + 10 < cLine) (I : Inv X pins σ H s) (mu : Mut (H a)) (d : DLK.DkN X s a xs k b) (l : xs.length < sizeLine)
    (h : ∀ s', Inv X pins σ (L2.upd H a (DLK.ND a (storedH xs k b r))) s' → Q () s') : wpAny (model X.prog X.w) X.A (dictSet a (.ref b) r) Q E s := by
  refine wpAny_dictSet_heap (knd := nestedKind X.prog X.w) (hsz := d.z) (show X.A.units + 8 < cLine by omega) d.key d.dd fun h' dd' hs => h _ ?_
  have he : ∃ q, h'.get? a = some q := let ⟨q, _, _, hq, _⟩ := dd'; ⟨q, hq⟩
  refine d_write I mu hs he (DLK.nd_mk ?_ d.sm (DLK.stored_n0 d.n0 d.k0) dd')
  have := DLK.stored_len (xs := xs) (k := k) (b := b) (r := r)
  omega
theorem dd_set0 {es : List (D × D)} {v : V} {r' : Value} {Q : Unit → Shared → Prop} (hu : X.A.units + 100 < cLine) (I : Inv X pins σ H s) (ok : OOk X.K H a (.dct es)) (hk : DkOk es k) (r : Rep X.K H k y) (ry : RelV y u) (rd : Rep X.K H d v) (rv : RelV v r') (hl : es.length < sizeLine)
    (h : ∀ ho s', Inv X pins σ (L2.upd H a ho) s' → OOk X.K (L2.upd H a ho) a (.dct (dput es k d)) → Q () s') : wpAny (model X.prog X.w) X.A (dictSet a u r') Q E s := by
  have t : ∀ {ho}, Tm X.K H (L2.upd H a ho) := fun {ho} => upd_tm ok.notTup.1 ok.notTup.2.1
  rcases dk_split I ok hk r with ⟨kvs, k', e1, pr, hk', rfl⟩ | ⟨xs, b, rfl, h8, pr, dn, mu⟩
  · have hkl : kvs.length < sizeLine := by rw [← Paired.length pr]; exact hl
    refine d_dictSet I e1 hkl ry rv fun s' I' => h _ s' I' (.inl ⟨_, L2.upd_same, ?_⟩)
    exact L2.Paired.mapP (dput_k hk' rd pr) fun p q z => ⟨z.1, z.2.mono t⟩
  · cases ry
    have hkl : xs.length < sizeLine := by rw [← Paired.length pr]; exact hl
    refine n_set0 (by omega) I mu dn hkl fun s' I' => h _ s' I' (.inr ⟨dput_ne, _, L2.upd_same, ?_⟩)
    exact L2.Paired.mapP (dput_n h8 r rv rd pr) fun p q ⟨z1, z2, z3, v, z4, z5⟩ => ⟨z1, z2, z3.mono t, v, z4, z5.mono t⟩
end
section
variable {X : Cx} {RX : RXT} {W : WX} {F : FS}
variable {K : PySem.W.Frag} {σ : L2.St} {H H1 H2 : Hp} {env : Env} {M M1 M2 : Mem} {Q : VK}
theorem je_inv (hF : FMono F) {a : Expr} {ia : IE} {pos : Pos} (ha : PE X a (liftE X.K RX W (wE F ia))) : PE X (.UnaryOp .Invert a pos) (liftE X.K RX W (wE F (.inv ia))) :=
  PE.imp (pe_un un_inv ha) fun σ H Q ⟨env, M, s, h⟩ => ⟨env, M, s, wE_mono hF ia (fun dx M1 q x H1 x1 s1 r1 => by
    obtain ⟨i, rfl, q⟩ := q
    cases r1
    exact ⟨i, rfl, (q.go x1).at s1 (d := .int (-i - 1)) rfl⟩) (fun _ _ q => q) h⟩
theorem je_ddisp (hF : FMono F) (hu : X.A.units + 100 < cLine) {a b : Expr} {ia ib : IE} {pos : Pos} (ha : PE X a (liftE X.K RX W (wE F ia))) (hb : PE X b (liftE X.K RX W (wE F ib))) :
    PE X (.Dict [some a] [b] pos) (liftE X.K RX W (wE F (.ddisp ia ib))) := by
  refine ⟨fun pins s σ H Q I ⟨env, M, st, h⟩ => sub1 ?_⟩
  have hn := I.hok.fresh (Nat.le_refl s.heap.objs.size)
  have I1 := I.laid (a := s.heap.objs.size) (o := .dK []) (h' := s.heap.push { cls := .type "dict", data := .dict #[] }) (t' := s.toks) (fun _ _ q => Heap.get?_push_of_some _ q) (Nat.le_refl _) (dk_empty s.heap I.big)
  generalize s.heap.objs.size = p at hn I1 ⊢
  have hM : M p = none := st.fresh hn
  have st1 : StE X.K σ (L2.upd H p (.dK [])) env (upd M p (.dct [])) := (st.alc (Alc.new hn)).putO (.inl ⟨[], L2.upd_same, .nil⟩) hM (not_own st hn)
  have x0 : Ext env H M (L2.upd H p (.dK [])) (upd M p (.dct [])) := fun c o e n no => by
    have hc : c ≠ p := fun z => by subst z; rw [hn] at e; cases e
    exact ⟨(Alc.new hn) _ _ e, by rw [upd_other hc]; exact n⟩
  refine thn (ha.run pins _ σ _ (fun x H1 => ∃ dx M1, Ext env H M H1 M1 ∧ StE X.K σ H1 env M1 ∧ Rep X.K H1 dx x ∧ wE F ib env M1 (fun y M2 => M2 p = some (.dct []) ∧ DkOk [] dx ∧ postE X.K σ H env M Q (.ref p) (upd M2 p (.dct [(dx, y)]))) (postX X.K RX W σ H env M)) I1
    ⟨env, upd M p (.dct []), st1, wE_mono hF ia (fun dx M1 q x H1 x1 s1 r1 => ⟨dx, M1, x0.trans x1, s1, r1, q⟩) (fun _ _ q => q.go x0) (h p hM)⟩) fun u s1 ⟨x, H1, I1', rx, dx, M1, x1, st1', r1, q1⟩ => ?_
  refine thn (hb.run pins s1 σ H1 (fun y H2 => ∃ dy M2, Ext env H M H2 M2 ∧ StE X.K σ H2 env M2 ∧ Rep X.K H2 dx x ∧ Rep X.K H2 dy y ∧ M2 p = some (.dct []) ∧ DkOk [] dx ∧ postE X.K σ H env M Q (.ref p) (upd M2 p (.dct [(dx, dy)]))) I1'
    ⟨env, M1, st1', wE_mono hF ib (fun dy M2 q y H2 x2 s2 r2 => ⟨dy, M2, x1.trans x2, s2, r1.mono (x2.tm st1'), r2, q⟩) (fun _ _ q => q.go x1) q1⟩) fun v s2 ⟨y, H2, I2, ry, dy, M2, x2, st2, r1', r2, e2, hk, q⟩ => ?_
  refine dd_set0 hu I2 (st2.mem p _ e2) hk r1' rx r2 ry (by decide) fun ho s' I' ok' => ⟨.ref p, _, I', rfl, ?_⟩
  refine q (.ref p) _ (fun c o e n no => ?_) (st2.writeO e2 ok') rfl
  have hc : c ≠ p := fun z => by subst z; rw [hn] at e; cases e
  obtain ⟨g1, g2⟩ := x2 c o e n no
  exact ⟨by rw [L2.upd_ne hc]; exact g1, by rw [upd_other hc]; exact g2⟩
theorem pys_get : ∀ {ds : List D} {j : Nat}, (D.pys ds)[j]? = ds[j]?.map D.py
  | [], j => by simp [D.pys]
  | d :: ds, 0 => by simp [D.pys]
  | d :: ds, j + 1 => by simp [D.pys, pys_get (ds := ds)]
theorem flats_at : ∀ {n : Nat} {ds : List D} {j : Nat} {z : D}, D.flats n ds = true → ds[j]? = some z → D.flat n z = true
  | n, [], j, z, _, h => by simp at h
  | n, d :: ds, 0, z, f, h => by
    have f' : D.flat n d = true ∧ D.flats n ds = true := by simpa [D.flats] using f
    have h' : d = z := by simpa using h
    rw [← h']; exact f'.1
  | n, d :: ds, j + 1, z, f, h => by
    have f' : D.flat n d = true ∧ D.flats n ds = true := by simpa [D.flats] using f
    exact flats_at (j := j) f'.2 (by simpa using h)
theorem idxof_go {d : D} {y : V} {p : Addr} {vs : List V} {xs : List D} {Q' : VK} (r : Rep K H d y) (hl : SqL K H p vs) (rs : Reps K H xs vs) (h : wIdxOf xs d fun j => Q' (.int ((j : Nat) : Int)) H) : rIndexD K (.ref p) [y] H Q' := by
  obtain ⟨f, g, j, ⟨z, hz, he⟩, hno, q⟩ := h
  refine ⟨p, y, d.py, D.pys xs, j, z.py, rfl, rfl, .lst hl (dps_of g rs), dp_of f r, shapedL g, shaped_of f, by rw [pys_get, hz]; rfl, by rw [eqv_py (flats_at g hz) f]; exact he, fun m z' hm hz' => ?_, q⟩
  rw [pys_get] at hz'
  obtain ⟨z2, h2, rfl⟩ := Option.map_eq_some_iff.mp hz'
  rw [eqv_py (flats_at g h2) f]
  exact hno m z2 hm h2
theorem je_indexO (hF : FMono F) (hu : X.A.units + 100 < cLine) {i : Nat} {x : Str} {e : Expr} {ie : IE} {p ap cp : Pos} (hN : X.N[i]? = some x) (hv : Vis X.env.scope x) (hd : (x == ("__debug__" : Str)) = false) (hcd : (x == ("__classdict__" : Str)) = false)
    (h : PE X e (liftE X.K RX W (wE F ie))) (hs : starEach [e] X.env = [(false, eval e X.env)]) (hl : (ap.endLine == cp.line) = true) :
    PE X (.Call (.Attribute (.Name x p) "index" ap) [e] [] cp) (liftE X.K RX W (wE F (.indexO i ie))) :=
  PE.imp (pe_bm PySem.F.plainAttrs_list PySem.F.slot_list_index PySem.F.type_list_index (mt_indexD (by omega)) (pe_var (i := i) hN hv hd hcd) (pa_cons h pa_nil hs) (hfew := by rw [hs]; rfl) (hline := hl) (hs := hs) (hplain := by rfl)) fun σ H Q ⟨env, M, s, w⟩ => by
    obtain ⟨p, xs, e, q⟩ := w
    obtain ⟨h1, ⟨vs, h2, h3⟩, h4⟩ := s.owns i p _ e
    refine ⟨_, h1, .inl ⟨rfl, vs, SqL.of h2⟩, env, M, s, wE_mono hF ie (fun d M1 q v H1 x1 s1 r1 => ?_) (fun _ _ q => q) q⟩
    obtain ⟨_, ⟨us, h5, h6⟩, _⟩ := s1.owns i p _ e
    exact idxof_go r1 (SqL.of h5) h6 (wIdxOf_mono (fun j q => (q.go x1).at s1 (d := .int ((j : Nat) : Int)) rfl) q)
theorem je_indexM (hF : FMono F) (hu : X.A.units + 100 < cLine) {o e : Expr} {io ie : IE} {ap cp : Pos} (ho : PE X o (liftE X.K RX W (wE F io))) (h : PE X e (liftE X.K RX W (wE F ie))) (hb : attributeBase o ("index" : Str) X.env (eval o X.env) = eval o X.env)
    (hs : starEach [e] X.env = [(false, eval e X.env)]) (hl : (ap.endLine == cp.line) = true) :
    PE X (.Call (.Attribute o "index" ap) [e] [] cp) (liftE X.K RX W (wE F (.indexM io ie))) :=
  PE.imp (pe_bm PySem.F.plainAttrs_list PySem.F.slot_list_index PySem.F.type_list_index (mt_indexD (by omega)) ho (pa_cons h pa_nil hs) (hbase := hb) (hfew := by rw [hs]; rfl) (hline := hl) (hs := hs) (hplain := by rfl)) fun σ H Q ⟨env, M, s, w⟩ => by
    refine ⟨env, M, s, wE_mono hF io (fun d M1 q x H1 x1 s1 r1 => ?_) (fun _ _ q => q) w⟩
    obtain ⟨a, xs0, rfl, e, q⟩ := q
    cases r1
    obtain ⟨vs, h2, h3⟩ := s1.mem a _ e
    refine ⟨.inl ⟨rfl, vs, SqL.of h2⟩, env, M1, s1, wE_mono hF ie (fun dy M2 q y H2 x2 s2 r2 => ?_) (fun _ _ q => q.go x1) q⟩
    obtain ⟨xs, e2, q⟩ := q
    obtain ⟨us, h5, h6⟩ := s2.mem a _ e2
    exact idxof_go r2 (SqL.of h5) h6 (wIdxOf_mono (fun j q => (q.go (x1.trans x2)).at s2 (d := .int ((j : Nat) : Int)) rfl) q)
end
end DL
/-! sorted({elt for tg in it for tg1 in it1}). -/
namespace DL
open PySem PySem.Spec PyProof.Rows L2 DLS
theorem nodup_fewS : ∀ {N : Nat} {l : List Nat}, l.Nodup → (∀ x ∈ l, x < N) → l.length ≤ N
  | 0, l, _, hl => by
    cases l with
    | nil => exact Nat.le_refl _
    | cons x l => exact absurd (hl x List.mem_cons_self) (Nat.not_lt_zero _)
  | N + 1, l, h, hl => by
    have h1 : (l.filter fun x => decide (x ≠ N)).length ≤ N := nodup_fewS (h.filter _) fun x hx => by
      obtain ⟨h2, h3⟩ := List.mem_filter.mp hx
      have := hl x h2
      have := of_decide_eq_true h3
      omega
    have h2 : (l.filter fun x => decide (x = N)).length ≤ 1 := by
      have h3 := h.filter fun x => decide (x = N)
      cases e : l.filter fun x => decide (x = N) with
      | nil => exact Nat.zero_le _
      | cons a t =>
        cases t with
        | nil => exact Nat.le_refl _
        | cons b t =>
          rw [e] at h3
          have ha : a = N := of_decide_eq_true (List.mem_filter.mp (e ▸ List.mem_cons_self : a ∈ l.filter fun x => decide (x = N))).2
          have hb : b = N := of_decide_eq_true (List.mem_filter.mp (e ▸ List.mem_cons_of_mem _ List.mem_cons_self : b ∈ l.filter fun x => decide (x = N))).2
          exact absurd (ha.trans hb.symm) ((List.nodup_cons.mp h3).1 |> fun z => fun y => z (y ▸ List.mem_cons_self))
    have h4 := List.length_eq_countP_add_countP (fun x => decide (x = N)) (l := l)
    rw [List.countP_eq_length_filter, List.countP_eq_length_filter] at h4
    have e5 : (l.filter fun a => decide ¬(fun x => decide (x = N)) a = true) = l.filter fun x => decide (x ≠ N) := List.filter_congr fun x _ => by simp
    rw [e5] at h4
    omega
theorem small_room {l : List Int} (hd : l.Nodup) (h : ∀ k ∈ l, 0 ≤ k ∧ k < 63) : l.length ≤ 63 := by
  have h1 : (l.map Int.toNat).Nodup := by
    refine (List.pairwise_map.mpr (hd.imp_of_mem fun {a b} ha hb hab z => hab ?_))
    have := h a ha; have := h b hb
    omega
  have h2 : ∀ x ∈ l.map Int.toNat, x < 63 := fun x hx => by
    obtain ⟨k, hk, rfl⟩ := List.mem_map.mp hx
    have := h k hk
    omega
  have h3 := nodup_fewS h1 h2
  simpa using h3
/-- the set at D holds just these numbers -/
structure SetS (w : World) (H : Hp) (D : Addr) (zs : List DL.D) : Prop where
  ex : ∃ (S : Int → Bool) (l : List Int), H D = some (SetO w D S l.length) ∧ l.Nodup ∧ (∀ k, S k = true ↔ k ∈ l) ∧ (∀ k : Int, k ∈ l ↔ DL.D.int k ∈ zs) ∧ ∀ k ∈ l, 0 ≤ k ∧ k < 63
theorem SetS.add {w : World} {H : Hp} {D : Addr} {zs : List DL.D} {k : Nat} (s : SetS w H D zs) (hk : k < 63) : ∃ (S : Int → Bool) (n : Nat), H D = some (SetO w D S n) ∧ n + 1 < scanBound ∧
    SetS w (L2.upd H D (SetO w D (fun j => S j || decide (j = (k : Int))) (if S (k : Int) = true then n else n + 1))) D (zs ++ [.int (k : Int)]) := by
  obtain ⟨S, l, e, nd, hS, hz, hb⟩ := s.ex
  have hl := small_room nd hb
  refine ⟨S, l.length, e, by have : scanBound = 4096 := rfl; omega, ?_⟩
  by_cases hc : S (k : Int) = true
  · rw [if_pos hc]
    refine ⟨_, l, L2.upd_same, nd, fun j => ?_, fun j => ?_, hb⟩
    · rw [Bool.or_eq_true, hS, decide_eq_true_eq]
      exact ⟨fun z => z.elim id fun z => by subst z; exact (hS _).mp hc, .inl⟩
    · rw [List.mem_append, ← hz]
      refine ⟨.inl, fun z => z.elim id fun z => ?_⟩
      have : DL.D.int j = DL.D.int (k : Int) := by simpa using z
      injection this with this
      rw [this]; exact (hS _).mp hc
  · rw [if_neg hc]
    have hkl : (k : Int) ∉ l := fun z => hc ((hS _).mpr z)
    refine ⟨_, l ++ [(k : Int)], by rw [List.length_append]; exact L2.upd_same, ?_, fun j => ?_, fun j => ?_, fun j hj => ?_⟩
    · exact List.nodup_append.mpr ⟨nd, by simp, fun a ha b hb' z => hkl (List.mem_singleton.mp hb' ▸ z ▸ ha)⟩
    · rw [Bool.or_eq_true, hS, decide_eq_true_eq, List.mem_append, List.mem_singleton]
    · rw [List.mem_append, List.mem_append, ← hz, List.mem_singleton, List.mem_singleton]
      exact ⟨fun z => z.imp id fun z => by rw [z], fun z => z.imp id fun z => by injection z⟩
    · rcases List.mem_append.mp hj with z | z
      · exact hb j z
      · have : j = (k : Int) := by simpa using z
        omega
section
variable {X : Cx} {RX : RXT} {W : WX} {F : FS}
variable {K : PySem.W.Frag} {σ : L2.St} {H H1 H2 : Hp} {env : Env} {M M1 M2 : Mem} {Q : VK}
theorem setO_ne {w : World} {D : Addr} {S : Int → Bool} {n : Nat} : (∀ vs, SetO w D S n ≠ .tup vs) ∧ (∀ ob u, SetO w D S n ≠ .frz ob u) ∧ (∀ kvs, SetO w D S n ≠ .xd kvs) ∧ (∀ C dx fs, SetO w D S n ≠ .ins C dx fs) := by
  refine ⟨fun _ z => ?_, fun _ _ z => ?_, fun _ z => ?_, fun _ _ _ z => ?_⟩ <;> · unfold SetO at z; cases z
theorem StE.otherS {p : Addr} {o o' : HO} (s : StE K σ H env M) (h : H p = some o) (n1 : ∀ vs, o ≠ .tup vs) (n2 : ∀ ob u, o ≠ .frz ob u) (n3 : ∀ kvs, o ≠ .xd kvs) (hM : M p = none) (no : ∀ (i : Nat) q o', env[i]? = some (.own q o') → q ≠ p) : StE K σ (L2.upd H p o') env M := by
  have t : Tm K H (L2.upd H p o') := upd_tm (fun vs z => by rw [h] at z; exact n1 vs (Option.some.inj z)) fun ob u z => by rw [h] at z; exact n2 ob u (Option.some.inj z)
  refine ⟨s.len, fun i d e => ?_, fun i q o' e => ?_, s.inj, fun a u e => ?_, s.excsUpd (fun kvs z => by rw [h] at z; exact n3 kvs (Option.some.inj z)) t⟩
  · obtain ⟨v, h1, h2⟩ := s.vals i d e; exact ⟨v, h1, h2.mono t⟩
  · obtain ⟨h1, h2, h3⟩ := s.owns i q o' e
    exact ⟨h1, h2.step (fun u e => by rw [L2.upd_ne (no i q o' ‹_›)]; exact e) t, h3⟩
  · have hp : a ≠ p := fun z => by subst z; rw [hM] at e; cases e
    exact (s.mem a u e).step (fun u e => by rw [L2.upd_ne hp]; exact e) t
theorem StE.delS {p : Addr} {o : HO} (s : StE K σ H env M) (h : H p = some o) (n1 : ∀ vs, o ≠ .tup vs) (n2 : ∀ ob u, o ≠ .frz ob u) (n3 : ∀ kvs, o ≠ .xd kvs) (hM : M p = none) (no : ∀ (i : Nat) q o', env[i]? = some (.own q o') → q ≠ p) : StE K σ (delH H p) env M := by
  have ne : ∀ {a u}, H a = some u → u ≠ o → delH H p a = some u := fun {a u} e n => by
    rw [delH_ne fun z => n (by subst z; rw [h] at e; cases e; rfl)]; exact e
  have t : Tm K H (delH H p) := tm_mk (fun a vs h => ne h fun z => n1 vs z.symm) (fun a ob vs h => ne h fun z => n2 ob _ z.symm) (fun a ob vs h => ne h fun z => n2 ob _ z.symm)
  refine ⟨s.len, fun i d e => ?_, fun i q o' e => ?_, s.inj, fun a u e => ?_, s.excsStep (fun a kvs e => ne e fun z => n3 kvs z.symm) t⟩
  · obtain ⟨v, h1, h2⟩ := s.vals i d e; exact ⟨v, h1, h2.mono t⟩
  · obtain ⟨h1, h2, h3⟩ := s.owns i q o' e
    exact ⟨h1, h2.step (fun u e => by rw [delH_ne (no i q o' ‹_›)]; exact e) t, h3⟩
  · have hp : a ≠ p := fun z => by subst z; rw [hM] at e; cases e
    exact (s.mem a u e).step (fun u e => by rw [delH_ne hp]; exact e) t
theorem SetS.keep {w : World} {D : Addr} {zs : List DL.D} (s : SetS w H D zs) (k : ∀ o, H D = some o → H1 D = some o) : SetS w H1 D zs := by
  obtain ⟨S, l, e, r⟩ := s.ex
  exact ⟨S, l, k _ e, r⟩
theorem SetS.at {w : World} {D : Addr} {zs : List DL.D} (s : SetS w H D zs) : ∃ o, H D = some o ∧ (∀ vs, o ≠ .tup vs) ∧ (∀ ob u, o ≠ .frz ob u) ∧ (∀ kvs, o ≠ .xd kvs) ∧ ∃ φ, o = .ext φ := by
  obtain ⟨S, l, e, r⟩ := s.ex
  exact ⟨_, e, setO_ne.1, setO_ne.2.1, setO_ne.2.2.1, _, rfl⟩
theorem set2_core (hF : FMono F) {w : World} {ie : IE} {t t1 : Tg} {it it1 : II} {g g1 : TG}
    (hg : ∀ {d : D} {v : V} {σ : L2.St} {H : Hp} {env : Env} {M : Mem} {Q : L2.St → Hp → Prop}, StE K σ H env M → Rep K H d v →
      wTg t d env (fun e => ∀ σ', StE K σ' H e M → L2.wipe σ' t.slots = L2.wipe σ t.slots → Q σ' H) → g v σ H Q)
    (hg1 : ∀ {d : D} {v : V} {σ : L2.St} {H : Hp} {env : Env} {M : Mem} {Q : L2.St → Hp → Prop}, StE K σ H env M → Rep K H d v →
      wTg t1 d env (fun e => ∀ σ', StE K σ' H e M → L2.wipe σ' t1.slots = L2.wipe σ t1.slots → Q σ' H) → g1 v σ H Q)
    {σ : L2.St} {H : Hp} {Q : VK}
    (h : liftE K RX W (wE F (.srtSet ie t it t1 it1)) σ H Q) : tSc2 w (liftI K RX W (wI F it)) g tYes (liftI K RX W0 (wI F it1)) g1 tYes (liftE K RX W0 (wE F ie)) (t.slots ++ t1.slots) t1.slots σ H (fun x H1 => rSortedSet w [x] H1 Q) := by
  obtain ⟨env, M, s, h⟩ := h
  refine ⟨env, M, s, wI_mono hF it (fun xs ok M1 q J H1 x1 s1 wk D hD => ?_) (fun _ _ q => q) h⟩
  obtain ⟨G, wk, hG⟩ := wk
  have noD := not_own s1 hD
  have MD := s1.fresh hD
  generalize hEL : (fun (n : Nat) (x : DL.D) (M2 : Mem) (R : List DL.D → Mem → Prop) => wTg t x (wipeE env (t.slots ++ t1.slots)) fun env1 => wI F it1 env1 M2 (fun ys ok1 M3 =>
        wCmpr (ok1 env1) (fun y M4 R' => wTg t1 y (wipeE env1 t1.slots) fun env2 => wE F ie env2 M4 (fun z M6 => (∃ k : Nat, z = .int (k : Int) ∧ k < 63) ∧ R' (some z) M6) X0) ys M3 R) X0) = EL at q
  generalize hPO : (fun (zs : List DL.D) (M5 : Mem) => ∀ ns : List Int, ns.Pairwise (· < ·) → (∀ k : Int, k ∈ ns ↔ DL.D.int k ∈ zs) → ∀ p, M5 p = none → postE K σ H env M Q (.ref p) (upd M5 p (.lst (ns.map DL.D.int)))) = PO at q
  let Pv : Nat → Hp → Prop := fun i H2 => ∃ M2 ds, SetS w H2 D ds ∧ StE K σ H2 env M2 ∧ Ext env H1 M1 H2 M2 ∧ M2 D = none ∧
    wCmp2 (ok env) EL ds.length (xs.drop i) M2 (fun ys M3 => PO (ds ++ ys) M3)
  have set0 : SetS w (L2.upd H1 D (SetO w D (fun _ => false) 0)) D [] := ⟨_, [], L2.upd_same, List.nodup_nil, by simp, by simp, by simp⟩
  refine ⟨fun i m H => m = xs.length - i ∧ i ≤ xs.length ∧ Pv i H, ⟨xs.length, by simp, Nat.zero_le _, M1, [], set0, s1.alc (Alc.new hD), Ext.alc (Alc.new hD), MD, by simpa using q⟩, ?_⟩
  rintro i m H2 ⟨rfl, hi, p⟩
  have gg : G H2 := by
    obtain ⟨M2, ds, e1, s2, x2, e4, hc⟩ := p
    exact hG H2 σ env M2 (fun a o h n no _ => (x2 a o h n no).1) s2 (wCmp2_ok hc)
  obtain ⟨M2, ds, e1, s2, x2, e4, hc⟩ := p
  by_cases hlt : i < xs.length
  · refine .inr ⟨wk.goes i H2 hlt gg, Pv (i + 1), fun H' p' => ⟨xs.length - (i + 1), by omega, rfl, hlt, p'⟩, fun x H3 y => ?_⟩
    obtain ⟨al, d, hd, rd⟩ := wk.yields i H2 x H3 hlt gg y
    rw [List.drop_eq_getElem_cons hlt] at hc
    have hd' : xs[i] = d := by rw [List.getElem?_eq_getElem hlt] at hd; exact Option.some.inj hd
    rw [hd'] at hc
    obtain ⟨_, hc⟩ := hc
    rw [← hEL] at hc
    have s3 : StE K σ H3 env M2 := s2.alc al
    refine hg (s3.wipe (vs := t.slots ++ t1.slots)) rd (wTg_mono (fun e q σ2 s4 wp => ?_) (wTg_keep hc))
    obtain ⟨q, kp0⟩ := q
    have kp := kp0.wide
    refine ⟨(wipe_wide wp).trans (wipe_in σ _ _ fun _ h => h), ?_⟩
    unfold tYes
    simp only [↓reduceIte]
    have e3 : SetS w H3 D ds := e1.keep fun o e => al _ _ e
    obtain ⟨o3, D3, n1, n2, n3, φ, hφ⟩ := e3.at
    have noDe : ∀ (j : Nat) q o', e[j]? = some (.own q o') → q ≠ D := fun j q o' h => noD j q o' (wipe_own.mp (kp.own j q o' h).1).1
    refine ⟨e, M2, s4, wI_mono hF it1 (fun ys ok1 M3 q J1 H4 x4 s5 wk1 => ?_) (fun _ _ z => z.elim) q⟩
    obtain ⟨G1, wk1, hG1⟩ := wk1
    obtain ⟨D4, M3D⟩ := x4 D _ D3 e4 noDe
    let Pv1 : Nat → Hp → Prop := fun j H5 => ∃ M4 es, SetS w H5 D (ds ++ es) ∧ StE K σ2 H5 e M4 ∧ Ext e (delH H4 D) M3 H5 M4 ∧ Ext e (delH H3 D) M2 H5 M4 ∧ M4 D = none ∧
      wCmpr (ok1 e) (fun y M4 R' => wTg t1 y (wipeE e t1.slots) fun env2 => wE F ie env2 M4 (fun z M6 => (∃ k : Nat, z = .int (k : Int) ∧ k < 63) ∧ R' (some z) M6) X0) (ys.drop j) M4
        (fun zs M5 => wCmp2 (ok env) EL (ds.length + (es ++ zs).length) (xs.drop (i + 1)) M5 fun ws M6 => PO (ds ++ ((es ++ zs) ++ ws)) M6)
    have s4m : StE K σ2 (delH H3 D) e M2 := s4.delS D3 n1 n2 n3 e4 noDe
    have s3m : StE K σ (delH H3 D) env M2 := s3.delS D3 n1 n2 n3 e4 noD
    have xm : Ext env H1 M1 (delH H3 D) M2 := fun a o h n no => by
      have ha : a ≠ D := fun z => by subst z; rw [hD] at h; cases h
      obtain ⟨h1, h2⟩ := x2 a o h n no
      exact ⟨(delH_ne ha).trans (al _ _ h1), h2⟩
    have t4 : Tm K H3 H4 := x4.tm s4
    refine ⟨fun j k H => k = ys.length - j ∧ j ≤ ys.length ∧ Pv1 j H, ⟨ys.length, by simp, Nat.zero_le _, M3, [], by rw [List.append_nil]; exact e3.keep fun o e => (x4 D o e e4 noDe).1, s5, Ext.del Ext.refl, Ext.del x4, M3D, ?_⟩, ?_⟩
    · rw [hEL] at q
      simpa using q
    rintro j k H5 ⟨rfl, hj, p1⟩
    have gg1 : G1 H5 := by
      obtain ⟨M4, es, f1, s6, x6, x7, f4, hc1⟩ := p1
      refine hG1 H5 σ2 e M4 (fun a o h n no hb => ?_) s6 (wCmpr_ok hc1)
      by_cases ha : a = D
      · subst ha
        rw [D4] at h; cases h
        have := hb (.inr ⟨φ, hφ⟩) e4
        rw [D3] at this; cases this
      · exact (x6 a o ((delH_ne ha).trans h) n no).1
    obtain ⟨M4, es, f1, s6, x6, x7, f4, hc1⟩ := p1
    have t5 : Tm K (delH H3 D) H5 := x7.tm s4m
    by_cases hlt1 : j < ys.length
    · refine .inr ⟨wk1.goes j H5 hlt1 gg1, Pv1 (j + 1), fun H' p' => ⟨ys.length - (j + 1), by omega, rfl, hlt1, p'⟩, fun x' H6 y' => ?_⟩
      obtain ⟨al1, d1, hd1, rd1⟩ := wk1.yields j H5 x' H6 hlt1 gg1 y'
      rw [List.drop_eq_getElem_cons hlt1] at hc1
      have hd1' : ys[j] = d1 := by rw [List.getElem?_eq_getElem hlt1] at hd1; exact Option.some.inj hd1
      rw [hd1'] at hc1
      obtain ⟨_, hc1⟩ := hc1
      have s7 : StE K σ2 H6 e M4 := s6.alc al1
      refine hg1 (s7.wipe (vs := t1.slots)) rd1 (wTg_mono (fun e' q σ3 s8 wp1 => ?_) (wTg_keep hc1))
      obtain ⟨q, kp1⟩ := q
      refine ⟨wp1.trans (wipe_in σ2 _ _ fun _ h => h), ?_⟩
      have f6 : SetS w H6 D (ds ++ es) := f1.keep fun o e => al1 _ _ e
      obtain ⟨o6, D6, m1, m2, m3, _⟩ := f6.at
      have noDe' : ∀ (j : Nat) q o', e'[j]? = some (.own q o') → q ≠ D := fun j q o' h => noDe j q o' (wipe_own.mp (kp1.own j q o' h).1).1
      refine ⟨e', M4, s8, wE_mono hF ie (fun z M6 q v H8 x9 s10 ry => ?_) (fun _ _ z => z.elim) q⟩
      obtain ⟨⟨k, rfl, hk⟩, q⟩ := q
      have t9 : Tm K H6 H8 := x9.tm s8
      obtain ⟨D8, M6D⟩ := x9 D _ D6 f4 noDe'
      have s11 : StE K σ2 H8 e M6 := s7.unblk kp1 x9 s10 t9
      have xe : Ext e H5 M4 H8 M6 := (Ext.alc al1).trans (Ext.unblk kp1 x9)
      obtain ⟨S, n, hDS, hroom, hadd⟩ := (f6.keep fun o e => (x9 D o e f4 noDe').1).add hk
      cases ry
      refine ⟨(k : Int), S, n, rfl, hDS, hroom, M6, es ++ [.int (k : Int)], by rw [← List.append_assoc]; exact hadd, s11.otherS D8 m1 m2 m3 M6D noDe, ?_, ?_, M6D, by simpa using q⟩
      · intro a o h n no
        have ha : a ≠ D := fun z => by subst z; rw [delH_at] at h; cases h
        rw [L2.upd_ne ha]
        exact (x6.trans xe) a o h n no
      · intro a o h n no
        have ha : a ≠ D := fun z => by subst z; rw [delH_at] at h; cases h
        rw [L2.upd_ne ha]
        exact (x7.trans xe) a o h n no
    · have ej : j = ys.length := by omega
      subst ej
      rw [List.drop_length] at hc1
      obtain ⟨_, hc1⟩ := hc1
      refine .inl ⟨wk1.stops H5 gg1, M4, ds ++ es, f1, s3m.unblk kp x7 s6 t5, xm.trans (Ext.unblk kp x7), f4, ?_⟩
      simpa using hc1
  · have ei : i = xs.length := by omega
    subst ei
    rw [List.drop_length] at hc
    have hq := hc.2
    rw [← hPO] at hq
    simp only [List.append_nil] at hq
    obtain ⟨S, l, e, nd, hS, hz, hb⟩ := e1.ex
    refine .inl ⟨wk.stops H2 gg, D, S, l.length, rfl, e, by have := small_room nd hb; omega, fun ns p h1 h2 h3 hp => ?_⟩
    have hM : M2 p = none := s2.fresh hp
    have al : Alc H2 (L2.upd H2 p (.lst (ns.map V.int))) := Alc.new hp
    have rr : ∀ (H' : Hp) (ns : List Int), Reps K H' (ns.map DL.D.int) (ns.map V.int) := fun H' ns => by
      induction ns with
      | nil => exact rfl
      | cons a ns ih => exact ⟨_, _, rfl, rfl, ih⟩
    refine (hq ns h1 (fun k => by rw [h2, hS, hz]) p hM) (.ref p) _ (fun c o e n no => ?_) ((s2.alc al).put L2.upd_same (rr _ ns) hM fun i q o' e z => ?_) rfl
    · obtain ⟨g1, g2⟩ := (x1.trans x2) c o e n no
      have hc : c ≠ p := fun z => by subst z; rw [hp] at g1; cases g1
      exact ⟨al _ _ g1, by rw [upd_other hc]; exact g2⟩
    · subst z
      exact not_own s2 hp i _ o' e rfl
theorem je_srtSet (hF : FMono F) {p pos spos : Pos} {elt tg iter tg1 iter1 : Expr} {scope : Scope} {own : List (Str × Nat)} {ie : IE} {t t1 : Tg} {it it1 : II} {g g1 : TG}
    (hc : X.calm = true) (hN : X.N.Nodup) (hgl : Gl X "sorted") (hm : X.mg "sorted" = none)
    (hi : PI X tg iter (liftI X.K RX W (wI F it))) (ok : BlkOk X.N X.env.scope scope own) (hown : own.map (·.2) = t.slots ++ t1.slots)
    (hg : ∀ (s : Shared) (H : Hp) (C : Addr) (cl : List (Str × Addr)) (fp : List Addr), GOk (X.blk s H scope (compEnvC scope cl C X.env) fp) t tg g) (hg1 : ∀ (s : Shared) (H : Hp) (C : Addr) (cl : List (Str × Addr)) (fp : List Addr), GOk (X.blk s H scope (compEnvC scope cl C X.env) fp) t1 tg1 g1)
    (hi1 : ∀ (s : Shared) (H : Hp) (C : Addr) (cl : List (Str × Addr)) (fp : List Addr), PI (X.blk s H scope (compEnvC scope cl C X.env) fp) tg1 iter1 (liftI X.K RX W0 (wI F it1)))
    (he : ∀ (s : Shared) (H : Hp) (C : Addr) (cl : List (Str × Addr)) (fp : List Addr), PE (X.blk s H scope (compEnvC scope cl C X.env) fp) elt (liftE X.K RX W0 (wE F ie)))
    (hs : ∀ x, foldedSetIterable iter X.env x = pure x) (hs1 : ∀ env x, foldedSetIterable iter1 env x = pure x) :
    PE X (.Call (.Name "sorted" p) [.SetComp elt [⟨tg, iter, [], 0⟩, ⟨tg1, iter1, [], 0⟩] scope spos] [] pos) (liftE X.K RX W (wE F (.srtSet ie t it t1 it1))) := by
  have h := pe_sc2 (pos := spos) (vs1 := t1.slots) hc hN hi ok (fun i h => by rw [hown]; exact List.mem_append_right _ h) (fun s H C cl fp => (hg s H C cl fp).pg) (fun _ _ _ _ _ => pts_nil) hi1 (fun s H C cl fp => (hg1 s H C cl fp).pg) (fun _ _ _ _ _ => pts_nil) he hs hs1
  refine PE.imp (pe_callB (cr_sortedSet hc) hgl hm PyProof.Rows.boot_sorted (pa_cons h pa_nil rfl) (by decide +kernel) (by decide +kernel) rfl rfl) fun σ H Q w => ?_
  rw [hown]
  exact set2_core hF (fun {d v σ H env M Q} s r w => (hg ⟨X.s_0.heap, X.s_0.gens, X.s_0.drawn, X.s_0.toks, X.s_0.os⟩ X.H_0 0 [] []).go s r w) (fun {d v σ H env M Q} s r w => (hg1 ⟨X.s_0.heap, X.s_0.gens, X.s_0.drawn, X.s_0.toks, X.s_0.os⟩ X.H_0 0 [] []).go s r w) w
end
end DL
/-! The check of a text against the small language, and that it is sound. -/
namespace DL
open PySem PySem.Spec PyProof.Rows L2 DLX DLM
/-- what is known of a block's names, of the text's defs and constants -/
structure Cs where
  N : List Str
  names : List (Str × NameKind)
  P : List Fn
  gl : List (String × D)
  /-- no error is handled -/
  calm : Bool
  /-- defs that may be called where an error is handled -/
  hot : List Nat
  /-- the classes of errors; which is one of which -/
  xt : List XCls
  rel : List (String × String × Bool)
  /-- the other classes of the text -/
  ics : List ICls
def relOf (rel : List (String × String × Bool)) (a b : String) : Option Bool := (rel.find? fun t => t.1 == a && t.2.1 == b).map (·.2.2)
def sDebug : Str := "__debug__"
def sClassdict : Str := "__classdict__"
def visK : Option NameKind → Bool
  | some .local => true | some .cell => true | some .free => true | _ => false
def locK : Option NameKind → Bool
  | some .local => true | some .cell => true | _ => false
def gblK : Option NameKind → Bool
  | some .globalImplicit => true | _ => false
def notStar : Expr → Bool
  | .Starred .. => false | _ => true
def notSlice : Expr → Bool
  | .Slice .. => false | _ => true
def notSet : Expr → Bool
  | .Set .. => false | _ => true
/-- no comprehension -/
def notComp : Expr → Bool
  | .ListComp .. => false | .SetComp .. => false | .DictComp .. => false | _ => true
def notTup : Expr → Bool
  | .Tuple .. => false | _ => true
/-- what is tested by its value -/
def plainT : Expr → Bool
  | .UnaryOp .. => false | .BoolOp .. => false | .IfExp .. => false | .Compare .. => false | _ => true
/-- no call of super -/
def plainB : Expr → Bool
  | .Call .. => false | _ => true
def Mth.nil : Mth → Bool
  | .pop => true | .reverse => true | _ => false
def few : List Expr → Bool
  | [] => true | [_] => true | _ => false
def IEs.isNil : IEs → Bool
  | .nil => true | _ => false
section
variable (C : Cs)
def nmOk (i : Nat) (x : Str) : Bool := (C.N[i]? == some x) && visK (C.names.lookup x) && !(x == sDebug) && !(x == sClassdict)
def lcOk (i : Nat) (x : Str) : Bool := (C.N[i]? == some x) && locK (C.names.lookup x)
def glOk (s : String) (x : Str) : Bool := (x == (s : Str)) && gblK (C.names.lookup x)
def Blt.nm : Blt → String
  | .len => "len" | .int => "int" | .bool => "bool" | .abs => "abs" | .max => "max" | .min => "min" | .tuple => "tuple" | .isa _ => "isinstance" | .str => "str"
def LK.nm : LK → String
  | .tuple => "tuple" | .all => "all" | .any => "any" | .len => "len" | .sum => "sum" | .max => "max" | .min => "min"
/-- all built-in names that may be used -/
def bltNames : List Str := ["len", "int", "bool", "abs", "max", "min", "tuple", "isinstance", "str", "all", "any", "sum", "list", "range", "zip", "enumerate", "reversed", "sorted", "dict", "repr"].map fun (s : String) => (s : Str)
def ownOf : Tg → Expr → Option (List (Str × Nat))
  | .nm i, .Name x _ => some [(x, i)]
  | .tp is, .Tuple es _ _ => (es.mapM fun (e : Expr) => match e with | .Name x _ => some x | _ => none).bind fun xs => if xs.length == is.length then some (xs.zip is) else none
  | .np i is, .Tuple [.Name y _, .Tuple es _ _] _ _ => (es.mapM fun (e : Expr) => match e with | .Name x _ => some x | _ => none).bind fun xs => if xs.length == is.length then some ((y, i) :: xs.zip is) else none
  | _, _ => none
def chkTs (C : Cs) : List Nat → List Expr → Bool
  | [], [] => true
  | i :: is, .Name x _ :: es => lcOk C i x && chkTs C is es
  | _, _ => false
def chkTg (C : Cs) : Tg → Expr → Bool
  | .nm i, .Name x _ => lcOk C i x
  | .tp is, .Tuple es _ _ => C.calm && chkTs C is es
  | .np i is, .Tuple [.Name y _, .Tuple es _ _] _ _ => C.calm && (lcOk C i y && chkTs C is es)
  | _, _ => false
/-- classes that are asked: what is told of them -/
def relB (C : Cs) (cs yes no : List String) : Bool := !(yes ++ no).isEmpty && (yes.all fun n => (cs.all fun c => (relOf C.rel n c).isSome) && cs.any fun c => relOf C.rel n c == some true) && (no.all fun n => cs.all fun c => relOf C.rel n c == some false)
def chkNs (C : Cs) : List String → List Expr → Bool
  | [], [] => true
  | c :: cs, .Name y _ :: es => glOk C c y && !(y == sDebug) && chkNs C cs es
  | _, _ => false
/-- a class of the text (with such a field), a method of it -/
def icB0 (C : Cs) (c : String) : Bool := C.ics.any fun t => t.name == c
def icB (C : Cs) (c f : String) : Bool := C.ics.any fun t => t.name == c && t.fields.contains f
def mB (P : List Fn) (f : Nat) (c m : String) : Bool := match P[f]? with | some fn => fn.cls == some c && fn.name == m | none => false
def BOp.beq (o : BOp) (p : Operator) : Bool := o.py == p
def COp.beq (o : COp) (p : CmpOp) : Bool := o.py == p
mutual
def chkE (C : Cs) : IE → Expr → Bool
  | .var i, e => (match e with | .Name x _ => nmOk C i x | _ => false)
  | .cst d, e => (match d, e with
    | .int i, .Constant (.int j) _ _ => i == j
    | .bl a, .Constant (.bool b) _ _ => a == b
    | .str a, .Constant (.str b) _ _ => a == b
    | .non, .Constant .none _ _ => true
    | _, _ => false)
  | .glb y d, e => (match e with | .Name x _ => glOk C y x && !(x == sDebug) && (match C.gl.lookup y with | some d' => D.beq d d' | none => false) | _ => false)
  | .bin o a b, e => (match e with | .BinOp x p y _ => o.beq p && chkE C a x && chkE C b y | _ => false)
  | .cat a b, e => (match e with | .BinOp x .Add y _ => chkE C a x && chkE C b y | _ => false)
  | .repL a b, e => (match e with | .BinOp x .Mult y _ => chkE C a x && chkE C b y | _ => false)
  | .neg a, e => (match e with | .UnaryOp .USub x _ => chkE C a x | _ => false)
  | .inv a, e => (match e with | .UnaryOp .Invert x _ => chkE C a x | _ => false)
  | .cmp o a b, e => (match e with | .Compare x [p] [y] _ => o.beq p && chkE C a x && chkE C b y && notSet y | _ => false)
  | .chn o o' a b c, e => (match e with | .Compare x [p, p'] [y, z] _ => o.beq p && o'.beq p' && chkE C a x && chkE C b y && chkE C c z && notSet z | _ => false)
  | .and a b, e => (match e with
    | .BoolOp .And [x, y] _ => chkE C a x && chkE C b y
    | .BoolOp .And (x :: y :: z :: r) p => chkE C a x && chkE C b (.BoolOp .And (y :: z :: r) p)
    | _ => false)
  | .or a b, e => (match e with
    | .BoolOp .Or [x, y] _ => chkE C a x && chkE C b y
    | .BoolOp .Or (x :: y :: z :: r) p => chkE C a x && chkE C b (.BoolOp .Or (y :: z :: r) p)
    | _ => false)
  | .not a, e => (match e with | .UnaryOp .Not x _ => chkE C a x | _ => false)
  | .ifx c a b, e => (match e with | .IfExp t x y _ => chkT C c t && chkE C a x && chkE C b y | _ => false)
  | .tup es, e => (match e with | .Tuple xs _ _ => chkEs C es xs | _ => false)
  | .idx a i, e => (match e with | .Subscript x y _ => chkE C a x && chkE C i y && notSlice y | _ => false)
  | .slc a lo hi, e => (match e with | .Subscript x (.Slice l h none _) _ => chkE C a x && chkO C lo l && chkO C hi h | _ => false)
  | .rev a, e => (match e with | .Subscript x (.Slice none none (some (.UnaryOp .USub (.Constant (.int j) _ _) _)) _) _ => j == 1 && chkE C a x | _ => false)
  | .revL a, e => (match e with | .Subscript x (.Slice none none (some (.UnaryOp .USub (.Constant (.int j) _ _) _)) _) _ => j == 1 && chkE C a x | _ => false)
  | .rev0 a, e => (match e with | .Subscript x (.Slice none (some (.Constant (.int i) _ _)) (some (.UnaryOp .USub (.Constant (.int j) _ _) _)) _) _ => i == 0 && j == 1 && chkE C a x | _ => false)
  | .tupRev l, e => C.calm && (match e with | .Call (.Name f _) [.Call (.Name g _) [x] [] _] [] _ => glOk C "tuple" f && glOk C "reversed" g && chkL C l x && notStar x | _ => false)
  | .tupRevT l, e => C.calm && (match e with | .Call (.Name f _) [.Call (.Name g _) [x] [] _] [] _ => glOk C "tuple" f && glOk C "reversed" g && chkE C l x && notStar x | _ => false)
  | .sorted l, e => (match e with | .Call (.Name f _) [x] [] _ => glOk C "sorted" f && chkL C l x && notStar x | _ => false)
  | .sortK d, e => C.calm && (match e with | .Call (.Name f _) [.Call (.Attribute x nm ap) [] [] cp] [] _ => glOk C "sorted" f && (nm == ("keys" : Str)) && chkE C d x && plainB x && (ap.endLine == cp.line) | _ => false)
  | .meth m a es, e => (match e with
    | .Call (.Attribute x nm ap) ys [] cp => (nm == (m.py : Str)) && chkE C a x && plainB x && (ap.endLine == cp.line) && (match ys with
      | [] => m.nil && es.isNil
      | y :: r => !m.nil && chkEs C es (y :: r) && few r)
    | _ => false)
  | .dead, _ => true
  | .blt b es, e => (match e with
    | .Call (.Name f _) xs [] _ => glOk C b.nm f && (match b with
      | .isa t => (match xs with | [x, .Name g _] => chkEs C es [x] && glOk C t.nm g && notStar x | _ => false)
      | _ => (C.calm || b.hotOk) && (chkEs C es xs && !xs.isEmpty))
    | _ => false)
  | .lk k l, e => (C.calm || k.hotOk) && (match e with | .Call (.Name f _) [x] [] _ => glOk C k.nm f && chkL C l x && notStar x | _ => false)
  | .lidx l i, e => (match e with
    | .Subscript x y _ => (match l, x with
      | .own j, .Name z _ => nmOk C j z && chkE C i y && notSlice y
      | .new n, x => chkN C n x && chkE C i y && notSlice y
      | _, _ => false)
    | _ => false)
  | .linn n a l, e => (match e with | .Compare x [p] [y] _ => (p == if n then .NotIn else .In) && chkE C a x && chkL C l y && notSet y | _ => false)
  | .mk n, e => chkN C n e
  | .maxd mn l i, e => C.calm && (match e with | .Call (.Name f _) [x] [⟨some k, .Constant (.int j) _ _, _⟩] _ => !mn && glOk C "max" f && chkL C l x && notStar x && (k == ("default" : Str)) && (i == j) | _ => false)
  | .dnew, e => (match e with | .Dict [] [] _ => true | _ => false)
  | .ddisp k v, e => (match e with | .Dict [some x] [y] _ => chkE C k x && chkE C v y | _ => false)
  | .indexM a k, e => (match e with | .Call (.Attribute x nm ap) [y] [] cp => (nm == ("index" : Str)) && chkE C a x && plainB x && (ap.endLine == cp.line) && chkE C k y && notStar y | _ => false)
  | .indexO i k, e => (match e with | .Call (.Attribute (.Name z _) nm ap) [y] [] cp => (nm == ("index" : Str)) && nmOk C i z && (ap.endLine == cp.line) && chkE C k y && notStar y | _ => false)
  | .srtSet ie t it t1 it1, e => (match e with
    | .Call (.Name f _) [.SetComp elt [⟨tg, iter, ifs, a⟩, ⟨tg1, iter1, ifs1, a1⟩] scope _] [] _ => glOk C "sorted" f && (C.calm && (a == 0 && a1 == 0 && ifs.isEmpty && ifs1.isEmpty && chkI C it tg iter && notSet iter && notSet iter1 && (match ownOf t tg, ownOf t1 tg1 with
        | some own, some own1 => blkC C.N { scope with names := C.names } scope (own ++ own1)
        | _, _ => false) &&
      chkTg { C with names := scope.names } t tg && chkTg { C with names := scope.names } t1 tg1 && chkI { C with names := scope.names } it1 tg1 iter1 && chkE { C with names := scope.names } ie elt))
    | _ => false)
  | .dget a k, e => (match e with | .Subscript x y _ => chkE C a x && chkE C k y && notSlice y | _ => false)
  | .din n k a, e => (match e with | .Compare x [p] [y] _ => (p == if n then .NotIn else .In) && chkE C k x && chkE C a y && notSet y | _ => false)
  | .dgetd a k b, e => (match e with | .Call (.Attribute x nm ap) [y, z] [] cp => (nm == ("get" : Str)) && chkE C a x && plainB x && (ap.endLine == cp.line) && chkE C k y && chkE C b z && notStar y && notStar z | _ => false)
  | .dget1 a k, e => (match e with | .Call (.Attribute x nm ap) [y] [] cp => (nm == ("get" : Str)) && chkE C a x && plainB x && (ap.endLine == cp.line) && chkE C k y && notStar y | _ => false)
  | .call f as, e => (match e with
    | .Call (.Name x _) xs [] _ => (C.calm || (C.hot.contains f && !xs.isEmpty)) && ((match C.P[f]? with | some fn => fn.cls.isNone && glOk C fn.name x | none => false) && !(x == sDebug) && chkAs C as xs)
    | _ => false)
  | .fld c f o, e => (match e with | .Attribute x g _ => icB C c f && (g == (f : Str)) && chkE C o x && plainB x | _ => false)
  | .make c f as, e => C.calm && (match e with | .Call (.Name x _) xs [] _ => icB0 C c && mB C.P f c "__init__" && glOk C c x && !(x == sDebug) && chkAs C as xs | _ => false)
  | .mcall c m f o as, e => C.calm && (match e with | .Call (.Attribute x g ap) xs [] cp => icB0 C c && mB C.P f c m && (g == (m : Str)) && chkE C o x && plainB x && chkAs C as xs && decide (xs.length < 30) && (ap.endLine == cp.line) | _ => false)
  | .xfld i f, e => (match e with | .Attribute (.Name x _) g _ => nmOk C i x && (g == (f : Str)) | _ => false)
  | .xisa i cs tup yes no, e => (match e with
    | .Call (.Name f _) [.Name x _, a] [] _ => glOk C "isinstance" f && nmOk C i x && relB C cs yes no && (match tup, cs, a with
      | false, [b], .Name y _ => glOk C b y && !(y == sDebug)
      | true, cs, .Tuple es _ _ => chkNs C cs es && decide (cs.length ≤ 100)
      | _, _, _ => false)
    | _ => false)
def chkEs (C : Cs) : IEs → List Expr → Bool
  | .nil, [] => true
  | .cons e es, x :: xs => chkE C e x && notStar x && chkEs C es xs
  | _, _ => false
def chkT (C : Cs) : IT → Expr → Bool
  | .v e, x => (match e, x with
    | .cmp o a b, .Compare x [p] [y] _ => o.beq p && chkE C a x && chkE C b y && notSet y
    | .chn o o' a b c, .Compare x [p, p'] [y, z] _ => o.beq p && o'.beq p' && chkE C a x && chkE C b y && chkE C c z && notSet z
    | .linn n a l, .Compare x [p] [y] _ => (p == if n then .NotIn else .In) && chkE C a x && chkL C l y && notSet y
    | .din n k a, .Compare x [p] [y] _ => (p == if n then .NotIn else .In) && chkE C k x && chkE C a y && notSet y
    | e, x => chkE C e x && plainT x)
  | .not a, x => (match x with | .UnaryOp .Not y _ => chkT C a y | _ => false)
  | .and a b, e => (match e with
    | .BoolOp .And [x, y] _ => chkT C a x && chkT C b y
    | .BoolOp .And (x :: y :: z :: r) p => chkT C a x && chkT C b (.BoolOp .And (y :: z :: r) p)
    | _ => false)
  | .or a b, e => (match e with
    | .BoolOp .Or [x, y] _ => chkT C a x && chkT C b y
    | .BoolOp .Or (x :: y :: z :: r) p => chkT C a x && chkT C b (.BoolOp .Or (y :: z :: r) p)
    | _ => false)
def chkO (C : Cs) : IO → Option Expr → Bool
  | .no, none => true
  | .at e, some x => chkE C e x
  | _, _ => false
def chkAs (C : Cs) : IAs → List Expr → Bool
  | .nil, [] => true
  | .cons e as, x :: xs => chkE C e x && notStar x && chkAs C as xs
  | .tmp n as, x :: xs => chkN C n x && notStar x && chkAs C as xs
  | .lend i as, .Name x _ :: xs => nmOk C i x && chkAs C as xs
  | _, _ => false
def chkL (C : Cs) : IL → Expr → Bool
  | .new n, x => chkN C n x
  | .own i, x => (match x with | .Name y _ => nmOk C i y | _ => false)
  | .ref e, x => chkE C e x
def chkN (C : Cs) : IN → Expr → Bool
  | .disp es, e => (match e with | .List xs _ => chkEs C es xs | _ => false)
  | .comp ie t it io, e => (match e with
    | .ListComp elt [⟨tg, iter, ifs, a⟩] scope _ => C.calm && (a == 0 && chkI C it tg iter && notSet iter && (match ownOf t tg with
        | some own => blkC C.N { scope with names := C.names } scope own
        | none => false) &&
      chkTg { C with names := scope.names } t tg && chkE { C with names := scope.names } ie elt && chkIf { C with names := scope.names } io ifs)
    | _ => false)
  | .comp2 ie t it t1 it1 io, e => (match e with
    | .ListComp elt [⟨tg, iter, ifs, a⟩, ⟨tg1, iter1, ifs1, a1⟩] scope _ => C.calm && (a == 0 && a1 == 0 && ifs.isEmpty && chkI C it tg iter && notSet iter && notSet iter1 && (match ownOf t tg, ownOf t1 tg1 with
        | some own, some own1 => blkC C.N { scope with names := C.names } scope (own ++ own1)
        | _, _ => false) &&
      chkTg { C with names := scope.names } t tg && chkTg { C with names := scope.names } t1 tg1 && chkI { C with names := scope.names } it1 tg1 iter1 && chkE { C with names := scope.names } ie elt && chkIf { C with names := scope.names } io ifs1)
    | _ => false)
  | .copy l, e => (match e with | .Call (.Name f _) [x] [] _ => glOk C "list" f && chkL C l x && notStar x | _ => false)
  | .copyT a, e => (match e with | .Call (.Name f _) [x] [] _ => glOk C "list" f && chkE C a x && notStar x | _ => false)
  | .slc _ _ _, _ => false
def chkI (C : Cs) : II → Expr → Expr → Bool
  | .dyn a, _, e => chkE C a e
  | .new n, _, e => chkN C n e
  | .own i, _, e => (match e with | .Name y _ => nmOk C i y | _ => false)
  | .range a, _, e => (match e with | .Call (.Name f _) [x] [] _ => glOk C "range" f && chkE C a x && notStar x | _ => false)
  | .range2 a b, _, e => (match e with | .Call (.Name f _) [x, y] [] _ => glOk C "range" f && chkE C a x && chkE C b y && notStar x && notStar y | _ => false)
  | .zip a b, tg, e => (match tg, e with | .Tuple .., .Call (.Name f _) [x, y] [] _ => glOk C "zip" f && chkE C a x && chkE C b y && notStar x && notStar y | _, _ => false)
  | .enum a, tg, e => (match tg, e with | .Tuple .., .Call (.Name f _) [x] [] _ => glOk C "enumerate" f && chkE C a x && notStar x | _, _ => false)
  | .rev a, _, e => (match e with | .Call (.Name f _) [x] [] _ => glOk C "reversed" f && chkE C a x && notStar x | _ => false)
  | .revR a b, _, e => (match e with
    | .Call (.Name f _) [.Call (.Name g _) [x, y] [] _] [] _ => glOk C "reversed" f && glOk C "range" g && chkE C a x && chkE C b y && notStar x && notStar y
    | .Call (.Name f _) [.Call (.Name g _) [y] [] _] [] _ => glOk C "reversed" f && glOk C "range" g && (match a with | .cst (.int i) => i == 0 | _ => false) && chkE C b y && notStar y
    | _ => false)
def chkIf (C : Cs) : Option IT → List Expr → Bool
  | none, [] => true
  | some t, [x] => chkT C t x
  | _, _ => false
end
end
/-! ### what the check means -/
structure CxOk (X : Cx) (C : Cs) (F : FS) (RX : RXT) (W : WX) (k : Nat) : Prop where
  N : X.N = C.N
  nd : X.N.Nodup
  loc : ∀ x, C.names.lookup x = some .local → X.env.scope.names.lookup x = some .local
  cel : ∀ x, C.names.lookup x = some .cell → X.env.scope.names.lookup x = some .cell ∧ X.fn x = true
  fre : ∀ x, C.names.lookup x = some .free → X.env.scope.names.lookup x = some .cell ∨ X.env.scope.names.lookup x = some .free
  glo : ∀ x, C.names.lookup x = some .globalImplicit → X.env.scope.names.lookup x = some .globalImplicit
  calm : C.calm = true → X.calm = true
  hdl : C.calm = true → X.A.handled = none
  np : C.calm = true → ∀ a cl d, ¬ F.pin a cl d
  hot : C.calm = false → L2H.HotC X
  room : L2H.RoomH (k + 1) X.A
  mono : FMono F
  tk : L2N.Takes X W
  cal : C.calm = true → ∀ f fn, C.P[f]? = some fn → fn.cls = none → Callee X RX k fn.name (F f)
  calM : C.calm = true → ∀ f fn c, C.P[f]? = some fn → fn.cls = some c → CalleeM X RX k c fn.name (F f)
  calH : ∀ f fn, C.P[f]? = some fn → C.hot.contains f = true → fn.cls = none → CalleeH X RX k fn.name (F f)
  ins : ∀ c ∈ C.ics, InsOk X.K X.mg c
  blt : ∀ x, x ∈ bltNames → X.mg x = none
  gl : ∀ x d, C.gl.lookup x = some d → ∃ v u, X.mg x = some u ∧ RelV v u ∧ ∀ H, Rep X.K H d v
  pin : ∀ a cl d, F.pin a cl d → AtHand X a cl d
  rx : RX = RXK X.K
  xt : ∀ c ∈ C.xt, ClsOk X.prog X.K X.mg c
  rel : ∀ a b r, relOf C.rel a b = some r → RelOk X.K X.mg a b r
section
variable {X : Cx} {C : Cs} {F : FS} {RX : RXT} {W : WX} {k : Nat}
theorem CxOk.rm1 (o : CxOk X C F RX W k) (h : C.calm = true) : Room (k + 1) X.A := ⟨o.hdl h, o.room.dp, o.room.un⟩
theorem CxOk.rm (o : CxOk X C F RX W k) (h : C.calm = true) : Room k X.A := (o.rm1 h).mono (by omega)
theorem ic_of (o : CxOk X C F RX W k) {c f : String} (h : icB C c f = true) : ∃ t : ICls, t.name = c ∧ InsOk X.K X.mg t ∧ f ∈ t.fields := by
  obtain ⟨t, h1, h2⟩ := List.any_eq_true.mp h
  simp only [Bool.and_eq_true, beq_iff_eq, List.contains_iff_mem] at h2
  exact ⟨t, h2.1, o.ins t h1, h2.2⟩
theorem ic0_of (o : CxOk X C F RX W k) {c : String} (h : icB0 C c = true) : ∃ t : ICls, t.name = c ∧ InsOk X.K X.mg t := by
  obtain ⟨t, h1, h2⟩ := List.any_eq_true.mp h
  exact ⟨t, by simpa using h2, o.ins t h1⟩
theorem m_of (o : CxOk X C F RX W k) (hc : C.calm = true) {f : Nat} {c m : String} (h : mB C.P f c m = true) : CalleeM X RX k c m (F f) := by
  unfold mB at h
  split at h
  · rename_i fn e
    simp only [Bool.and_eq_true, beq_iff_eq] at h
    have := o.calM hc f fn c e h.1
    rwa [h.2] at this
  · cases h
theorem CxOk.hu (o : CxOk X C F RX W k) : X.A.units + 100 < cLine := by have := o.room.un; omega
theorem nm_of (o : CxOk X C F RX W k) {i : Nat} {x : Str} (h : nmOk C i x = true) : X.N[i]? = some x ∧ Vis X.env.scope x ∧ (x == ("__debug__" : Str)) = false ∧ (x == ("__classdict__" : Str)) = false := by
  unfold nmOk at h
  simp only [Bool.and_eq_true, Bool.not_eq_true', beq_iff_eq] at h
  obtain ⟨⟨⟨h1, h2⟩, h3⟩, h4⟩ := h
  refine ⟨by rw [o.N]; exact h1, ?_, h3, h4⟩
  unfold visK at h2
  split at h2
  · rename_i e; exact .inl (o.loc x e)
  · rename_i e; exact .inr (.inl (o.cel x e).1)
  · rename_i e
    rcases o.fre x e with z | z
    · exact .inr (.inl z)
    · exact .inr (.inr z)
  · cases h2
theorem lc_of (o : CxOk X C F RX W k) {i : Nat} {x : Str} (h : lcOk C i x = true) : X.N[i]? = some x ∧ Loc X.env.scope x ∧ (X.fn x = true ∨ X.env.scope.names.lookup x = some .local) := by
  unfold lcOk at h
  simp only [Bool.and_eq_true, beq_iff_eq] at h
  obtain ⟨h1, h2⟩ := h
  refine ⟨by rw [o.N]; exact h1, ?_⟩
  unfold locK at h2
  split at h2
  · rename_i e; exact ⟨.inl (o.loc x e), .inr (o.loc x e)⟩
  · rename_i e; exact ⟨.inr (o.cel x e).1, .inl (o.cel x e).2⟩
  · cases h2
theorem gl_of (o : CxOk X C F RX W k) {s : String} {x : Str} (h : glOk C s x = true) : x = (s : Str) ∧ Gl X x := by
  unfold glOk at h
  simp only [Bool.and_eq_true, beq_iff_eq] at h
  refine ⟨h.1, ?_⟩
  have h2 := h.2
  unfold gblK at h2
  split at h2
  · rename_i e; exact o.glo x e
  · cases h2
theorem star1 {e : Expr} {es : List Expr} {env : PySem.Env} (h : notStar e = true) : starEach (e :: es) env = (false, eval e env) :: starEach es env := by
  cases e <;> first | rfl | cases h
theorem slice_no {e : Expr} (h : notSlice e = true) : ∀ lo hi st p, e ≠ .Slice lo hi st p := by
  intro lo hi st p z; subst z; cases h
theorem set_no {e : Expr} (h : notSet e = true) (op : CmpOp) : behindInMarks op e = false := by
  cases e <;> first | rfl | cases h
theorem set_last {b c : Expr} (h : notSet c = true) (op op' : CmpOp) : lastMarks [op, op'] [b, c] = false := by
  show behindInMarks op' c = false
  exact set_no h op'
theorem set_fold {e : Expr} (h : notSet e = true) {env : PySem.Env} : ∀ x, foldedSetIterable e env x = pure x := by
  intro x; cases e <;> first | rfl | cases h
theorem plain_t {e : Expr} (h : plainT e = true) {env : PySem.Env} : ∀ whole, isTrue e env whole = (do let v ← whole; standAt e.pos; holding [v] (truthy v)) := by
  intro w; cases e <;> first | rfl | cases h
theorem bop_eq {o : BOp} {p : Operator} (h : o.beq p = true) : p = o.py := by
  unfold BOp.beq at h
  exact (beq_iff_eq.mp h).symm
theorem cop_eq {o : COp} {p : CmpOp} (h : o.beq p = true) : p = o.py := by
  unfold COp.beq at h
  exact (beq_iff_eq.mp h).symm
theorem and2 {a b : Bool} (h : (a && b) = true) : a = true ∧ b = true := by simpa using h
end
end DL
set_option maxHeartbeats 2000000
/-! The check is sound: expressions. -/
namespace DL
open PySem PySem.Spec PyProof.Rows L2 DLX DLM
section
variable {X : Cx} {C : Cs} {F : FS} {RX : RXT} {W : WX} {k : Nat}
/-! ### targets and blocks -/
def gOf (K : PySem.W.Frag) : Tg → TG
  | .nm i => gName i
  | .tp is => gTup K is.length (gNames is)
  | .np i is => gTup K 2 (gCons (gName i) (gCons (gTup K is.length (gNames is)) gNil))
theorem gs_of (o : CxOk X C F RX W k) : ∀ {is : List Nat} {es : List Expr}, chkTs C is es = true → PGs X es (gNames is) ∧ (assignEach es X.env).length = is.length ∧ (assignEach es X.env).findIdx? (·.1) = none
  | [], [], _ => ⟨pgs_nil, rfl, rfl⟩
  | [], _ :: _, h => by cases h
  | i :: is, [], h => by cases h
  | i :: is, e :: es, h => by
    cases e with
    | Name x p =>
      obtain ⟨h1, h2⟩ := and2 (show (lcOk C i x && chkTs C is es) = true from h)
      obtain ⟨g1, g2, g3⟩ := gs_of o h2
      obtain ⟨l1, l2, l3⟩ := lc_of o h1
      refine ⟨pgs_cons (pg_name o.nd l1 l2 l3) g1 rfl, ?_, ?_⟩
      · show (assignEach es X.env).length + 1 = _
        rw [g2]; rfl
      · show List.findIdx? (·.1) ((false, assign (.Name x p) X.env) :: assignEach es X.env) = none
        rw [List.findIdx?_cons, g3]; rfl
    | _ => cases h
theorem g_of (o : CxOk X C F RX W k) : ∀ {t : Tg} {tg : Expr}, chkTg C t tg = true → GOk X t tg (gOf X.K t)
  | .nm i, tg, h => by
    cases tg with
    | Name x p =>
      obtain ⟨l1, l2, l3⟩ := lc_of o (show lcOk C i x = true from h)
      exact g_nm o.nd l1 l2 l3
    | _ => cases h
  | .tp is, tg, h => by
    cases tg with
    | Tuple es kk p =>
      obtain ⟨hc, h⟩ := and2 (show (C.calm && chkTs C is es) = true from h)
      obtain ⟨g1, g2, g3⟩ := gs_of o h
      exact g_tp (o.calm hc) g1 g2 g3
    | _ => cases h
  | .np i is, tg, h => by
    unfold chkTg at h
    split at h
    · rename_i e; cases e
    · rename_i e; cases e
    · rename_i i' is' y py es k2 p2 k1 p1 e1
      cases e1
      obtain ⟨hc, h⟩ := and2 h
      obtain ⟨h1, h2⟩ := and2 h
      obtain ⟨l1, l2, l3⟩ := lc_of o h1
      obtain ⟨g1, g2, g3⟩ := gs_of o h2
      exact g_np (o.calm hc) (pg_name o.nd l1 l2 l3) g1 g2 g3
    · cases h
theorem own_slots : ∀ {t : Tg} {tg : Expr} {own : List (Str × Nat)}, ownOf t tg = some own → own.map (·.2) = t.slots
  | .nm i, tg, own, h => by
    cases tg with
    | Name x p => cases h; rfl
    | _ => cases h
  | .tp is, tg, own, h => by
    cases tg with
    | Tuple es kk p =>
      unfold ownOf at h
      simp only [Option.bind_eq_some_iff] at h
      obtain ⟨xs, _, h⟩ := h
      split at h
      · rename_i hl
        cases h
        rw [List.map_snd_zip]; rfl
        have : xs.length = is.length := by simpa using hl
        omega
      · cases h
    | _ => cases h
  | .np i is, tg, own, h => by
    unfold ownOf at h
    split at h
    · rename_i e; cases e
    · rename_i e; cases e
    · rename_i i' is' y py es k2 p2 k1 p1 e1
      cases e1
      simp only [Option.bind_eq_some_iff] at h
      obtain ⟨xs, _, h⟩ := h
      split at h
      · rename_i hl
        cases h
        rw [List.map_cons, List.map_snd_zip]; rfl
        have : xs.length = is.length := by simpa using hl
        omega
      · cases h
    · cases h
theorem rel_free {sc : Scope} : ∀ {names : List (Str × NameKind)} {x : Str}, names.lookup x = some .free →
    (names.map fun (n, k) => if (k == NameKind.free && sc.kind == .function && sc.names.lookup n == some .cell) then (n, NameKind.cell) else (n, k)).lookup x = some .cell ∨
    (names.map fun (n, k) => if (k == NameKind.free && sc.kind == .function && sc.names.lookup n == some .cell) then (n, NameKind.cell) else (n, k)).lookup x = some .free
  | [], x, h => by simp at h
  | (n, kd) :: r, x, h => by
    rw [List.lookup_cons] at h
    rw [List.map_cons]
    by_cases hx : (x == n) = true
    · rw [hx] at h
      simp only [Option.some.injEq] at h
      subst h
      have hx' : x = n := by simpa using hx
      subst hx'
      by_cases hc : (NameKind.free == NameKind.free && sc.kind == .function && sc.names.lookup x == some .cell) = true
      · left; simp only [hc, if_true]; rw [List.lookup_cons]; simp
      · right; simp only [hc]; rw [List.lookup_cons]; simp
    · have hx' : (x == n) = false := by simpa using hx
      rw [hx'] at h
      have ih := rel_free (sc := sc) (names := r) h
      have e1 : (if (kd == NameKind.free && sc.kind == .function && sc.names.lookup n == some .cell) = true then (n, NameKind.cell) else (n, kd)).1 = n := by split <;> rfl
      rw [List.lookup_cons, e1, hx']
      exact ih
theorem CxOk.blk (o : CxOk X C F RX W k) (hc : C.calm = true) {scope : Scope} (s : Shared) (H : Hp) (Ca : Addr) (cl : List (Str × Addr)) (fp : List Addr) :
    CxOk (X.blk s H scope (compEnvC scope cl Ca X.env) fp) { C with names := scope.names } F RX W0 k where
  N := o.N
  nd := o.nd
  loc := fun x h => lookup_relS_keep (sc := X.env.scope) (by decide) h
  cel := fun x h => ⟨lookup_relS_keep (sc := X.env.scope) (by decide) h, by show (scope.names.lookup x == some .cell) = true; rw [show scope.names.lookup x = some .cell from h]; rfl⟩
  fre := fun x h => rel_free (sc := X.env.scope) h
  glo := fun x h => lookup_relS_keep (sc := X.env.scope) (by decide) h
  calm := fun _ => o.calm hc
  hdl := fun _ => o.hdl hc
  np := fun _ => o.np hc
  hot := fun h => absurd (hc.symm.trans h) (by decide)
  room := o.room
  mono := o.mono
  tk := fun _ _ x => by
    obtain ⟨_, _, _, _, _, _, _, _, _, _, _, _, _, _, _, _, z⟩ := x
    exact z.elim
  cal := fun _ f fn h h2 => o.cal hc f fn h h2
  calM := fun _ f fn c h h2 => o.calM hc f fn c h h2
  calH := fun f fn h h2 h3 => o.calH f fn h h2 h3
  ins := o.ins
  blt := o.blt
  gl := o.gl
  pin := fun a cl d z => absurd z (o.np hc a cl d)
  rx := o.rx
  xt := o.xt
  rel := o.rel
theorem blk_of (o : CxOk X C F RX W k) {scope : Scope} {own : List (Str × Nat)} (h : blkC C.N { scope with names := C.names } scope own = true) : BlkOk X.N X.env.scope scope own := by
  have b := blkOk_by h
  refine ⟨b.kind, b.uniq, fun p hp => by rw [o.N]; exact b.ix p hp, fun y hy hf => ?_, fun y hy hl => by rw [o.N]; exact b.own y hy hl⟩
  rcases b.free y hy hf with z | z
  · exact .inl (o.cel _ z).1
  · exact o.fre _ z
/-! ### built-ins -/
theorem boot_of : (∀ b : Blt, bootBuiltins (b.nm : Str) = some b.fn) ∧ (∀ l : LK, bootBuiltins (l.nm : Str) = some l.fn) ∧ (∀ t : Ty, bootBuiltins (t.nm : Str) = some (.type t.nm)) := by
  refine ⟨fun b => ?_, fun l => ?_, fun t => ?_⟩
  · cases b <;> first | decide +kernel | (rename_i t; cases t <;> decide +kernel)
  · cases l <;> decide +kernel
  · cases t <;> decide +kernel
theorem nm_facts : (∀ b : Blt, (b.nm : Str) ∈ bltNames ∧ (b.nm : Str) ≠ "__name__" ∧ ((b.nm : Str) == ("__debug__" : Str)) = false) ∧ (∀ b : LK, (b.nm : Str) ∈ bltNames ∧ (b.nm : Str) ≠ "__name__" ∧ ((b.nm : Str) == ("__debug__" : Str)) = false) ∧
    (∀ b : Ty, (b.nm : Str) ∈ bltNames ∧ (b.nm : Str) ≠ "__name__" ∧ ((b.nm : Str) == ("__debug__" : Str)) = false) := by
  refine ⟨fun b => ?_, fun l => ?_, fun t => ?_⟩
  · cases b <;> first | decide +kernel | (rename_i t; cases t <;> decide +kernel)
  · cases l <;> decide +kernel
  · cases t <;> decide +kernel
theorem blt_call {b : Blt} (hb : ∀ t, b ≠ .isa t) (o : CxOk X C F RX W k) (hcal : (C.calm || b.hotOk) = true) {f : Str} {p pos : Pos} {e : Expr} {es : List Expr} {ies : IEs} (hg : glOk C b.nm f = true) (ha : PA X (e :: es) (liftA X.K RX W (wEs F ies)))
    (he : starEach (e :: es) X.env = (false, eval e X.env) :: starEach es X.env) (hpl : (backTo pos (starEach es X.env)).any (·.1) = false) : PE X (.Call (.Name f p) (e :: es) [] pos) (liftE X.K RX W (wE F (.blt b ies))) := by
  obtain ⟨rfl, g⟩ := gl_of o hg
  obtain ⟨n1, n2, n3⟩ := nm_facts.1 b
  have hc := call_blt (X := X) o.hu b (fun z => o.calm (by rw [z, Bool.or_false] at hcal; exact hcal)) hb
  have hbt := boot_of.1 b
  have hm := o.blt _ n1
  have fin : ∀ {t : TE} {e : Expr}, PE X e t → (∀ σ H Q, liftA X.K RX W (wEs F ies) σ H (fun vs H1 => rBlt X.K b vs H1 Q) → t σ H Q) → PE X e (liftE X.K RX W (wE F (.blt b ies))) := fun h ht => je_blt o.mono b h ht
  cases b with
  | isa t => exact absurd rfl (hb t)
  | int => exact fin (pe_callTy hc g hm hbt ha n2 n3 he hpl) fun _ _ _ h => h
  | bool => exact fin (pe_callTy hc g hm hbt ha n2 n3 he hpl) fun _ _ _ h => h
  | tuple => exact fin (pe_callTy hc g hm hbt ha n2 n3 he hpl) fun _ _ _ h => h
  | str => exact fin (pe_callTy hc g hm hbt ha n2 n3 he hpl) fun _ _ _ h => h
  | len => exact fin (pe_callB hc g hm hbt ha n2 n3 he hpl) fun _ _ _ h => h
  | abs => exact fin (pe_callB hc g hm hbt ha n2 n3 he hpl) fun _ _ _ h => h
  | max => exact fin (pe_callB hc g hm hbt ha n2 n3 he hpl) fun _ _ _ h => h
  | min => exact fin (pe_callB hc g hm hbt ha n2 n3 he hpl) fun _ _ _ h => h
theorem isa_call {t : Ty} (o : CxOk X C F RX W k) {f g : Str} {p p2 pos : Pos} {e : Expr} {ie : IE} (hg : glOk C "isinstance" f = true) (hg2 : glOk C t.nm g = true) (ha : PE X e (liftE X.K RX W (wE F ie))) (hs : notStar e = true) :
    PE X (.Call (.Name f p) [e, .Name g p2] [] pos) (liftE X.K RX W (wE F (.blt (.isa t) (.cons ie .nil)))) := by
  obtain ⟨rfl, g1⟩ := gl_of o hg
  obtain ⟨rfl, g2⟩ := gl_of o hg2
  obtain ⟨n1, n2, n3⟩ := nm_facts.2.2 t
  have hm2 := o.blt _ n1
  obtain ⟨m1, m2, m3⟩ := nm_facts.1 (.isa t)
  have hm := o.blt _ m1
  have h2 : PE X (.Name (t.nm : Str) p2) (tC (.ty t.nm)) := pe_bltn g2 hm2 (boot_of.2.2 t) rfl n2 n3
  refine PE.imp (pe_callB (call_isinst t) g1 hm (boot_of.1 (.isa t)) (pa_cons ha (pa_cons h2 pa_nil rfl) (star1 hs)) m2 m3 (star1 hs) rfl) fun σ H Q ⟨env, M, s, h⟩ => ?_
  refine ⟨env, M, s, wE_mono o.mono ie (fun d M1 q v H1 x1 s1 r1 => ?_) (fun _ _ q => q) h⟩
  exact ⟨v, d, M1, rfl, s1.mem, r1, wBlt_mono (fun z q u r => (q.go x1).at s1 r) q⟩
theorem lk_call {l : LK} (o : CxOk X C F RX W k) (hcal : (C.calm || l.hotOk) = true) {f : Str} {p pos : Pos} {e : Expr} {il : IL} (hg : glOk C l.nm f = true) (ha : PE X e (liftL X.K RX W (wL F il))) (hs : notStar e = true) :
    PE X (.Call (.Name f p) [e] [] pos) (liftE X.K RX W (wE F (.lk l il))) := by
  obtain ⟨rfl, g⟩ := gl_of o hg
  obtain ⟨n1, n2, n3⟩ := nm_facts.2.1 l
  have hc := call_lk (X := X) l (fun z => o.calm (by rw [z, Bool.or_false] at hcal; exact hcal))
  have hbt := boot_of.2.1 l
  have hm := o.blt _ n1
  have hp := pa_cons ha pa_nil (star1 (env := X.env) hs)
  have he := star1 (es := []) (env := X.env) hs
  have fin : ∀ {t : TE}, PE X (.Call (.Name (l.nm : Str) p) [e] [] pos) t → (∀ σ H Q, (liftL X.K RX W (wL F il) σ H fun x H1 => rLK X.K l [x] H1 Q) → t σ H Q) → PE X (.Call (.Name (l.nm : Str) p) [e] [] pos) (liftE X.K RX W (wE F (.lk l il))) := fun h ht => je_lk (e' := e) o.mono l h ht
  cases l with
  | tuple => exact fin (pe_callTy hc g hm hbt hp n2 n3 he rfl) fun _ _ _ h => h
  | all => exact fin (pe_callB hc g hm hbt hp n2 n3 he rfl) fun _ _ _ h => h
  | any => exact fin (pe_callB hc g hm hbt hp n2 n3 he rfl) fun _ _ _ h => h
  | len => exact fin (pe_callB hc g hm hbt hp n2 n3 he rfl) fun _ _ _ h => h
  | sum => exact fin (pe_callB hc g hm hbt hp n2 n3 he rfl) fun _ _ _ h => h
  | max => exact fin (pe_callB hc g hm hbt hp n2 n3 he rfl) fun _ _ _ h => h
  | min => exact fin (pe_callB hc g hm hbt hp n2 n3 he rfl) fun _ _ _ h => h
theorem srt_call (o : CxOk X C F RX W k) {f : Str} {p pos : Pos} {e : Expr} {il : IL} (hg : glOk C "sorted" f = true) (ha : PE X e (liftL X.K RX W (wL F il))) (hs : notStar e = true) :
    PE X (.Call (.Name f p) [e] [] pos) (liftE X.K RX W (wE F (.sorted il))) := by
  obtain ⟨rfl, g⟩ := gl_of o hg
  have hm := o.blt _ (show ("sorted" : Str) ∈ bltNames by decide +kernel)
  have hp := pa_cons ha pa_nil (star1 (env := X.env) hs)
  have he := star1 (es := []) (env := X.env) hs
  exact je_sorted o.mono (pe_callB (call_srt (X := X) o.hu) g hm PyProof.Rows.boot_sorted hp (by decide +kernel) (by decide +kernel) he rfl) fun _ _ _ h => h
theorem stars_es : ∀ {es : IEs} {xs : List Expr}, chkEs C es xs = true → xs.all notStar = true
  | .nil, [], _ => rfl
  | .nil, _ :: _, h => by simp [chkEs] at h
  | .cons _ _, [], h => by simp [chkEs] at h
  | .cons e es, x :: xs, h => by
    simp only [chkEs, Bool.and_eq_true] at h
    rw [List.all_cons, h.1.2, stars_es h.2]; rfl
theorem stars_as : ∀ {es : IAs} {xs : List Expr}, chkAs C es xs = true → xs.all notStar = true
  | .nil, [], _ => rfl
  | .nil, _ :: _, h => by simp [chkAs] at h
  | .cons _ _, [], h => by simp [chkAs] at h
  | .tmp _ _, [], h => by simp [chkAs] at h
  | .lend _ _, [], h => by simp [chkAs] at h
  | .cons e es, x :: xs, h => by
    simp only [chkAs, Bool.and_eq_true] at h
    rw [List.all_cons, h.1.2, stars_as h.2]; rfl
  | .tmp e es, x :: xs, h => by
    simp only [chkAs, Bool.and_eq_true] at h
    rw [List.all_cons, h.1.2, stars_as h.2]; rfl
  | .lend i es, x :: xs, h => by
    cases x <;> simp only [chkAs, Bool.and_eq_true] at h <;> first | cases h; done | skip
    rw [List.all_cons, stars_as h.2]; rfl
theorem stars_any {env : PySem.Env} {pos : Pos} : ∀ {xs : List Expr}, xs.all notStar = true → (backTo pos (starEach xs env)).any (·.1) = false
  | [], _ => rfl
  | x :: xs, h => by
    have h' : notStar x = true ∧ xs.all notStar = true := by simpa using h
    rw [star1 h'.1]
    have ih := stars_any (env := env) (pos := pos) h'.2
    show ((backTo pos [(false, eval x env)]).any (·.1) || (backTo pos (starEach xs env)).any (·.1)) = false
    rw [ih]; rfl
/-! ### classes of errors -/
theorem ask_uniq {mg : Str → Option Value} {b : String} {u w : Value} (h1 : mg (b : Str) = some u ∨ (mg (b : Str) = none ∧ bootBuiltins (b : Str) = some u ∧ (b : Str) ≠ "__name__")) (h2 : mg (b : Str) = some w ∨ (mg (b : Str) = none ∧ bootBuiltins (b : Str) = some w ∧ (b : Str) ≠ "__name__")) : u = w := by
  rcases h1 with h1 | ⟨h1, g1, _⟩ <;> rcases h2 with h2 | ⟨h2, g2, _⟩ <;> simp_all
theorem asks_get {K : PySem.W.Frag} {mg : Str → Option Value} : ∀ {cs : List String} {vs : List V} {us : List Value}, Asks K mg cs vs us → ∀ (i : Nat) u, us[i]? = some u → ∃ c, cs[i]? = some c ∧ (mg (c : Str) = some u ∨ (mg (c : Str) = none ∧ bootBuiltins (c : Str) = some u ∧ (c : Str) ≠ "__name__"))
  | _, _, _, .nil, i, u, h => by simp at h
  | _, _, _, .cons h _ r, 0, u, e => by simp at e; subst e; exact ⟨_, rfl, h⟩
  | _, _, _, .cons _ _ r, i + 1, u, e => by simpa using asks_get r i u (by simpa using e)
theorem asks_mk (o : CxOk X C F RX W k) {n : String} : ∀ {cs : List String}, (∀ c ∈ cs, ∃ r, relOf C.rel n c = some r) → ∃ vs us, Asks X.K X.mg cs vs us
  | [], _ => ⟨[], [], .nil⟩
  | c :: cs, h => by
    obtain ⟨r, hr⟩ := h c List.mem_cons_self
    obtain ⟨Ca, vb, _, h2, ⟨v, h3⟩, _⟩ := (o.rel n c r hr).ex
    obtain ⟨vs, us, ih⟩ := asks_mk o (n := n) (cs := cs) fun c' hc => h c' (List.mem_cons_of_mem _ hc)
    exact ⟨v :: vs, vb :: us, .cons h2 h3 ih⟩
theorem rel_asks (o : CxOk X C F RX W k) {cs yes no : List String} (h : relB C cs yes no = true) : ∃ vs us, Asks X.K X.mg cs vs us ∧
    ∀ n C', (yes ++ no).contains n = true → PySem.W.nsIn X.K mainGlobals (n : Str) = some (some (.ref C')) → PySem.W.kitAny X.K (.ref C') us = some (yes.contains n) := by
  unfold relB at h
  simp only [Bool.and_eq_true, List.all_eq_true, Bool.not_eq_true'] at h
  obtain ⟨⟨h0, hy⟩, hn⟩ := h
  have some_of : ∀ n ∈ yes ++ no, ∀ c ∈ cs, ∃ r, relOf C.rel n c = some r := fun n hm c hc => by
    rcases List.mem_append.mp hm with z | z
    · exact Option.isSome_iff_exists.mp ((hy n z).1 c hc)
    · exact ⟨false, by simpa using hn n z c hc⟩
  obtain ⟨n0, hn0⟩ : ∃ n0, n0 ∈ yes ++ no := by
    cases e : yes ++ no with
    | nil => rw [e] at h0; cases h0
    | cons a l => exact ⟨a, List.mem_cons_self⟩
  obtain ⟨vs, us, ask⟩ := asks_mk o (some_of n0 hn0)
  refine ⟨vs, us, ask, fun n C' hc hC => ?_⟩
  have hm : n ∈ yes ++ no := by simpa using hc
  rw [kitAny_all (rs := cs.map fun c => (relOf C.rel n c).getD false) (by rw [List.length_map, (asks_len ask).2]) fun i u hu => ?_]
  · congr 1
    by_cases hyn : n ∈ yes
    · have : yes.contains n = true := by simpa using hyn
      rw [this, List.any_map, List.any_eq_true]
      obtain ⟨c, hcm, e⟩ := List.any_eq_true.mp (hy n hyn).2
      exact ⟨c, hcm, by simp [beq_iff_eq.mp e]⟩
    · have hnn : n ∈ no := (List.mem_append.mp hm).resolve_left hyn
      have : yes.contains n = false := by simpa using hyn
      rw [this, List.any_map, List.any_eq_false]
      intro c hcm
      have e : relOf C.rel n c = some false := by simpa using hn n hnn c hcm
      simp [e]
  · obtain ⟨c, hci, hcu⟩ := asks_get ask i u hu
    obtain ⟨r, hr⟩ := some_of n hm c (List.mem_of_getElem? hci)
    obtain ⟨Ca, vb, k1, k2, _, _, k5⟩ := (o.rel n c r hr).ex
    rw [hC] at k1
    cases k1
    rw [ask_uniq hcu k2]
    exact ⟨r, by rw [List.getElem?_map, hci, Option.map_some, hr]; rfl, k5⟩
theorem isa_ats (o : CxOk X C F RX W k) : ∀ {cs : List String} {es : List Expr}, chkNs C cs es = true → IsaAts X cs es
  | [], [], _ => trivial
  | [], _ :: _, h => by simp [chkNs] at h
  | _ :: _, [], h => by simp [chkNs] at h
  | c :: cs, e :: es, h => by
    cases e with
    | Name y p =>
      simp only [chkNs, Bool.and_eq_true] at h
      obtain ⟨⟨h1, h2⟩, h3⟩ := h
      obtain ⟨hy, g⟩ := gl_of o h1
      exact ⟨⟨g, hy, by simpa [sDebug] using h2⟩, isa_ats o h3⟩
    | _ => simp [chkNs] at h
end
/-! ### the theorem -/
section
variable {F : FS} {RX : RXT} {k : Nat}
mutual
theorem sE : ∀ (ie : IE) {X : Cx} {C : Cs} {W : WX} {e : Expr}, CxOk X C F RX W k → chkE C ie e = true → PE X e (liftE X.K RX W (wE F ie))
  | .var i, X, C, W, e, o, h => by
    unfold chkE at h
    split at h
    · obtain ⟨h1, h2, h3, h4⟩ := nm_of o h
      exact je_var h1 h2 h3 h4
    · cases h
  | .cst d, X, C, W, e, o, h => by
    unfold chkE at h
    split at h
    · rw [beq_iff_eq.mp h]; exact je_int
    · rw [beq_iff_eq.mp h]; exact je_bl
    · rw [beq_iff_eq.mp h]; exact je_str
    · exact je_non
    · cases h
  | .glb y d, X, C, W, e, o, h => by
    unfold chkE at h
    split at h
    · obtain ⟨h1, h3⟩ := and2 h
      obtain ⟨h1, h2⟩ := and2 h1
      obtain ⟨rfl, g⟩ := gl_of o h1
      split at h3
      · rename_i d' e
        rw [D.beq_eq h3]
        obtain ⟨v, u, g1, g2, g3⟩ := o.gl y d' e
        exact je_glb g g1 g2 g3 (by simpa [sDebug] using h2)
      · cases h3
    · cases h
  | .bin op a b, X, C, W, e, o, h => by
    unfold chkE at h
    split at h
    · obtain ⟨h1, h3⟩ := and2 h
      obtain ⟨h1, h2⟩ := and2 h1
      rw [bop_eq h1]
      exact je_bin o.mono (sE a o h2) (sE b o h3)
    · cases h
  | .cat a b, X, C, W, e, o, h => by
    unfold chkE at h
    split at h
    · obtain ⟨h2, h3⟩ := and2 h
      exact je_cat o.mono (sE a o h2) (sE b o h3)
    · cases h
  | .repL a b, X, C, W, e, o, h => by
    unfold chkE at h
    split at h
    · obtain ⟨h2, h3⟩ := and2 h
      exact je_repL o.mono (sE a o h2) (sE b o h3)
    · cases h
  | .neg a, X, C, W, e, o, h => by
    unfold chkE at h
    split at h
    · exact je_neg o.mono (sE a o h)
    · cases h
  | .inv a, X, C, W, e, o, h => by
    unfold chkE at h
    split at h
    · exact je_inv o.mono (sE a o h)
    · cases h
  | .cmp op a b, X, C, W, e, o, h => by
    unfold chkE at h
    split at h
    · obtain ⟨h1, h4⟩ := and2 h
      obtain ⟨h1, h3⟩ := and2 h1
      obtain ⟨h1, h2⟩ := and2 h1
      rw [cop_eq h1]
      exact je_cmp o.mono o.hu (sE a o h2) (sE b o h3) (set_no h4 _)
    · cases h
  | .chn op op' a b c, X, C, W, e, o, h => by
    unfold chkE at h
    split at h
    · obtain ⟨h1, h6⟩ := and2 h
      obtain ⟨h1, h5⟩ := and2 h1
      obtain ⟨h1, h4⟩ := and2 h1
      obtain ⟨h1, h3⟩ := and2 h1
      obtain ⟨h1, h2⟩ := and2 h1
      rw [cop_eq h1, cop_eq h2]
      exact je_chn o.mono o.hu (sE a o h3) (sE b o h4) (sE c o h5) (set_last h6 _ _)
    · cases h
  | .and a b, X, C, W, e, o, h => by
    unfold chkE at h
    split at h
    · obtain ⟨h1, h2⟩ := and2 h
      exact je_and o.mono (sE a o h1) (je_one (sE b o h2))
    · obtain ⟨h1, h2⟩ := and2 h
      exact je_and o.mono (sE a o h1) (sE b o h2)
    · cases h
  | .or a b, X, C, W, e, o, h => by
    unfold chkE at h
    split at h
    · obtain ⟨h1, h2⟩ := and2 h
      exact je_or o.mono (sE a o h1) (je_one (sE b o h2))
    · obtain ⟨h1, h2⟩ := and2 h
      exact je_or o.mono (sE a o h1) (sE b o h2)
    · cases h
  | .not a, X, C, W, e, o, h => by
    unfold chkE at h
    split at h
    · exact je_not o.mono (sE a o h)
    · cases h
  | .ifx c a b, X, C, W, e, o, h => by
    unfold chkE at h
    split at h
    · obtain ⟨h1, h3⟩ := and2 h
      obtain ⟨h1, h2⟩ := and2 h1
      exact je_ifx o.mono (sT c o h1) (sE a o h2) (sE b o h3)
    · cases h
  | .tup es, X, C, W, e, o, h => by
    unfold chkE at h
    split at h
    · exact je_tup o.mono (sEs es o h)
    · cases h
  | .idx a i, X, C, W, e, o, h => by
    unfold chkE at h
    split at h
    · obtain ⟨h1, h3⟩ := and2 h
      obtain ⟨h1, h2⟩ := and2 h1
      exact je_idx o.mono (sE a o h1) (sE i o h2) (plain_ix (slice_no h3))
    · cases h
  | .slc a lo hi, X, C, W, e, o, h => by
    unfold chkE at h
    split at h
    · obtain ⟨h1, h3⟩ := and2 h
      obtain ⟨h1, h2⟩ := and2 h1
      exact je_slc o.mono (sE a o h1) (sO lo o h2) (sO hi o h3)
    · cases h
  | .rev a, X, C, W, e, o, h => by
    unfold chkE at h
    split at h
    · obtain ⟨h1, h2⟩ := and2 h
      rw [beq_iff_eq] at h1
      subst h1
      exact je_rev o.mono (sE a o h2)
    · cases h
  | .revL a, X, C, W, e, o, h => by
    unfold chkE at h
    split at h
    · obtain ⟨h1, h2⟩ := and2 h
      rw [beq_iff_eq] at h1
      subst h1
      exact je_revL o.mono (sE a o h2)
    · cases h
  | .rev0 a, X, C, W, e, o, h => by
    unfold chkE at h
    split at h
    · obtain ⟨h1, h2⟩ := and2 h
      obtain ⟨g0, g1⟩ := and2 h1
      rw [beq_iff_eq] at g0 g1
      subst g0; subst g1
      exact je_rev0 o.mono (sE a o h2)
    · cases h
  | .tupRev l, X, C, W, e, o, h => by
    unfold chkE at h
    have hcal := (and2 h).1
    replace h := (and2 h).2
    split at h
    · obtain ⟨h1, h4⟩ := and2 h
      obtain ⟨h1, h3⟩ := and2 h1
      obtain ⟨h1, h2⟩ := and2 h1
      obtain ⟨rfl, g⟩ := gl_of o h1
      obtain ⟨rfl, g2⟩ := gl_of o h2
      exact je_tupRev o.mono (o.calm hcal) g (o.blt _ (by decide +kernel)) g2 (o.blt _ (by decide +kernel)) (sL l o h3) (star1 h4)
    · cases h
  | .tupRevT l, X, C, W, e, o, h => by
    unfold chkE at h
    have hcal := (and2 h).1
    replace h := (and2 h).2
    split at h
    · obtain ⟨h1, h4⟩ := and2 h
      obtain ⟨h1, h3⟩ := and2 h1
      obtain ⟨h1, h2⟩ := and2 h1
      obtain ⟨rfl, g⟩ := gl_of o h1
      obtain ⟨rfl, g2⟩ := gl_of o h2
      exact je_tupRevT o.mono (o.calm hcal) g (o.blt _ (by decide +kernel)) g2 (o.blt _ (by decide +kernel)) (sE l o h3) (star1 h4)
    · cases h
  | .sorted il, X, C, W, e, o, h => by
    unfold chkE at h
    split at h
    · obtain ⟨h1, h3⟩ := and2 h
      obtain ⟨h1, h2⟩ := and2 h1
      exact srt_call o h1 (sL il o h2) h3
    · cases h
  | .sortK il, X, C, W, e, o, h => by
    unfold chkE at h
    have hcal := (and2 h).1
    replace h := (and2 h).2
    split at h
    · rename_i f p x nm ap cp pos
      obtain ⟨h, h5⟩ := and2 h
      obtain ⟨h, h4⟩ := and2 h
      obtain ⟨h, h3⟩ := and2 h
      obtain ⟨h1, h2⟩ := and2 h
      obtain ⟨rfl, g⟩ := gl_of o h1
      rw [beq_iff_eq] at h2
      subst h2
      exact je_sortK o.mono o.hu (o.calm hcal) g (o.blt _ (by decide +kernel)) (sE il o h3) (by cases x <;> first | rfl | cases h4) h5 (star1 rfl)
    · cases h
  | .meth m a es, X, C, W, e, o, h => by
    unfold chkE at h
    split at h
    · rename_i x nm ap ys cp
      obtain ⟨h1, h5⟩ := and2 h
      obtain ⟨h1, h4⟩ := and2 h1
      obtain ⟨h1, h3⟩ := and2 h1
      obtain ⟨h1, h2⟩ := and2 h1
      rw [beq_iff_eq] at h1
      subst h1
      have hb : attributeBase x (m.py : Str) X.env (eval x X.env) = eval x X.env := by cases x <;> first | rfl | cases h3
      match ys, h5 with
      | [], h5 =>
        obtain ⟨h6, h7⟩ := and2 h5
        have he : es = .nil := by cases es <;> first | rfl | cases h7
        subst he
        refine je_meth0 o.mono ?_ (sE a o h2) hb h4
        cases m <;> first | exact .inl rfl | exact .inr rfl | cases h6
      | y :: r, h5 =>
        obtain ⟨h5, h8⟩ := and2 h5
        obtain ⟨h6, h7⟩ := and2 h5
        have hn : m ≠ .pop ∧ m ≠ .reverse := ⟨fun z => (by subst z; cases h6), fun z => (by subst z; cases h6)⟩
        have hst : ∀ {ies : IEs} {zs : List Expr}, chkEs C ies zs = true → ∀ z ∈ zs, notStar z = true := by
          intro ies zs hz
          induction zs generalizing ies with
          | nil => intro z hz'; cases hz'
          | cons w t ih =>
            intro z hz'
            cases ies with
            | nil => simp [chkEs] at hz
            | cons e' es' =>
              have hz2 : (chkE C e' w = true ∧ notStar w = true) ∧ chkEs C es' t = true := by simpa [chkEs] using hz
              rcases List.mem_cons.mp hz' with q | q
              · rw [q]; exact hz2.1.2
              · exact ih hz2.2 z q
        have sy : starEach (y :: r) X.env = (false, eval y X.env) :: starEach r X.env := star1 (hst h7 y List.mem_cons_self)
        match r, h7, h8, sy with
        | [], h7, _, sy => exact je_methN o.mono hn (sE a o h2) (sEs es o h7) hb h4 (by rw [sy]; rfl) sy (by rfl)
        | [b], h7, _, sy =>
          have sb : starEach [b] X.env = (false, eval b X.env) :: starEach [] X.env := star1 (hst h7 b (by simp))
          exact je_methN o.mono hn (sE a o h2) (sEs es o h7) hb h4 (by rw [sy, sb]; rfl) sy (by rw [sb]; rfl)
        | _ :: _ :: _, _, h8, _ => cases h8
    · cases h
  | .dead, X, C, W, e, o, h => je_dead
  | .blt b es, X, C, W, e, o, h => by
    unfold chkE at h
    split at h
    · rename_i f p xs pos
      obtain ⟨h1, h2⟩ := and2 h
      cases b with
      | isa t =>
        simp only at h2
        split at h2
        · rename_i x g p2
          obtain ⟨h2, h4⟩ := and2 h2
          obtain ⟨h2, h3⟩ := and2 h2
          cases es with
          | nil => simp [chkEs] at h2
          | cons ie es =>
            cases es with
            | cons _ _ => simp [chkEs] at h2
            | nil =>
              simp only [chkEs, Bool.and_eq_true] at h2
              exact isa_call o h1 h3 (sE ie o h2.1.1) h4
        · cases h2
      | _ =>
        obtain ⟨hcal, h2⟩ := and2 h2
        obtain ⟨h2, h3⟩ := and2 h2
        cases xs with
        | nil => simp at h3
        | cons x xs =>
          have st := stars_es h2
          have st' : notStar x = true ∧ xs.all notStar = true := by simpa using st
          exact blt_call (by intro t z; cases z) o hcal h1 (sEs es o h2) (star1 st'.1) (stars_any st'.2)
    · cases h
  | .lk l il, X, C, W, e, o, h => by
    unfold chkE at h
    have hcal := (and2 h).1
    replace h := (and2 h).2
    split at h
    · obtain ⟨h1, h3⟩ := and2 h
      obtain ⟨h1, h2⟩ := and2 h1
      exact lk_call o hcal h1 (sL il o h2) h3
    · cases h
  | .lidx (.own j) i, X, C, W, e, o, h => by
    unfold chkE at h
    split at h
    · rename_i x y pos
      cases x with
      | Name z p =>
        simp only at h
        obtain ⟨h1, h3⟩ := and2 h
        obtain ⟨h1, h2⟩ := and2 h1
        obtain ⟨n1, n2, n3, n4⟩ := nm_of o h1
        exact je_lidxO o.mono n1 n2 n3 n4 (sE i o h2) (plain_ix (slice_no h3))
      | _ => cases h
    · cases h
  | .lidx (.new n) i, X, C, W, e, o, h => by
    unfold chkE at h
    split at h
    · rename_i x y pos
      simp only at h
      obtain ⟨h1, h3⟩ := and2 h
      obtain ⟨h1, h2⟩ := and2 h1
      exact je_lidxN o.mono (sN n o h1) (sE i o h2) (plain_ix (slice_no h3))
    · cases h
  | .lidx (.ref r) i, X, C, W, e, o, h => by
    unfold chkE at h
    split at h
    · cases h
    · cases h
  | .linn n a l, X, C, W, e, o, h => by
    unfold chkE at h
    split at h
    · obtain ⟨h1, h4⟩ := and2 h
      obtain ⟨h1, h3⟩ := and2 h1
      obtain ⟨h1, h2⟩ := and2 h1
      rw [beq_iff_eq.mp h1]
      exact je_linn o.mono n o.hu (sE a o h2) (sL l o h3) (set_no h4 _)
    · cases h
  | .mk n, X, C, W, e, o, h => je_mk o.mono (sN n o (by unfold chkE at h; exact h))
  | .maxd mn l i, X, C, W, e, o, h => by
    unfold chkE at h
    have hcal := (and2 h).1
    replace h := (and2 h).2
    split at h
    · obtain ⟨h1, h6⟩ := and2 h
      obtain ⟨h1, h5⟩ := and2 h1
      obtain ⟨h1, h4⟩ := and2 h1
      obtain ⟨h1, h3⟩ := and2 h1
      obtain ⟨h1, h2⟩ := and2 h1
      obtain ⟨rfl, g⟩ := gl_of o h2
      rw [beq_iff_eq] at h5 h6
      subst h5 h6
      cases mn with
      | true => cases h1
      | false => exact je_maxd o.mono o.hu (o.calm hcal) g (o.blt _ (by decide +kernel)) (sL l o h3) (star1 h4)
    · cases h
  | .dnew, X, C, W, e, o, h => by
    unfold chkE at h
    split at h
    · exact je_dnew
    · cases h
  | .ddisp k v, X, C, W, e, o, h => by
    unfold chkE at h
    split at h
    · obtain ⟨h1, h2⟩ := and2 h
      exact je_ddisp o.mono o.hu (sE k o h1) (sE v o h2)
    · cases h
  | .srtSet ie t it t1 it1, X, C, W, e, o, h => by
    unfold chkE at h
    split at h
    · rename_i f fp elt tg iter ifs a tg1 iter1 ifs1 a1 scope spos pos
      obtain ⟨hgl, h⟩ := and2 h
      obtain ⟨hcal, h⟩ := and2 h
      obtain ⟨h1, h11⟩ := and2 h
      obtain ⟨h1, h10⟩ := and2 h1
      obtain ⟨h1, h9⟩ := and2 h1
      obtain ⟨h1, h8⟩ := and2 h1
      obtain ⟨h1, h7⟩ := and2 h1
      obtain ⟨h1, h6⟩ := and2 h1
      obtain ⟨h1, h5⟩ := and2 h1
      obtain ⟨h1, h4⟩ := and2 h1
      obtain ⟨h1, h3b⟩ := and2 h1
      obtain ⟨h1, h3⟩ := and2 h1
      obtain ⟨h1, h2⟩ := and2 h1
      have ha : a = 0 := by simpa using h1
      have ha1 : a1 = 0 := by simpa using h2
      subst ha; subst ha1
      have hf : ifs = [] := by simpa using h3
      subst hf
      have hf : ifs1 = [] := by simpa using h3b
      subst hf
      split at h7
      · rename_i own own1 ho ho1
        have hi := sI it o h4
        have hown : (own ++ own1).map (·.2) = t.slots ++ t1.slots := by rw [List.map_append, own_slots ho, own_slots ho1]
        obtain ⟨rfl, g⟩ := gl_of o hgl
        have hm := o.blt _ (show ("sorted" : Str) ∈ bltNames by decide +kernel)
        exact je_srtSet (g := gOf X.K t) (g1 := gOf X.K t1) o.mono (o.calm hcal) o.nd g hm hi (blk_of o h7) hown (fun s H Ca cl fp => g_of (o.blk hcal (scope := scope) s H Ca cl fp) h8) (fun s H Ca cl fp => g_of (o.blk hcal (scope := scope) s H Ca cl fp) h9)
          (fun s H Ca cl fp => sI it1 (o.blk hcal (scope := scope) s H Ca cl fp) h10) (fun s H Ca cl fp => sE ie (o.blk hcal (scope := scope) s H Ca cl fp) h11) (set_fold h5) (fun _ => set_fold h6)
      · cases h7
    · cases h
  | .indexM a kk, X, C, W, e, o, h => by
    unfold chkE at h
    split at h
    · rename_i x nm ap y cp
      obtain ⟨h, h6⟩ := and2 h
      obtain ⟨h, h5⟩ := and2 h
      obtain ⟨h, h4⟩ := and2 h
      obtain ⟨h, h3⟩ := and2 h
      obtain ⟨h1, h2⟩ := and2 h
      rw [beq_iff_eq] at h1
      subst h1
      have st : starEach [y] X.env = [(false, eval y X.env)] := by rw [star1 h6]; rfl
      exact je_indexM o.mono o.hu (sE a o h2) (sE kk o h5) (by cases x <;> first | rfl | cases h3) st h4
    · cases h
  | .indexO i kk, X, C, W, e, o, h => by
    unfold chkE at h
    split at h
    · rename_i z p nm ap y cp
      obtain ⟨h, h6⟩ := and2 h
      obtain ⟨h, h5⟩ := and2 h
      obtain ⟨h, h4⟩ := and2 h
      obtain ⟨h1, h2⟩ := and2 h
      rw [beq_iff_eq] at h1
      subst h1
      obtain ⟨n1, n2, n3, n4⟩ := nm_of o h2
      have st : starEach [y] X.env = [(false, eval y X.env)] := by rw [star1 h6]; rfl
      exact je_indexO o.mono o.hu n1 n2 n3 n4 (sE kk o h5) st h4
    · cases h
  | .dget a kk, X, C, W, e, o, h => by
    unfold chkE at h
    split at h
    · rename_i x y p
      obtain ⟨h1, h3⟩ := and2 h
      obtain ⟨h1, h2⟩ := and2 h1
      refine je_dget o.mono o.hu (sE a o h1) (sE kk o h2) (fun u v => ?_)
      cases y <;> first | rfl | cases h3
    · cases h
  | .din n kk a, X, C, W, e, o, h => by
    unfold chkE at h
    split at h
    · obtain ⟨h1, h4⟩ := and2 h
      obtain ⟨h1, h3⟩ := and2 h1
      obtain ⟨h1, h2⟩ := and2 h1
      rw [beq_iff_eq.mp h1]
      exact je_din o.mono n o.hu (sE kk o h2) (sE a o h3) (set_no h4 _)
    · cases h
  | .dgetd a kk b, X, C, W, e, o, h => by
    unfold chkE at h
    split at h
    · rename_i x nm ap y z cp
      obtain ⟨h, h8⟩ := and2 h
      obtain ⟨h, h7⟩ := and2 h
      obtain ⟨h, h6⟩ := and2 h
      obtain ⟨h, h5⟩ := and2 h
      obtain ⟨h, h4⟩ := and2 h
      obtain ⟨h, h3⟩ := and2 h
      obtain ⟨h1, h2⟩ := and2 h
      rw [beq_iff_eq] at h1
      subst h1
      have st : starEach [y, z] X.env = [(false, eval y X.env), (false, eval z X.env)] := by rw [star1 h7, star1 h8]; rfl
      exact je_dgetd o.mono o.hu (sE a o h2) (sE kk o h5) (sE b o h6) ⟨(by cases x <;> first | rfl | cases h3), (by rw [st]; rfl), h4, (by rw [st]; rfl)⟩
    · cases h
  | .dget1 a kk, X, C, W, e, o, h => by
    unfold chkE at h
    split at h
    · rename_i x nm ap y cp
      obtain ⟨h, h6⟩ := and2 h
      obtain ⟨h, h5⟩ := and2 h
      obtain ⟨h, h4⟩ := and2 h
      obtain ⟨h, h3⟩ := and2 h
      obtain ⟨h1, h2⟩ := and2 h
      rw [beq_iff_eq] at h1
      subst h1
      have st : starEach [y] X.env = [(false, eval y X.env)] := by rw [star1 h6]; rfl
      exact je_dget1 o.mono o.hu (sE a o h2) (sE kk o h5) ⟨(by cases x <;> first | rfl | cases h3), (by rw [st]; rfl), h4, (by rw [st]; rfl)⟩
    · cases h
  | .call f as, X, C, W, e, o, h => by
    unfold chkE at h
    split at h
    · rename_i x p xs pos
      obtain ⟨hcal, h⟩ := and2 h
      obtain ⟨h1, h3⟩ := and2 h
      obtain ⟨h1, h2⟩ := and2 h1
      split at h1
      · rename_i fn hf
        obtain ⟨hcl, h1⟩ := and2 h1
        have hcl : fn.cls = none := by simpa using hcl
        obtain ⟨hx, g⟩ := gl_of o h1
        have hd : (x == ("__debug__" : Str)) = false := by simpa [sDebug] using h2
        cases hcc : C.calm with
        | true =>
          have cal := o.cal hcc f fn hf hcl
          rw [← hx] at cal
          cases xs with
          | nil =>
            cases as with
            | nil => exact je_call0 o.mono o.tk (o.rm hcc) g cal hd
            | _ => simp [chkAs] at h3
          | cons e es =>
            have st := stars_as h3
            have st' : notStar e = true ∧ es.all notStar = true := by simpa using st
            exact je_call o.mono o.tk (o.rm hcc) g cal (sAs as o h3) hd (star1 st'.1) (stars_any st'.2)
        | false =>
          rw [hcc, Bool.false_or] at hcal
          obtain ⟨hh, hne⟩ := and2 hcal
          have cal := o.calH f fn hf hh hcl
          rw [← hx] at cal
          cases xs with
          | nil => cases hne
          | cons e es =>
            have st := stars_as h3
            have st' : notStar e = true ∧ es.all notStar = true := by simpa using st
            exact je_callH o.mono o.tk (o.room.mono (by omega)) (o.hot hcc) g cal (sAs as o h3) hd (star1 st'.1) (stars_any st'.2)
      · cases h1
    · cases h
  | .fld c f io, X, C, W, e, o, h => by
    unfold chkE at h
    split at h
    · rename_i x g p
      obtain ⟨h, h4⟩ := and2 h
      obtain ⟨h, h3⟩ := and2 h
      obtain ⟨h1, h2⟩ := and2 h
      rw [beq_iff_eq] at h2
      subst h2
      obtain ⟨t, rfl, t1, t2⟩ := ic_of o h1
      exact je_fld o.mono t1 t2 (sE io o h3) (by cases x <;> first | rfl | cases h4)
    · cases h
  | .make c f as, X, C, W, e, o, h => by
    unfold chkE at h
    have hcal := (and2 h).1
    replace h := (and2 h).2
    split at h
    · rename_i x p xs pos
      obtain ⟨h, h5⟩ := and2 h
      obtain ⟨h, h4⟩ := and2 h
      obtain ⟨h, h3⟩ := and2 h
      obtain ⟨h1, h2⟩ := and2 h
      obtain ⟨t, rfl, t1⟩ := ic0_of o h1
      obtain ⟨rfl, g⟩ := gl_of o h3
      have hd : ((t.name : Str) == ("__debug__" : Str)) = false := by simpa [sDebug] using h4
      cases xs with
      | nil =>
        cases as with
        | nil => exact je_make0 o.mono o.tk (o.rm1 hcal) g t1 (m_of o hcal h2) hd
        | _ => simp [chkAs] at h5
      | cons e es =>
        have st := stars_as h5
        have st' : notStar e = true ∧ es.all notStar = true := by simpa using st
        exact je_make o.mono o.tk (o.rm1 hcal) g t1 (m_of o hcal h2) (sAs as o h5) hd (star1 st'.1) (stars_any st'.2)
    · cases h
  | .mcall c m f io as, X, C, W, e, o, h => by
    unfold chkE at h
    have hcal := (and2 h).1
    replace h := (and2 h).2
    split at h
    · rename_i x g ap xs pos
      obtain ⟨h, h8⟩ := and2 h
      obtain ⟨h, h7⟩ := and2 h
      obtain ⟨h, h6⟩ := and2 h
      obtain ⟨h, h5⟩ := and2 h
      obtain ⟨h, h4⟩ := and2 h
      obtain ⟨h, h3⟩ := and2 h
      obtain ⟨h1, h2⟩ := and2 h
      rw [beq_iff_eq] at h3
      subst h3
      obtain ⟨t, rfl, t1⟩ := ic0_of o h1
      have hb : attributeBase x (m : Str) X.env (eval x X.env) = eval x X.env := by cases x <;> first | rfl | cases h5
      cases xs with
      | nil =>
        cases as with
        | nil => exact je_mcall0 o.mono o.tk (o.rm hcal) t1 (m_of o hcal h2) (sE io o h4) (mt_plain hb rfl (by simp) h8)
        | _ => simp [chkAs] at h6
      | cons e es =>
        have st := stars_as h6
        have st' : notStar e = true ∧ es.all notStar = true := by simpa using st
        exact je_mcall o.mono o.tk (o.rm hcal) t1 (m_of o hcal h2) (sE io o h4) (sAs as o h6) (mt_plain hb (stars_any (by simpa using st)) (by simpa using h7) h8) (star1 st'.1) (stars_any st'.2)
    · cases h
  | .xfld i f, X, C, W, e, o, h => by
    unfold chkE at h
    split at h
    · obtain ⟨h1, h2⟩ := and2 h
      obtain ⟨n1, n2, n3, n4⟩ := nm_of o h1
      rw [beq_iff_eq] at h2
      subst h2
      exact je_xfld n1 n2 n3 n4 o.pin
    · cases h
  | .xisa i cs tup yes no, X, C, W, e, o, h => by
    unfold chkE at h
    split at h
    · obtain ⟨h1, h4⟩ := and2 h
      obtain ⟨h1, h3⟩ := and2 h1
      obtain ⟨h1, h2⟩ := and2 h1
      obtain ⟨n1, n2, n3, n4⟩ := nm_of o h2
      obtain ⟨hf, g⟩ := gl_of o h1
      have hm := o.blt ("isinstance" : Str) (by decide +kernel)
      obtain ⟨vs, us, ask, hk⟩ := rel_asks o h3
      split at h4
      · rename_i b y py
        obtain ⟨h5, h6⟩ := and2 h4
        obtain ⟨hy, g2⟩ := gl_of o h5
        cases ask with
        | cons hm2 hv r =>
          cases r
          refine je_xisa1 g hf hm n1 n2 n3 n4 o.pin ⟨g2, hy, by simpa [sDebug] using h6⟩ hm2 hv fun n C' hn hC => ?_
          have := hk n C' hn hC
          unfold PySem.W.kitAny at this
          split at this
          · rename_i e; rw [e]; exact this
          · rename_i e; rw [e]; exact this
          · cases this
      · rename_i cs es kk py
        obtain ⟨h5, h6⟩ := and2 h4
        exact je_xisas g hf hm n1 n2 n3 n4 o.pin (isa_ats o h5) ask (by simpa using h6) hk
      · cases h4
    · cases h
theorem sEs : ∀ (ies : IEs) {X : Cx} {C : Cs} {W : WX} {es : List Expr}, CxOk X C F RX W k → chkEs C ies es = true → PA X es (liftA X.K RX W (wEs F ies))
  | .nil, X, C, W, [], o, h => ja_nil
  | .nil, X, C, W, _ :: _, o, h => by simp [chkEs] at h
  | .cons _ _, X, C, W, [], o, h => by simp [chkEs] at h
  | .cons e es, X, C, W, x :: xs, o, h => by
    simp only [chkEs, Bool.and_eq_true] at h
    exact ja_cons o.mono (sE e o h.1.1) (sEs es o h.2) (star1 h.1.2)
theorem sT : ∀ (it : IT) {X : Cx} {C : Cs} {W : WX} {e : Expr}, CxOk X C F RX W k → chkT C it e = true → PT X e (liftT X.K RX W (wT F it))
  | .v ie, X, C, W, e, o, h => by
    unfold chkT at h
    split at h
    · rename_i op a b x p y pos
      obtain ⟨h1, h4⟩ := and2 h
      obtain ⟨h1, h3⟩ := and2 h1
      obtain ⟨h1, h2⟩ := and2 h1
      rw [cop_eq h1]
      exact jt_cmp o.mono o.hu (sE a o h2) (sE b o h3) (set_no h4 _)
    · rename_i op op' a b c x p p' y z pos
      obtain ⟨h1, h6⟩ := and2 h
      obtain ⟨h1, h5⟩ := and2 h1
      obtain ⟨h1, h4⟩ := and2 h1
      obtain ⟨h1, h3⟩ := and2 h1
      obtain ⟨h1, h2⟩ := and2 h1
      rw [cop_eq h1, cop_eq h2]
      exact jt_chn o.mono o.hu (sE a o h3) (sE b o h4) (sE c o h5) (set_last h6 _ _)
    · rename_i n a l x p y pos
      obtain ⟨h1, h4⟩ := and2 h
      obtain ⟨h1, h3⟩ := and2 h1
      obtain ⟨h1, h2⟩ := and2 h1
      rw [beq_iff_eq.mp h1]
      exact jt_linn o.mono n o.hu (sE a o h2) (sL l o h3) (set_no h4 _)
    · rename_i n kk a x p y pos
      obtain ⟨h1, h4⟩ := and2 h
      obtain ⟨h1, h3⟩ := and2 h1
      obtain ⟨h1, h2⟩ := and2 h1
      rw [beq_iff_eq.mp h1]
      exact jt_din o.mono n o.hu (sE kk o h2) (sE a o h3) (set_no h4 _)
    · obtain ⟨h1, h2⟩ := and2 h
      exact jt_truth o.mono (sE ie o h1) (plain_t h2)
  | .not a, X, C, W, e, o, h => by
    unfold chkT at h
    split at h
    · exact jt_not o.mono (sT a o h)
    · cases h
  | .and a b, X, C, W, e, o, h => by
    unfold chkT at h
    split at h
    · obtain ⟨h1, h2⟩ := and2 h
      exact (jw_and o.mono (sT a o h1) (jw_one (sT b o h2))).pt
    · obtain ⟨h1, h2⟩ := and2 h
      exact (jw_and o.mono (sT a o h1) (sTW b o h2)).pt
    · cases h
  | .or a b, X, C, W, e, o, h => by
    unfold chkT at h
    split at h
    · obtain ⟨h1, h2⟩ := and2 h
      exact (jw_or o.mono (sT a o h1) (jw_one (sT b o h2))).pt
    · obtain ⟨h1, h2⟩ := and2 h
      exact (jw_or o.mono (sT a o h1) (sTW b o h2)).pt
    · cases h
theorem sTW : ∀ (it : IT) {X : Cx} {C : Cs} {W : WX} {op : BoolOp} {vs : List Expr} {pos : Pos}, CxOk X C F RX W k → chkT C it (.BoolOp op vs pos) = true → PW X (.BoolOp op vs pos) (liftT X.K RX W (wT F it))
  | .v ie, X, C, W, op, vs, pos, o, h => by
    unfold chkT at h
    split at h
    · rename_i e; cases e
    · rename_i e; cases e
    · rename_i e; cases e
    · rename_i e; cases e
    · simp [plainT] at h
  | .not a, X, C, W, op, vs, pos, o, h => by simp [chkT] at h
  | .and a b, X, C, W, op, vs, pos, o, h => by
    unfold chkT at h
    split at h
    · rename_i e; cases e
      obtain ⟨h1, h2⟩ := and2 h
      exact jw_and o.mono (sT a o h1) (jw_one (sT b o h2))
    · rename_i e; cases e
      obtain ⟨h1, h2⟩ := and2 h
      exact jw_and o.mono (sT a o h1) (sTW b o h2)
    · cases h
  | .or a b, X, C, W, op, vs, pos, o, h => by
    unfold chkT at h
    split at h
    · rename_i e; cases e
      obtain ⟨h1, h2⟩ := and2 h
      exact jw_or o.mono (sT a o h1) (jw_one (sT b o h2))
    · rename_i e; cases e
      obtain ⟨h1, h2⟩ := and2 h
      exact jw_or o.mono (sT a o h1) (sTW b o h2)
    · cases h
theorem sO : ∀ (io : IO) {X : Cx} {C : Cs} {W : WX} {e : Option Expr}, CxOk X C F RX W k → chkO C io e = true → PO X e (liftO X.K RX W (wO F io))
  | .no, X, C, W, none, o, h => jo_none
  | .no, X, C, W, some _, o, h => by simp [chkO] at h
  | .at _, X, C, W, none, o, h => by simp [chkO] at h
  | .at ie, X, C, W, some e, o, h => jo_some o.mono (sE ie o (by simpa [chkO] using h))
theorem sAs : ∀ (ies : IAs) {X : Cx} {C : Cs} {W : WX} {es : List Expr}, CxOk X C F RX W k → chkAs C ies es = true → PA X es (liftAs X.K RX W (wAs F ies))
  | .nil, X, C, W, [], o, h => js_nil
  | .nil, X, C, W, _ :: _, o, h => by simp [chkAs] at h
  | .cons _ _, X, C, W, [], o, h => by simp [chkAs] at h
  | .tmp _ _, X, C, W, [], o, h => by simp [chkAs] at h
  | .lend _ _, X, C, W, [], o, h => by simp [chkAs] at h
  | .cons e es, X, C, W, x :: xs, o, h => by
    simp only [chkAs, Bool.and_eq_true] at h
    exact js_cons o.mono (sE e o h.1.1) (sAs es o h.2) (star1 h.1.2)
  | .tmp n es, X, C, W, x :: xs, o, h => by
    simp only [chkAs, Bool.and_eq_true] at h
    exact js_tmp o.mono (sN n o h.1.1) (sAs es o h.2) (star1 h.1.2)
  | .lend i es, X, C, W, x :: xs, o, h => by
    cases x with
    | Name y p =>
      simp only [chkAs, Bool.and_eq_true] at h
      obtain ⟨n1, n2, n3, n4⟩ := nm_of o h.1
      exact js_lend o.mono n1 n2 n3 n4 (sAs es o h.2) rfl
    | _ => simp [chkAs] at h
theorem sL : ∀ (il : IL) {X : Cx} {C : Cs} {W : WX} {e : Expr}, CxOk X C F RX W k → chkL C il e = true → PE X e (liftL X.K RX W (wL F il))
  | .new n, X, C, W, e, o, h => jl_new (sN n o (by unfold chkL at h; exact h)) o.mono
  | .own i, X, C, W, e, o, h => by
    unfold chkL at h
    split at h
    · obtain ⟨n1, n2, n3, n4⟩ := nm_of o h
      exact jl_own n1 n2 n3 n4
    · cases h
  | .ref ie, X, C, W, e, o, h => jl_ref o.mono (sE ie o (by unfold chkL at h; exact h))
theorem sN : ∀ (n : IN) {X : Cx} {C : Cs} {W : WX} {e : Expr}, CxOk X C F RX W k → chkN C n e = true → PE X e (liftN X.K RX W (wN F n))
  | .disp es, X, C, W, e, o, h => by
    unfold chkN at h
    split at h
    · exact jn_disp o.mono (sEs es o h)
    · cases h
  | .comp ie t it io, X, C, W, e, o, h => by
    unfold chkN at h
    split at h
    · rename_i elt tg iter ifs a scope pos
      obtain ⟨hcal, h⟩ := and2 h
      obtain ⟨h1, h7⟩ := and2 h
      obtain ⟨h1, h6⟩ := and2 h1
      obtain ⟨h1, h5⟩ := and2 h1
      obtain ⟨h1, h4⟩ := and2 h1
      obtain ⟨h1, h3⟩ := and2 h1
      obtain ⟨h1, h2⟩ := and2 h1
      have ha : a = 0 := by simpa using h1
      subst ha
      split at h4
      · rename_i own ho
        have hi := sI it o h2
        obtain ⟨tt, ht, htt⟩ : ∃ tt : TT, (∀ (s : Shared) (H : Hp) (Ca : Addr) (cl : List (Str × Addr)) (fp : List Addr), PTs (X.blk s H scope (compEnvC scope cl Ca X.env) fp) ifs tt) ∧ ∀ σ H Q, liftT X.K RX W0 (wTs F io) σ H Q → tt σ H Q := by
          cases io with
          | none =>
            cases ifs with
            | nil => exact ⟨tYes, fun _ _ _ _ _ => pts_nil, fun σ H Q ⟨env, M, s, q⟩ => q H Ext.refl s⟩
            | cons _ _ => simp [chkIf] at h7
          | some t =>
            cases ifs with
            | nil => simp [chkIf] at h7
            | cons x xs =>
              cases xs with
              | cons _ _ => simp [chkIf] at h7
              | nil => exact ⟨_, fun s H Ca cl fp => pts_one (sT t (o.blk hcal (scope := scope) s H Ca cl fp) (by simpa [chkIf] using h7)), fun _ _ _ q => q⟩
        exact jn_comp (g := gOf X.K t) o.mono (o.calm hcal) o.nd hi (blk_of o h4) (own_slots ho) (fun s H Ca cl fp => g_of (o.blk hcal (scope := scope) s H Ca cl fp) h5) ht htt
          (fun s H Ca cl fp => sE ie (o.blk hcal (scope := scope) s H Ca cl fp) h6) (set_fold h3)
      · cases h4
    · cases h
  | .comp2 ie t it t1 it1 io, X, C, W, e, o, h => by
    unfold chkN at h
    split at h
    · rename_i elt tg iter ifs a tg1 iter1 ifs1 a1 scope pos
      obtain ⟨hcal, h⟩ := and2 h
      obtain ⟨h1, h12⟩ := and2 h
      obtain ⟨h1, h11⟩ := and2 h1
      obtain ⟨h1, h10⟩ := and2 h1
      obtain ⟨h1, h9⟩ := and2 h1
      obtain ⟨h1, h8⟩ := and2 h1
      obtain ⟨h1, h7⟩ := and2 h1
      obtain ⟨h1, h6⟩ := and2 h1
      obtain ⟨h1, h5⟩ := and2 h1
      obtain ⟨h1, h4⟩ := and2 h1
      obtain ⟨h1, h3⟩ := and2 h1
      obtain ⟨h1, h2⟩ := and2 h1
      have ha : a = 0 := by simpa using h1
      have ha1 : a1 = 0 := by simpa using h2
      subst ha; subst ha1
      have hf : ifs = [] := by simpa using h3
      subst hf
      split at h7
      · rename_i own own1 ho ho1
        have hi := sI it o h4
        obtain ⟨tt, ht, htt⟩ : ∃ tt : TT, (∀ (s : Shared) (H : Hp) (Ca : Addr) (cl : List (Str × Addr)) (fp : List Addr), PTs (X.blk s H scope (compEnvC scope cl Ca X.env) fp) ifs1 tt) ∧ ∀ σ H Q, liftT X.K RX W0 (wTs F io) σ H Q → tt σ H Q := by
          cases io with
          | none =>
            cases ifs1 with
            | nil => exact ⟨tYes, fun _ _ _ _ _ => pts_nil, fun σ H Q ⟨env, M, s, q⟩ => q H Ext.refl s⟩
            | cons _ _ => simp [chkIf] at h12
          | some t =>
            cases ifs1 with
            | nil => simp [chkIf] at h12
            | cons x xs =>
              cases xs with
              | cons _ _ => simp [chkIf] at h12
              | nil => exact ⟨_, fun s H Ca cl fp => pts_one (sT t (o.blk hcal (scope := scope) s H Ca cl fp) (by simpa [chkIf] using h12)), fun _ _ _ q => q⟩
        have hown : (own ++ own1).map (·.2) = t.slots ++ t1.slots := by rw [List.map_append, own_slots ho, own_slots ho1]
        exact jn_comp2 (spos := pos) (g := gOf X.K t) (g1 := gOf X.K t1) o.mono (o.calm hcal) o.nd hi (blk_of o h7) hown (fun s H Ca cl fp => g_of (o.blk hcal (scope := scope) s H Ca cl fp) h8) (fun s H Ca cl fp => g_of (o.blk hcal (scope := scope) s H Ca cl fp) h9)
          (fun s H Ca cl fp => sI it1 (o.blk hcal (scope := scope) s H Ca cl fp) h10) ht htt (fun s H Ca cl fp => sE ie (o.blk hcal (scope := scope) s H Ca cl fp) h11) (set_fold h5) (fun _ => set_fold h6)
      · cases h7
    · cases h
  | .copy l, X, C, W, e, o, h => by
    unfold chkN at h
    split at h
    · obtain ⟨h1, h3⟩ := and2 h
      obtain ⟨h1, h2⟩ := and2 h1
      obtain ⟨rfl, g⟩ := gl_of o h1
      exact jn_copy o.mono g (o.blt _ (by decide +kernel)) (sL l o h2) (star1 h3)
    · cases h
  | .copyT a, X, C, W, e, o, h => by
    unfold chkN at h
    split at h
    · obtain ⟨h1, h3⟩ := and2 h
      obtain ⟨h1, h2⟩ := and2 h1
      obtain ⟨rfl, g⟩ := gl_of o h1
      exact jn_copyT o.mono g (o.blt _ (by decide +kernel)) (sE a o h2) (star1 h3)
    · cases h
  | .slc _ _ _, X, C, W, e, o, h => by unfold chkN at h; cases h
theorem sI : ∀ (it : II) {X : Cx} {C : Cs} {W : WX} {tg e : Expr}, CxOk X C F RX W k → chkI C it tg e = true → PI X tg e (liftI X.K RX W (wI F it))
  | .dyn a, X, C, W, tg, e, o, h => ji_dyn o.mono (sE a o (by unfold chkI at h; exact h))
  | .new n, X, C, W, tg, e, o, h => ji_new o.mono (sN n o (by unfold chkI at h; exact h))
  | .own i, X, C, W, tg, e, o, h => by
    unfold chkI at h
    split at h
    · obtain ⟨n1, n2, n3, n4⟩ := nm_of o h
      exact ji_own n1 n2 n3 n4
    · cases h
  | .range a, X, C, W, tg, e, o, h => by
    unfold chkI at h
    split at h
    · obtain ⟨h1, h3⟩ := and2 h
      obtain ⟨h1, h2⟩ := and2 h1
      obtain ⟨rfl, g⟩ := gl_of o h1
      exact ji_range o.mono g (o.blt _ (by decide +kernel)) (sE a o h2) (star1 h3)
    · cases h
  | .range2 a b, X, C, W, tg, e, o, h => by
    unfold chkI at h
    split at h
    · obtain ⟨h1, h5⟩ := and2 h
      obtain ⟨h1, h4⟩ := and2 h1
      obtain ⟨h1, h3⟩ := and2 h1
      obtain ⟨h1, h2⟩ := and2 h1
      obtain ⟨rfl, g⟩ := gl_of o h1
      exact ji_range2 o.mono g (o.blt _ (by decide +kernel)) (sE a o h2) (sE b o h3) (by rw [star1 h4, star1 h5]; rfl) (star1 h5)
    · cases h
  | .zip a b, X, C, W, tg, e, o, h => by
    unfold chkI at h
    split at h
    · obtain ⟨h1, h5⟩ := and2 h
      obtain ⟨h1, h4⟩ := and2 h1
      obtain ⟨h1, h3⟩ := and2 h1
      obtain ⟨h1, h2⟩ := and2 h1
      obtain ⟨rfl, g⟩ := gl_of o h1
      exact ji_zip o.mono g (o.blt _ (by decide +kernel)) (sE a o h2) (sE b o h3) (star1 h4) (star1 h5)
    · cases h
  | .enum a, X, C, W, tg, e, o, h => by
    unfold chkI at h
    split at h
    · obtain ⟨h1, h3⟩ := and2 h
      obtain ⟨h1, h2⟩ := and2 h1
      obtain ⟨rfl, g⟩ := gl_of o h1
      exact ji_enum o.mono g (o.blt _ (by decide +kernel)) (sE a o h2) (star1 h3)
    · cases h
  | .rev a, X, C, W, tg, e, o, h => by
    unfold chkI at h
    split at h
    · obtain ⟨h1, h3⟩ := and2 h
      obtain ⟨h1, h2⟩ := and2 h1
      obtain ⟨rfl, g⟩ := gl_of o h1
      exact ji_rev o.mono g (o.blt _ (by decide +kernel)) (sE a o h2) (star1 h3)
    · cases h
  | .revR a b, X, C, W, tg, e, o, h => by
    unfold chkI at h
    split at h
    · obtain ⟨h, h6⟩ := and2 h
      obtain ⟨h, h5⟩ := and2 h
      obtain ⟨h, h4⟩ := and2 h
      obtain ⟨h, h3⟩ := and2 h
      obtain ⟨h1, h2⟩ := and2 h
      obtain ⟨rfl, g⟩ := gl_of o h1
      obtain ⟨rfl, g2⟩ := gl_of o h2
      exact ji_revR o.mono g (o.blt _ (by decide +kernel)) g2 (o.blt _ (by decide +kernel)) (sE a o h3) (sE b o h4) (star1 h5) (star1 h6) (by rw [star1 h6]; rfl)
    · obtain ⟨h, h5⟩ := and2 h
      obtain ⟨h, h4⟩ := and2 h
      obtain ⟨h, h3⟩ := and2 h
      obtain ⟨h1, h2⟩ := and2 h
      obtain ⟨rfl, g⟩ := gl_of o h1
      obtain ⟨rfl, g2⟩ := gl_of o h2
      split at h3
      · rw [beq_iff_eq] at h3
        subst h3
        exact ji_revR1 o.mono g (o.blt _ (by decide +kernel)) g2 (o.blt _ (by decide +kernel)) (sE b o h4) (star1 h5)
      · cases h3
    · cases h
end
end
end DL
set_option maxHeartbeats 2000000
/-! The check is sound: statements, defs, the whole text. -/
namespace DL
open PySem PySem.Spec PyProof.Rows L2 DLX DLM
/-- a comprehension that is stored at once -/
def swB (C : Cs) (x : Str) (p : Pos) (e : Expr) : Bool := match e with
  | .ListComp _ _ sc q => C.names.lookup x == some .local && p.line == q.line && !(sc.names.any fun (n, k) => n == x && (k == .local || k == .cell))
  | _ => false
def swC (C : Cs) (x : Str) (e : Expr) : Bool := match e with
  | .ListComp .. => C.names.lookup x == some .cell
  | _ => false
def chkAsg (C : Cs) (i : Nat) (n : IN) (st : Stmt) : Bool := (match st with | .Assign [.Name x p] e _ => lcOk C i x && chkN C n e && (notComp e || swB C x p e || swC C x e) | _ => false)
mutual
def chkS (C : Cs) : IS → Stmt → Bool
  | .pass, st => (match st with | .Pass _ => true | _ => false)
  | .brk, st => (match st with | .Break _ => true | _ => false)
  | .cnt, st => (match st with | .Continue _ => true | _ => false)
  | .ret e, st => (match st with | .Return (some x) _ => chkE C e x | _ => false)
  | .retN, st => (match st with | .Return none _ => true | _ => false)
  | .retO i, st => (match st with | .Return (some (.Name x _)) _ => nmOk C i x | _ => false)
  | .exp e, st => (match st with | .Expr x _ => chkE C e x && notComp x | _ => false)
  | .asg t e, st => (match st with | .Assign [tg] x _ => chkTg C t tg && chkE C e x && notComp x && (notTup tg || notTup x) | _ => false)
  | .unl is e, st => (match st with | .Assign [.Tuple es kk tp] x _ => C.calm && chkTs C is es && chkE C e x && notComp x && notTup x && chkTg C (.tp is) (.Tuple es kk tp) | _ => false)
  | .asgN i n, st => chkAsg C i n st
  | .asgM i n, st => chkAsg C i n st
  | .par i j a b, st => (match st with
    | .Assign [.Tuple [.Name x px, .Name y py] _ pt] (.Tuple [u, v] _ _) _ => C.calm && (C.N[i]? == some x) && (C.N[j]? == some y) && (C.names.lookup x == some .local) && (C.names.lookup y == some .local) && !(i == j) && (px.line == py.line) &&
        chkE C a u && chkE C b v && notStar u && notStar v && !([u, v].all (foldedForSure 8)) && !([u, v].all (constantsAlone 8))
    | _ => false)
  | .aug i o e, st => (match st with | .AugAssign (.Name x _) p v _ => lcOk C i x && o.beq p && chkE C e v | _ => false)
  | .app i e, st => (match st with | .Expr (.Call (.Attribute (.Name x _) m ap) [v] [] cp) _ => (m == ("append" : Str)) && nmOk C i x && chkE C e v && notStar v && (ap.endLine == cp.line) | _ => false)
  | .set i k e, st => (match st with | .Assign [.Subscript (.Name x _) y _] v _ => nmOk C i x && chkE C k y && notSlice y && chkE C e v && notComp v | _ => false)
  | .pop i j, st => (match st with | .Assign [.Name x _] (.Call (.Attribute (.Name y _) m ap) [] [] cp) _ => lcOk C i x && nmOk C j y && (m == ("pop" : Str)) && (ap.endLine == cp.line) | _ => false)
  | .mapp l e, st => (match st with | .Expr (.Call (.Attribute x m ap) [v] [] cp) _ => (m == ("append" : Str)) && chkE C l x && plainB x && chkE C e v && notStar v && (ap.endLine == cp.line) | _ => false)
  | .mset l k e, st => (match st with | .Assign [.Subscript x y _] v _ => chkE C l x && chkE C k y && notSlice y && chkE C e v && notComp v | _ => false)
  | .dset d k e, st => (match st with | .Assign [.Subscript x y _] v _ => chkE C d x && chkE C k y && notSlice y && chkE C e v && notComp v | _ => false)
  | .fset c f o e, st => (match st with | .Assign [.Attribute x g _] v _ => icB C c f && (g == (f : Str)) && chkE C o x && chkE C e v | _ => false)
  | .maug l k o e, st => (match st with | .AugAssign (.Subscript x y _) p v _ => chkE C l x && chkE C k y && notSlice y && o.beq p && chkE C e v | _ => false)
  | .ite c t e, st => (match st with | .If x a b _ => chkT C c x && chkSs C t a && chkSs C e b | _ => false)
  | .whl c b, st => (match st with | .While x a [] _ => C.calm && (chkT C c x && chkSs C b a) | _ => false)
  | .for_ t it b, st => (match st with | .For tg x a [] _ => C.calm && (chkTg C t tg && chkI C it tg x && notSet x && chkSs C b a) | _ => false)
  | .dead, _ => true
  | .raise c fl es, st => (match st with | .Raise (some (.Call (.Name x _) xs [] _)) none _ => C.calm && glOk C c x && !(x == sDebug) && (C.xt.any fun t => t.name == c && t.fields == fl) && chkEs C es xs && !xs.isEmpty && (xs.length == fl.length) | _ => false)
  | .try_ b hs, st => (match st with | .Try body hds [] [] _ => C.calm && chkSs C b body && chkHs C hs hds && !hds.isEmpty | _ => false)
def chkHs (C : Cs) : IHs → List ExceptHandler → Bool
  | .nil, [] => true
  | .cons c yes no i b hs, .ExceptHandler (some (.Name x _)) n suite _ :: r => glOk C c x && !(x == sDebug) && relB C [c] yes no && (match i, n with
      | none, none => true
      | some i, some n => (C.N[i]? == some n) && (C.names.lookup n == some .local)
      | _, _ => false) && !suite.isEmpty && chkSs { C with calm := false } b suite && chkHs C hs r
  | _, _ => false
def chkSs (C : Cs) : List IS → List Stmt → Bool
  | [], [] => true
  | i :: is, s :: ss => chkS C i s && chkSs C is ss
  | _, _ => false
end
section
variable {X : Cx} {C : Cs} {F : FS} {RX : RXT} {W : WX} {k : Nat}
/-- a def's own block -/
structure TopOk (X : Cx) (C : Cs) : Prop where
  kind : X.env.scope.kind = .function
  own : C.calm = true → PassesOwn (model X.prog X.w) X.A X.env X.xe
  stk : X.stack = X.env :: X.outer
  fr : X.env.frame = some X.env.locals
theorem sw_plain {e : Expr} {tg : Option Expr} {l : Nat} {env : PySem.Env} (h : notComp e = true) : swapsWith e tg l env = pure false := by
  cases e <;> first | rfl | cases h
theorem sws_plain {e tg : Expr} {l : Nat} {env : PySem.Env} (h : notComp e = true) : swapsWithSole [tg] e l env = pure false := sw_plain h
theorem st_tup {tg e : Expr} {env : PySem.Env} (h : (notTup tg || notTup e) = true) (hl : ∀ es p, tg ≠ .List es p) : swappedStores [tg] e env = pure none := by
  cases tg <;> first | rfl | exact absurd rfl (hl _ _) | skip
  cases e <;> first | rfl | cases h
theorem tg_no {t : Tg} {tg : Expr} (h : chkTg C t tg = true) : (∀ es p, tg ≠ .List es p) ∧ ∀ env, (assignEach [tg] env).map (·.2) = [assign tg env] := by
  cases t <;> cases tg <;> first | (simp [chkTg] at h; done) | exact ⟨fun _ _ z => (by cases z), fun _ => rfl⟩
theorem swapped2 {env : PySem.Env} {x y : Str} {px py pt pt2 : Pos} {kt k2 : Nat} {u v : Expr} (hbk : env.blockKind = .function) (kx : env.kindOf x = some .local) (ky : env.kindOf y = some .local) (hxy : x ≠ y) (h6 : px.line = py.line)
    (h9 : notStar u = true) (h10 : notStar v = true) (h11 : [u, v].all (foldedForSure 8) = false) (h12 : [u, v].all (constantsAlone 8) = false) :
    swappedStores [.Tuple [.Name x px, .Name y py] kt pt] (.Tuple [u, v] k2 pt2) env = pure (some [x, y]) := by
  have e1 : ([x, y] : List Str).eraseDups.length = 2 := by
    have : (y == x) = false := by simpa using fun z => hxy z.symm
    simp [List.eraseDups, List.eraseDupsBy, List.eraseDupsBy.loop, this]
  unfold swappedStores
  simp only [List.length_cons, List.length_nil, hbk, kx, ky, List.any_cons, List.any_nil, List.filterMap_cons, List.filterMap_nil, List.head?_cons, Option.map_some, Option.getD_some, Expr.pos, h6, h11, h12, beq_self_eq_true, Bool.and_self, if_true]
  rw [if_neg (by decide)]
  refine (if_neg (fun h => ?_)).trans ?_
  · clear h11 h12
    cases u <;> first | (cases h9; done) | (cases v <;> first | (cases h10; done) | (cases h; done))
  · simp [e1]
theorem sw_cell {elt : Expr} {gs : List Comprehension} {sc : Scope} {q p : Pos} {x : Str} {l : Nat} {env : PySem.Env} (h : env.kindOf x = some .cell) : swapsWith (.ListComp elt gs sc q) (some (.Name x p)) l env = pure false := by
  show (pure (env.blockKind == .function && env.kindOf x == some .local && p.line == q.line && !(sc.names.any fun (n, k) => n == x && (k == .local || k == .cell))) : Sem Bool) = pure false
  rw [h]
  have : (some NameKind.cell == some NameKind.local) = false := by decide
  rw [this]
  simp
theorem asg_ps (o : CxOk X C F RX W k) (t : TopOk X C) {i : Nat} {n : IN} {st : Stmt} (h : chkAsg C i n st = true) : PS X st (tAsg (liftN X.K RX W (wN F n)) (gName i)) := by
    unfold chkAsg at h; split at h
    · rename_i x p e pos
      obtain ⟨h1, h3⟩ := and2 h
      obtain ⟨h1, h2⟩ := and2 h1
      obtain ⟨l1, l2, l3⟩ := lc_of o h1
      by_cases hc : notComp e = true
      · exact ps_set o.nd l1 l2 (sN n o h2) (sw_plain hc) l3
      by_cases hcl : swC C x e = true
      · refine ps_set o.nd l1 l2 (sN n o h2) ?_ l3
        unfold swC at hcl
        split at hcl
        · have hk : X.env.kindOf x = some .cell := (o.cel x (by simpa using hcl)).1
          exact sw_cell hk
        · cases hcl
      · have h3' : swB C x p e = true := by
          cases hcc : notComp e with
          | true => exact absurd hcc hc
          | false =>
            rw [hcc] at h3
            cases hsb : swB C x p e with
            | true => rfl
            | false => rw [hsb] at h3; exact absurd (by simpa using h3) hcl
        unfold swB at h3'
        split at h3'
        · rename_i elt gs sc q
          obtain ⟨h3', h6⟩ := and2 h3'
          obtain ⟨h4, h5⟩ := and2 h3'
          have hl : X.env.scope.names.lookup x = some .local := o.loc x (by simpa using h4)
          have hsw : swapsWith (.ListComp elt gs sc q) (some (.Name x p)) pos.line X.env = pure true := sw_true t.kind hl h5 (by simpa using h6)
          cases n with
          | comp ie tg it io =>
            unfold chkN at h2
            split at h2
            · rename_i elt' tg' iter ifs a scope pos' e'
              cases e'
              have hcal := (and2 h2).1
              replace h2 := (and2 h2).2
              obtain ⟨h1, h7⟩ := and2 h2
              obtain ⟨h1, h6⟩ := and2 h1
              obtain ⟨h1, h5⟩ := and2 h1
              obtain ⟨h1, h4⟩ := and2 h1
              obtain ⟨h1, hset⟩ := and2 h1
              obtain ⟨h1, hi2⟩ := and2 h1
              have ha : a = 0 := by simpa using h1
              subst ha
              split at h4
              · rename_i own ho
                have hi := sI it o hi2
                obtain ⟨tt, ht, htt⟩ : ∃ tt : TT, (∀ (s : Shared) (H : Hp) (Ca : Addr) (cl : List (Str × Addr)) (fp : List Addr), PTs (X.blk s H sc (compEnvC sc cl Ca X.env) fp) ifs tt) ∧ ∀ σ H Q, liftT X.K RX W0 (wTs F io) σ H Q → tt σ H Q := by
                  cases io with
                  | none =>
                    cases ifs with
                    | nil => exact ⟨tYes, fun _ _ _ _ _ => pts_nil, fun σ H Q ⟨env, M, s, q⟩ => q H Ext.refl s⟩
                    | cons _ _ => simp [chkIf] at h7
                  | some t =>
                    cases ifs with
                    | nil => simp [chkIf] at h7
                    | cons x xs =>
                      cases xs with
                      | cons _ _ => simp [chkIf] at h7
                      | nil => exact ⟨_, fun s H Ca cl fp => pts_one (sT t (o.blk hcal (scope := sc) s H Ca cl fp) (by simpa [chkIf] using h7)), fun _ _ _ q => q⟩
                exact (js_setLc (g := gOf X.K tg) o.mono (o.calm hcal) o.nd l1 hl hsw hi (blk_of o h4) (own_slots ho) (fun s H Ca cl fp => g_of (o.blk hcal (scope := sc) s H Ca cl fp) h5) ht htt
                  (fun s H Ca cl fp => sE ie (o.blk hcal (scope := sc) s H Ca cl fp) h6) (set_fold hset))
              · cases h4
            · cases h2
          | comp2 ie t0 it t1 it1 io =>
            unfold chkN at h2
            split at h2
            · rename_i elt' tg iter ifs a tg1 iter1 ifs1 a1 scope pos' e'
              cases e'
              have hcal := (and2 h2).1
              replace h2 := (and2 h2).2
              obtain ⟨h1, h12⟩ := and2 h2
              obtain ⟨h1, h11⟩ := and2 h1
              obtain ⟨h1, h10⟩ := and2 h1
              obtain ⟨h1, g9⟩ := and2 h1
              obtain ⟨h1, g8⟩ := and2 h1
              obtain ⟨h1, g7⟩ := and2 h1
              obtain ⟨h1, g6⟩ := and2 h1
              obtain ⟨h1, g5⟩ := and2 h1
              obtain ⟨h1, g4⟩ := and2 h1
              obtain ⟨h1, g3⟩ := and2 h1
              obtain ⟨h1, h2'⟩ := and2 h1
              have ha : a = 0 := by simpa using h1
              have ha1 : a1 = 0 := by simpa using h2'
              subst ha; subst ha1
              have hf : ifs = [] := by simpa using g3
              subst hf
              split at g7
              · rename_i own own1 ho ho1
                have hi := sI it o g4
                obtain ⟨tt, ht, htt⟩ : ∃ tt : TT, (∀ (s : Shared) (H : Hp) (Ca : Addr) (cl : List (Str × Addr)) (fp : List Addr), PTs (X.blk s H sc (compEnvC sc cl Ca X.env) fp) ifs1 tt) ∧ ∀ σ H Q, liftT X.K RX W0 (wTs F io) σ H Q → tt σ H Q := by
                  cases io with
                  | none =>
                    cases ifs1 with
                    | nil => exact ⟨tYes, fun _ _ _ _ _ => pts_nil, fun σ H Q ⟨env, M, s, q⟩ => q H Ext.refl s⟩
                    | cons _ _ => simp [chkIf] at h12
                  | some t =>
                    cases ifs1 with
                    | nil => simp [chkIf] at h12
                    | cons x xs =>
                      cases xs with
                      | cons _ _ => simp [chkIf] at h12
                      | nil => exact ⟨_, fun s H Ca cl fp => pts_one (sT t (o.blk hcal (scope := sc) s H Ca cl fp) (by simpa [chkIf] using h12)), fun _ _ _ q => q⟩
                have hown : (own ++ own1).map (·.2) = t0.slots ++ t1.slots := by rw [List.map_append, own_slots ho, own_slots ho1]
                exact (js_setLc2 (g := gOf X.K t0) (g1 := gOf X.K t1) o.mono (o.calm hcal) o.nd l1 hl hsw hi (blk_of o g7) hown (fun s H Ca cl fp => g_of (o.blk hcal (scope := sc) s H Ca cl fp) g8) (fun s H Ca cl fp => g_of (o.blk hcal (scope := sc) s H Ca cl fp) g9)
                  (fun s H Ca cl fp => sI it1 (o.blk hcal (scope := sc) s H Ca cl fp) h10) ht htt (fun s H Ca cl fp => sE ie (o.blk hcal (scope := sc) s H Ca cl fp) h11) (set_fold g5) (fun _ => set_fold g6))
              · cases g7
            · cases h2
          | disp es => simp [chkN] at h2
          | copy l => simp [chkN] at h2
          | copyT l => simp [chkN] at h2
          | slc _ _ _ => simp [chkN] at h2
        · cases h3'
    · cases h
theorem CxOk.tr (o : CxOk X C F RX W k) (hc : C.calm = true) {W' : WX} (pn : List (Addr × Obj)) (xe : Value → Shared → Prop) (tk : L2N.Takes (X.tr pn xe) W') : CxOk (X.tr pn xe) C F RX W' k :=
  { N := o.N, nd := o.nd, loc := o.loc, cel := o.cel, fre := o.fre, glo := o.glo, calm := o.calm, hdl := o.hdl, np := o.np, hot := fun h => absurd (hc.symm.trans h) (by decide), room := o.room, mono := o.mono, tk := tk,
    cal := fun h f fn hf hc => o.cal h f fn hf hc, calM := fun h f fn c hf hc => o.calM h f fn c hf hc, calH := fun f fn hf hh hc => o.calH f fn hf hh hc, ins := o.ins, blt := o.blt, gl := o.gl, pin := fun a cl d z => absurd z (o.np hc a cl d), rx := o.rx, xt := o.xt, rel := o.rel }
theorem TopOk.tr (t : TopOk X C) {pn : List (Addr × Obj)} {xe : Value → Shared → Prop} (ow : PassesOwn (model X.prog X.w) X.A X.env xe) : TopOk (X.tr pn xe) C := ⟨t.kind, fun _ => ow, t.stk, t.fr⟩
theorem CxOk.suite (o : CxOk X C F RX W k) {a cl : Addr} {d : Option Addr} {oe : Obj} {pn : List (Addr × Obj)} (hz : L2N.Zn (.ref cl) d oe) (hv : ∃ vs, oe.data = .fields vs) : CxOk (X.suite a ((a, oe) :: pn)) { C with calm := false } (F.at a cl d) RX W0 k :=
  { N := o.N, nd := o.nd, loc := o.loc, cel := o.cel, fre := o.fre, glo := o.glo, calm := fun h => (by cases h), hdl := fun h => (by cases h), np := fun h => (by cases h),
    hot := fun _ => ⟨(a, oe), ⟨rfl, by obtain ⟨vs, e⟩ := hv; exact ⟨vs, e, hz.2.2 vs e⟩⟩, List.mem_cons_self⟩, room := ⟨o.room.dp, o.room.un⟩, mono := ⟨o.mono.mono⟩,
    tk := fun _ _ x => (by obtain ⟨_, _, _, _, _, _, _, _, _, _, _, _, _, _, _, _, z⟩ := x; exact z.elim),
    cal := fun h => (by cases h), calM := fun h => (by cases h), calH := fun f fn hf hh hc => o.calH f fn hf hh hc, ins := o.ins, blt := o.blt, gl := o.gl,
    pin := fun a' cl' d' ⟨e1, e2, e3⟩ => (by subst e1 e2 e3; exact ⟨oe, List.mem_cons_self, ⟨hz.1, hz.2.1⟩, hv⟩), rx := o.rx, xt := o.xt, rel := o.rel }
theorem TopOk.suite (t : TopOk X C) {a : Addr} {pn : List (Addr × Obj)} : TopOk (X.suite a pn) { C with calm := false } := ⟨t.kind, (fun h => by cases h), t.stk, t.fr⟩
theorem rel_hnd (o : CxOk X C F RX W k) {c : String} {yes no : List String} (h : relB C [c] yes no = true) : ∃ vb, (X.mg (c : Str) = some vb ∨ (X.mg (c : Str) = none ∧ bootBuiltins (c : Str) = some vb ∧ (c : Str) ≠ "__name__")) ∧
    ∀ (n : String) C', PySem.W.nsIn X.K mainGlobals (n : Str) = some (some (.ref C')) → (yes.contains n = true → PySem.W.exmOne X.K (.ref C') vb = some true) ∧ (no.contains n = true → PySem.W.exmOne X.K (.ref C') vb = some false) := by
  unfold relB at h
  simp only [Bool.and_eq_true, List.all_eq_true, Bool.not_eq_true', List.any_cons, List.any_nil, Bool.or_false, List.mem_singleton, forall_eq] at h
  obtain ⟨⟨h0, hy⟩, hn⟩ := h
  have some_of : ∀ n ∈ yes ++ no, ∃ r, relOf C.rel n c = some r := fun n hm => by
    rcases List.mem_append.mp hm with z | z
    · exact ⟨true, by simpa using (hy n z).2⟩
    · exact ⟨false, by simpa using hn n z⟩
  obtain ⟨n0, hn0⟩ : ∃ n0, n0 ∈ yes ++ no := by
    cases e : yes ++ no with
    | nil => rw [e] at h0; cases h0
    | cons a l => exact ⟨a, List.mem_cons_self⟩
  obtain ⟨r0, hr0⟩ := some_of n0 hn0
  obtain ⟨_, vb, _, k2, _, _, _⟩ := (o.rel n0 c r0 hr0).ex
  refine ⟨vb, k2, fun n C' hC => ⟨fun hm => ?_, fun hm => ?_⟩⟩
  · obtain ⟨Ca, vb', g1, g2, _, g4, _⟩ := (o.rel n c true (by simpa using (hy n (by simpa using hm)).2)).ex
    rw [hC] at g1; cases g1
    rw [ask_uniq k2 g2]; exact g4
  · obtain ⟨Ca, vb', g1, g2, _, g4, _⟩ := (o.rel n c false (by simpa using hn n (by simpa using hm))).ex
    rw [hC] at g1; cases g1
    rw [ask_uniq k2 g2]; exact g4
mutual
theorem sS : ∀ (is : IS) {X : Cx} {C : Cs} {F : FS} {W : WX} {st : Stmt}, CxOk X C F RX W k → TopOk X C → chkS C is st = true → PS X st (liftS X.K RX W (wS F is))
  | .pass, X, C, F, W, st, o, t, h => by
    unfold chkS at h; split at h
    · exact js_pass
    · cases h
  | .brk, X, C, F, W, st, o, t, h => by
    unfold chkS at h; split at h
    · exact js_brk
    · cases h
  | .cnt, X, C, F, W, st, o, t, h => by
    unfold chkS at h; split at h
    · exact js_cnt
    · cases h
  | .ret e, X, C, F, W, st, o, t, h => by
    unfold chkS at h; split at h
    · exact js_ret o.mono (sE e o h)
    · cases h
  | .retN, X, C, F, W, st, o, t, h => by
    unfold chkS at h; split at h
    · exact js_retN
    · cases h
  | .retO i, X, C, F, W, st, o, t, h => by
    unfold chkS at h; split at h
    · obtain ⟨n1, n2, n3, n4⟩ := nm_of o h
      exact js_retO n1 n2 n3 n4
    · cases h
  | .exp e, X, C, F, W, st, o, t, h => by
    unfold chkS at h; split at h
    · obtain ⟨h1, h2⟩ := and2 h
      exact js_exp o.mono (sE e o h1) (sw_plain h2)
    · cases h
  | .asg tg e, X, C, F, W, st, o, t, h => by
    unfold chkS at h; split at h
    · obtain ⟨h1, h4⟩ := and2 h
      obtain ⟨h1, h3⟩ := and2 h1
      obtain ⟨h1, h2⟩ := and2 h1
      obtain ⟨g1, g2⟩ := tg_no h1
      exact js_asg o.mono (sE e o h2) (g_of o h1) (sws_plain h3) (st_tup h4 g1) (g2 _)
    · cases h
  | .unl is e, X, C, F, W, st, o, t, h => by
    unfold chkS at h; split at h
    · obtain ⟨h1, h6⟩ := and2 h
      obtain ⟨h1, h5⟩ := and2 h1
      obtain ⟨h1, h4⟩ := and2 h1
      obtain ⟨h1, h3⟩ := and2 h1
      obtain ⟨h1, h2⟩ := and2 h1
      obtain ⟨c1, c2, c3⟩ := gs_of o h2
      obtain ⟨g1, g2⟩ := tg_no h6
      exact js_unl o.mono (o.calm h1) (sE e o h3) c1 c2 c3 (sws_plain h4) (st_tup (by rw [h5, Bool.or_true]) g1) (g2 _)
    · cases h
  | .asgN i n, X, C, F, W, st, o, t, h => PS.imp (asg_ps o t h) fun D σ H h => asgN_go o.mono h
  | .asgM i n, X, C, F, W, st, o, t, h => PS.imp (asg_ps o t h) fun D σ H h => asgM_go o.mono h
  | .par i j a b, X, C, F, W, st, o, t, h => by
    unfold chkS at h; split at h
    · rename_i x px y py kt pt u v k2 pt2 pos
      simp only [Bool.and_eq_true, Bool.not_eq_true', beq_iff_eq] at h
      obtain ⟨⟨⟨⟨⟨⟨⟨⟨⟨⟨⟨⟨hcal, h1⟩, h2⟩, h3⟩, h4⟩, h5⟩, h6⟩, h7⟩, h8⟩, h9⟩, h10⟩, h11⟩, h12⟩ := h
      have hi : X.N[i]? = some x := by rw [o.N]; exact h1
      have hj : X.N[j]? = some y := by rw [o.N]; exact h2
      have hij : i ≠ j := by simpa using h5
      have hx := o.loc x h3
      have hy := o.loc y h4
      refine js_par o.mono (o.calm hcal) o.nd hi hj hij hx hy (sE a o h7) (sE b o h8) (star1 h9) (star1 h10) ?_ (sws_plain rfl)
      have hxy : x ≠ y := fun z => hij (nodup_ix o.nd hi (z ▸ hj))
      have hbk : X.env.blockKind = .function := by unfold PySem.Env.blockKind; rw [t.kind]; rfl
      have kx : X.env.kindOf x = some .local := hx
      have ky : X.env.kindOf y = some .local := hy
      exact swapped2 hbk kx ky hxy h6 h9 h10 h11 h12
    · cases h
  | .aug i op e, X, C, F, W, st, o, t, h => by
    unfold chkS at h; split at h
    · obtain ⟨h1, h3⟩ := and2 h
      obtain ⟨h1, h2⟩ := and2 h1
      obtain ⟨l1, l2, l3⟩ := lc_of o h1
      rw [bop_eq h2]
      exact js_aug o.mono o.nd l1 l2 (sE e o h3) l3
    · cases h
  | .app i e, X, C, F, W, st, o, t, h => by
    unfold chkS at h; split at h
    · simp only [Bool.and_eq_true, beq_iff_eq] at h
      obtain ⟨⟨⟨⟨h1, h2⟩, h3⟩, h4⟩, h5⟩ := h
      obtain ⟨n1, n2, n3, n4⟩ := nm_of o h2
      subst h1
      exact js_app o.mono n1 n2 n3 n4 (sE e o h3) (star1 h4) (by simpa using h5)
    · cases h
  | .set i kx e, X, C, F, W, st, o, t, h => by
    unfold chkS at h; split at h
    · simp only [Bool.and_eq_true] at h
      obtain ⟨⟨⟨⟨h1, h2⟩, h3⟩, h4⟩, h5⟩ := h
      obtain ⟨n1, n2, n3, n4⟩ := nm_of o h1
      exact js_set o.mono n1 n2 n3 n4 (sE e o h4) (sE kx o h2) (slice_no h3) (sws_plain h5) rfl
    · cases h
  | .pop i j, X, C, F, W, st, o, t, h => by
    unfold chkS at h; split at h
    · simp only [Bool.and_eq_true, beq_iff_eq] at h
      obtain ⟨⟨⟨h1, h2⟩, h3⟩, h4⟩ := h
      obtain ⟨n1, n2, n3, n4⟩ := nm_of o h2
      obtain ⟨l1, l2, l3⟩ := lc_of o h1
      subst h3
      exact js_pop o.mono o.nd l1 l2 l3 n1 n2 n3 n4 (by simpa using h4)
    · cases h
  | .mapp l e, X, C, F, W, st, o, t, h => by
    unfold chkS at h; split at h
    · simp only [Bool.and_eq_true, beq_iff_eq] at h
      obtain ⟨⟨⟨⟨⟨h1, h2⟩, h3⟩, h4⟩, h5⟩, h6⟩ := h
      subst h1
      exact js_mapp o.mono (sE l o h2) (sE e o h4) (star1 h5) (by rename_i x _ _ _ _; cases x <;> first | rfl | cases h3) (by simpa using h6)
    · cases h
  | .mset l kx e, X, C, F, W, st, o, t, h => by
    unfold chkS at h; split at h
    · simp only [Bool.and_eq_true] at h
      obtain ⟨⟨⟨⟨h1, h2⟩, h3⟩, h4⟩, h5⟩ := h
      exact js_mset o.mono (sE l o h1) (sE kx o h2) (sE e o h4) (slice_no h3) (sws_plain h5) rfl
    · cases h
  | .dset l kx e, X, C, F, W, st, o, t, h => by
    unfold chkS at h; split at h
    · simp only [Bool.and_eq_true] at h
      obtain ⟨⟨⟨⟨h1, h2⟩, h3⟩, h4⟩, h5⟩ := h
      exact js_dset o.mono o.hu (sE l o h1) (sE kx o h2) (sE e o h4) (slice_no h3) (sws_plain h5) rfl
    · cases h
  | .fset c f io e, X, C, F, W, st, o, t, h => by
    unfold chkS at h; split at h
    · rename_i x g ap v p
      simp only [Bool.and_eq_true, beq_iff_eq] at h
      obtain ⟨⟨⟨h1, h2⟩, h3⟩, h4⟩ := h
      subst h2
      obtain ⟨t', rfl, t1, t2⟩ := ic_of o h1
      exact js_fset o.mono t1 t2 (sE io o h3) (sE e o h4) (by cases v <;> rfl)
    · cases h
  | .maug l kx op e, X, C, F, W, st, o, t, h => by
    unfold chkS at h; split at h
    · simp only [Bool.and_eq_true] at h
      obtain ⟨⟨⟨⟨h1, h2⟩, h3⟩, h4⟩, h5⟩ := h
      rw [bop_eq h4]
      exact js_maug o.mono (sE l o h1) (sE kx o h2) (sE e o h5) (slice_no h3)
    · cases h
  | .ite c a b, X, C, F, W, st, o, t, h => by
    unfold chkS at h; split at h
    · obtain ⟨h1, h3⟩ := and2 h
      obtain ⟨h1, h2⟩ := and2 h1
      exact js_ite o.mono (sT c o h1) (sSs a o t h2) (sSs b o t h3)
    · cases h
  | .whl c b, X, C, F, W, st, o, t, h => by
    unfold chkS at h; split at h
    · obtain ⟨hcal, h⟩ := and2 h
      obtain ⟨h1, h2⟩ := and2 h
      exact js_whl o.mono (t.own hcal) (sT c o h1) (sSs b o t h2)
    · cases h
  | .for_ tg it b, X, C, F, W, st, o, t, h => by
    unfold chkS at h; split at h
    · obtain ⟨hcal, h⟩ := and2 h
      obtain ⟨h1, h4⟩ := and2 h
      obtain ⟨h1, h3⟩ := and2 h1
      obtain ⟨h1, h2⟩ := and2 h1
      exact js_for o.mono (t.own hcal) (o.calm hcal) (sI it o h2) (g_of o h1) (sSs b o t h4) (set_fold h3)
    · cases h
  | .dead, X, C, F, W, st, o, t, h => js_dead
  | .raise c fl es, X, C, F, W, st, o, t, h => by
    unfold chkS at h; split at h
    · rename_i x px xs pos pos2
      obtain ⟨h, h7⟩ := and2 h
      obtain ⟨h, h6⟩ := and2 h
      obtain ⟨h, h5⟩ := and2 h
      obtain ⟨h, h4⟩ := and2 h
      obtain ⟨h, h3⟩ := and2 h
      obtain ⟨h1, h2⟩ := and2 h
      obtain ⟨hx, g⟩ := gl_of o h2
      obtain ⟨t', ht, e⟩ := List.any_eq_true.mp h4
      simp only [Bool.and_eq_true, beq_iff_eq] at e
      obtain ⟨rfl, rfl⟩ := e
      cases xs with
      | nil => cases h6
      | cons e es' =>
        have st := stars_es h5
        have st' : notStar e = true ∧ es'.all notStar = true := by simpa using st
        exact js_raise o.mono (o.calm h1) o.tk o.rx (o.xt t' ht) (by have := o.room.dp; omega) g hx (by simpa using h7) (sEs es o h5) (by simpa [sDebug] using h3) (star1 st'.1) (stars_any st'.2)
    · cases h
  | .try_ b hs, X, C, F, W, st, o, t, h => by
    unfold chkS at h; split at h
    · rename_i body hds pos
      obtain ⟨h, h4⟩ := and2 h
      obtain ⟨h, h3⟩ := and2 h
      obtain ⟨h1, h2⟩ := and2 h
      obtain ⟨l, g1, g2⟩ := sHs hs o t h3
      cases hds with
      | nil => cases h4
      | cons h₀ hds =>
        exact js_try o.mono o.rx t.stk t.fr o.nd o.tk (fun W' pn xe tk ow => sSs b (o.tr h1 pn xe tk) (t.tr ow) h2) g1 g2
    · cases h
theorem sSs : ∀ (is : List IS) {X : Cx} {C : Cs} {F : FS} {W : WX} {st : List Stmt}, CxOk X C F RX W k → TopOk X C → chkSs C is st = true → PSs X st (liftS X.K RX W (wSs F is))
  | [], X, C, F, W, [], o, t, _ => js_nil'
  | [], X, C, F, W, _ :: _, o, t, h => by simp [chkSs] at h
  | _ :: _, X, C, F, W, [], o, t, h => by simp [chkSs] at h
  | i :: is, X, C, F, W, s :: ss, o, t, h => by
    simp only [chkSs, Bool.and_eq_true] at h
    exact js_cons' o.mono (sS i o t h.1) (sSs is o t h.2)
theorem sHs : ∀ (hs : IHs) {X : Cx} {C : Cs} {F : FS} {W : WX} {hds : List ExceptHandler}, CxOk X C F RX W k → TopOk X C → chkHs C hs hds = true → ∃ l, HdsG X hds l ∧ HsOk X.K RX F hs l
  | .nil, X, C, F, W, [], o, t, h => ⟨[], .nil, .nil⟩
  | .nil, X, C, F, W, _ :: _, o, t, h => by simp [chkHs] at h
  | .cons c yes no i b hs, X, C, F, W, [], o, t, h => by simp [chkHs] at h
  | .cons c yes no i b hs, X, C, F, W, hd :: hds, o, t, h => by
    unfold chkHs at h
    split at h
    · rename_i e _; cases e
    · rename_i c' yes' no' i' b' hs' x px n suite pos r e1 e2
      cases e1
      cases e2
      obtain ⟨h, h7⟩ := and2 h
      obtain ⟨h, h6⟩ := and2 h
      obtain ⟨h, h5⟩ := and2 h
      obtain ⟨h, h4⟩ := and2 h
      obtain ⟨h, h3⟩ := and2 h
      obtain ⟨h1, h2⟩ := and2 h
      obtain ⟨hx, g⟩ := gl_of o h1
      obtain ⟨l, g1, g2⟩ := sHs hs o t h7
      obtain ⟨vb, hnm, hrel⟩ := rel_hnd o h3
      have hN : Names X x vb := ⟨g, by simpa [sDebug] using h2, by rw [hx]; exact hnm⟩
      cases suite with
      | nil => cases h5
      | cons b₀ suite =>
        have hsu : ∀ (a : Addr) (oe : Obj) (cls : Value) (d : Option Addr) (pn : List (Addr × Obj)), L2N.Zn cls d oe → (∃ vs, oe.data = .fields vs) → PSs (X.suite a ((a, oe) :: pn)) (b₀ :: suite) (tsOf X.K RX F b a cls d) := fun a oe cls d pn hz hv => by
          have no : (∀ cl, cls ≠ .ref cl) → PSs (X.suite a ((a, oe) :: pn)) (b₀ :: suite) (tsOf X.K RX F b a cls d) := fun hne => ⟨fun pins s σ H D I ⟨cl, e, _⟩ => absurd e (hne cl)⟩
          cases cls with
          | ref cl =>
            refine PSs.imp (sSs b (o.suite (cl := cl) hz hv) (t.suite) h6) fun D σ H ⟨cl', e, q⟩ => ?_
            cases e
            exact q
          | _ => exact no fun cl z => by cases z
        cases i with
        | none =>
          cases n with
          | none => exact ⟨(vb, none, tsOf X.K RX F b) :: l, .cons hN hsu g1, .cons hrel g2⟩
          | some n => simp at h4
        | some i =>
          cases n with
          | none => simp at h4
          | some n =>
            simp only [Bool.and_eq_true, beq_iff_eq] at h4
            exact ⟨(vb, some i, tsOf X.K RX F b) :: l, .consAs hN (by rw [o.N]; exact h4.1) (o.loc n h4.2) hsu g1, .cons hrel g2⟩
    · cases h
end
end
end DL
/-! Defs, and the whole text. -/
namespace DL
open PySem PySem.Spec PyProof.Rows L2 DLX DLM
/-! ### a def of the text -/
def sLst (xs : List String) : List Str := xs.map fun (s : String) => (s : Str)
/-- what else is known of a text: defs that may be called where an error is handled; its classes of errors, which is one of which -/
structure Ex where
  hot : List Nat := []
  xt : List XCls := []
  rel : List (String × String × Bool) := []
  ics : List ICls := []
/-- the name by which its code is found -/
def Fn.qual (fn : Fn) : String := match fn.cls with | none => fn.name | some c => c ++ "." ++ fn.name
/-- the def at st is the def fn -/
def fnB (P : List Fn) (gl : List (String × D)) (ex : Ex) (calm : Bool) (fn : Fn) (st : Stmt) : Bool :=
  let N := sLst fn.slots
  let ps := N.take fn.arity
  let sc := defScope st
  (sc.kind == .function) && !sc.isCoroutine && !sc.isGenerator && nodB N && (ps.length == fn.arity) && (ps.all fun x => locK (sc.names.lookup x)) && (sc.names.all fun y => !(y.2 == .free)) && argsB (defArgs st) ps &&
    chkSs ⟨N, sc.names, P, gl, calm, ex.hot, ex.xt, ex.rel, ex.ics⟩ fn.body (defBody st)
section
variable {P : List Fn} {gl : List (String × D)} {ex : Ex} {calm : Bool} {fn : Fn} {st : Stmt}
theorem fnB_scope (h : fnB P gl ex calm fn st = true) : FnScope (sLst fn.slots) ((sLst fn.slots).take fn.arity) (defScope st) ∧ argsB (defArgs st) ((sLst fn.slots).take fn.arity) = true ∧
    chkSs ⟨sLst fn.slots, (defScope st).names, P, gl, calm, ex.hot, ex.xt, ex.rel, ex.ics⟩ fn.body (defBody st) = true ∧ ((sLst fn.slots).take fn.arity).length = fn.arity := by
  unfold fnB at h
  simp only [Bool.and_eq_true, Bool.not_eq_true', beq_iff_eq] at h
  obtain ⟨⟨⟨⟨⟨⟨⟨⟨h1, h2⟩, h3⟩, h4⟩, h5⟩, h6⟩, h7⟩, h8⟩, h9⟩ := h
  refine ⟨⟨h1, h2, h3, nodB_ok h4, ?_, fun x hx => ?_, fun y hy => ?_⟩, h8, h9, h5⟩
  · rw [h5]
  · have := List.all_eq_true.mp h6 x hx
    unfold locK at this
    split at this
    · rename_i e; exact .inl e
    · rename_i e; exact .inr e
    · cases this
  · have := List.all_eq_true.mp h7 y hy
    simpa using this
theorem fnB_binds {K : PySem.W.Frag} {x y : Str} {f : Addr} {fd : FuncData} (h : fnB P gl ex calm fn st = true) (Fn : L2.Fun K x y st f fd) : Binds K fd ((sLst fn.slots).take fn.arity) [] := by
  obtain ⟨sc, ha, _, _⟩ := fnB_scope h
  obtain ⟨as, e, hp⟩ := args_of ha
  refine Fn.binds fun kV doc pm an cdv ct us hl => ?_
  rw [← hp] at hl ⊢
  have nd : (as.map (·.arg)).Nodup := by
    rw [hp]; exact sc.nd.sublist (List.take_sublist _ _)
  exact bind_plain e rfl (by simpa using hl) nd
end
/-- where the defs of the text stand -/
def Loc (K : PySem.W.Frag) (mg : Str → Option Value) (fn : Fn) (f : Addr) : Prop := match fn.cls with
  | none => mg fn.name = some (.ref f)
  | some c => ∃ Ca, PySem.W.nsIn K mainGlobals (c : Str) = some (some (.ref Ca)) ∧ Meth K Ca (fn.name : Str) f
structure At (K : PySem.W.Frag) (mg : Str → Option Value) (fn : Fn) (st : Stmt) : Prop where
  ex : ∃ f fd, Loc K mg fn f ∧ L2.Fun K fn.name fn.qual st f fd
def Ats (K : PySem.W.Frag) (mg : Str → Option Value) : List (Fn × Stmt) → Prop
  | [] => True
  | (fn, st) :: r => At K mg fn st ∧ Ats K mg r
theorem Ats.get {K : PySem.W.Frag} {mg : Str → Option Value} : ∀ {T : List (Fn × Stmt)} {i : Nat} {fn : Fn}, Ats K mg T → (T.map (·.1))[i]? = some fn → ∃ st, (fn, st) ∈ T ∧ At K mg fn st
  | [], _, _, _, e => by simp at e
  | (fn, st) :: r, 0, _, h, e => by
    simp at e; subst e
    exact ⟨st, List.mem_cons_self, h.1⟩
  | (_, _) :: r, i + 1, _, h, e => by
    obtain ⟨st, h1, h2⟩ := Ats.get (T := r) (i := i) h.2 (by simpa using e)
    exact ⟨st, List.mem_cons_of_mem _ h1, h2⟩
/-- the text -/
structure Tx (T : List (Fn × Stmt)) (gl : List (String × D)) (ex : Ex) : Prop where
  ok : (T.all fun p => fnB (T.map (·.1)) gl ex true p.1 p.2) = true
  hot : (ex.hot.all fun i => match T[i]? with | some p => fnB (T.map (·.1)) gl ex false p.1 p.2 | none => false) = true
/-- what the written part says of the classes of errors -/
structure Xs (prog : Program) (K : PySem.W.Frag) (mg : Str → Option Value) (ex : Ex) : Prop where
  xt : ∀ c ∈ ex.xt, ClsOk prog K mg c
  rel : ∀ a b r, relOf ex.rel a b = some r → RelOk K mg a b r
  ins : ∀ c ∈ ex.ics, InsOk K mg c
section
variable {T : List (Fn × Stmt)} {gl : List (String × D)} {ex : Ex} {Pg : Program} {w : World} {K : PySem.W.Frag} {mg : Str → Option Value} {base : Heap} {RX : RXT}
theorem start_ok {H : Hp} {M : Mem} {ds : List D} {vs : List V} {N : List Str} {m : Nat} (hm : m = N.length - ds.length) (r : Reps K H ds vs) (hM : MemOk K H M) : StE K (L2.start N vs) H (ds.map Slot.val ++ List.replicate m .no) M where
  len := by simp [L2.start, hm, r.length]
  vals := fun i d e => by
    by_cases hi : i < ds.length
    · rw [List.getElem?_append_left (by simpa using hi), List.getElem?_map] at e
      cases e2 : ds[i]? with
      | none => rw [e2] at e; cases e
      | some d' =>
        rw [e2] at e
        simp only [Option.map_some, Option.some.injEq, Slot.val.injEq] at e
        subst e
        obtain ⟨v, h1, h2⟩ := r.get e2
        refine ⟨v, ?_, h2⟩
        unfold L2.start
        rw [List.getElem?_append_left (by rw [List.length_map, ← r.length]; exact hi), List.getElem?_map, h1]; rfl
    · rw [List.getElem?_append_right (by simpa using hi)] at e
      have := List.mem_of_getElem? e
      cases List.eq_of_mem_replicate this
  owns := fun i p o e => by
    by_cases hi : i < ds.length
    · rw [List.getElem?_append_left (by simpa using hi), List.getElem?_map] at e
      cases e2 : ds[i]? with
      | none => rw [e2] at e; cases e
      | some d' => rw [e2] at e; cases e
    · rw [List.getElem?_append_right (by simpa using hi)] at e
      have := List.mem_of_getElem? e
      cases List.eq_of_mem_replicate this
  inj := fun i j p o o' e _ => by
    exfalso
    by_cases hi : i < ds.length
    · rw [List.getElem?_append_left (by simpa using hi), List.getElem?_map] at e
      cases e2 : ds[i]? with
      | none => rw [e2] at e; cases e
      | some d' => rw [e2] at e; cases e
    · rw [List.getElem?_append_right (by simpa using hi)] at e
      have := List.mem_of_getElem? e
      cases List.eq_of_mem_replicate this
  mem := hM
  excs := fun i a cl d x e => by
    exfalso
    by_cases hi : i < ds.length
    · rw [List.getElem?_append_left (by simpa using hi), List.getElem?_map] at e
      cases e2 : ds[i]? with
      | none => rw [e2] at e; cases e
      | some d' => rw [e2] at e; cases e
    · rw [List.getElem?_append_right (by simpa using hi)] at e
      have := List.mem_of_getElem? e
      cases List.eq_of_mem_replicate this
theorem no_own {ds : List D} {m : Nat} : ∀ (i : Nat) q o', (ds.map Slot.val ++ List.replicate m .no)[i]? = some (.own q o') → False := fun i p o e => by
  by_cases hi : i < ds.length
  · rw [List.getElem?_append_left (by simpa using hi), List.getElem?_map] at e
    cases e2 : ds[i]? with
    | none => rw [e2] at e; cases e
    | some d' => rw [e2] at e; cases e
  · rw [List.getElem?_append_right (by simpa using hi)] at e
    have := List.mem_of_getElem? e
    cases List.eq_of_mem_replicate this
theorem no_pin {P : List Fn} : ∀ {n : Nat} {a cl : Nat} {d : Option Nat}, ¬ (wFn P n).pin a cl d
  | 0, _, _, _ => id
  | _ + 1, _, _, _ => id
/-- THE THEOREM: each def does what the small language says of it -/
theorem defs_ok2 (tx : Tx T gl ex) (xs : Xs Pg K mg ex) (at_ : Ats K mg T) (blt : ∀ x, x ∈ bltNames → mg x = none) (hgl : ∀ x d, gl.lookup x = some d → ∃ v u, mg x = some u ∧ RelV v u ∧ ∀ H, Rep K H d v) :
    ∀ (n : Nat), (∀ (f : Nat) (fn : Fn), (T.map (·.1))[f]? = some fn → ∀ st, (fn, st) ∈ T → ∀ a fd, L2.Fun K fn.name fn.qual st a fd →
      FnOk Pg w K mg base (L2N.CX Pg w) (2 * n) a fd ((sLst fn.slots).take fn.arity) (spL K (RXK K) (wFn (T.map (·.1)) n f))) ∧
      ∀ (f : Nat) (fn : Fn), ex.hot.contains f = true → ∀ st, T[f]? = some (fn, st) → ∀ a fd, L2.Fun K fn.name fn.qual st a fd →
      L2H.FnH Pg w K mg base (L2N.CX Pg w) (2 * n) a fd ((sLst fn.slots).take fn.arity) (spL K (RXK K) (wFn (T.map (·.1)) n f))
  | 0 => ⟨fun f fn hf st hm a fd h2 => ⟨fun vs H Q E h => (by obtain ⟨ds, M, _, _, w⟩ := h; exact w.elim), fun A outer s H args us vs Q E _ _ _ _ h => (by obtain ⟨ds, M, _, _, w⟩ := h; exact w.elim)⟩,
      fun f fn hh st hf a fd h2 => ⟨fun vs H Q E h => (by obtain ⟨ds, M, _, _, w⟩ := h; exact w.elim), fun A outer s H args us vs Q E p _ _ _ _ _ _ h => (by obtain ⟨ds, M, _, _, w⟩ := h; exact w.elim)⟩⟩
  | n + 1 => by
    obtain ⟨ih1, ih2⟩ := defs_ok2 tx xs at_ blt hgl n
    have calL : ∀ g gn, (T.map (·.1))[g]? = some gn → ∃ f fd ps, Loc K mg gn f ∧ PySem.W.keepIn K (.ref f) = true ∧ Binds K fd ps [] ∧ FnOk Pg w K mg base (L2N.CX Pg w) (2 * n) f fd ps (spL K (RXK K) (wFn (T.map (·.1)) n g)) := fun g gn hg => by
      obtain ⟨st', hm', ⟨a', fd', g1, g2⟩⟩ := Ats.get at_ hg
      exact ⟨a', fd', _, g1, g2.kp, fnB_binds (List.all_eq_true.mp tx.ok _ hm') g2, ih1 g gn hg st' hm' a' fd' g2⟩
    have cal : ∀ g gn, (T.map (·.1))[g]? = some gn → gn.cls = none → ∃ f fd ps, mg gn.name = some (.ref f) ∧ PySem.W.keepIn K (.ref f) = true ∧ Binds K fd ps [] ∧ FnOk Pg w K mg base (L2N.CX Pg w) (2 * n) f fd ps (spL K (RXK K) (wFn (T.map (·.1)) n g)) := fun g gn hg hc => by
      obtain ⟨f, fd, ps, h1, h2⟩ := calL g gn hg
      unfold Loc at h1; rw [hc] at h1
      exact ⟨f, fd, ps, h1, h2⟩
    have calM : ∀ g gn (c : String), (T.map (·.1))[g]? = some gn → gn.cls = some c → ∃ f fd ps Ca, PySem.W.nsIn K mainGlobals (c : Str) = some (some (.ref Ca)) ∧ Meth K Ca (gn.name : Str) f ∧ Binds K fd ps [] ∧ FnOk Pg w K mg base (L2N.CX Pg w) (2 * n) f fd ps (spL K (RXK K) (wFn (T.map (·.1)) n g)) := fun g gn c hg hc => by
      obtain ⟨f, fd, ps, h1, h2, h3⟩ := calL g gn hg
      unfold Loc at h1; rw [hc] at h1
      obtain ⟨Ca, h1, h4⟩ := h1
      exact ⟨f, fd, ps, Ca, h1, h4, h3⟩
    have calH : ∀ g gn, (T.map (·.1))[g]? = some gn → ex.hot.contains g = true → gn.cls = none → ∃ f fd ps, mg gn.name = some (.ref f) ∧ PySem.W.keepIn K (.ref f) = true ∧ Binds K fd ps [] ∧ L2H.FnH Pg w K mg base (L2N.CX Pg w) (2 * n) f fd ps (spL K (RXK K) (wFn (T.map (·.1)) n g)) := fun g gn hg hh hc => by
      rw [List.getElem?_map] at hg
      obtain ⟨⟨gn', st'⟩, hT, rfl⟩ := Option.map_eq_some_iff.mp hg
      have hm' := List.mem_of_getElem? hT
      have at' : ∀ {T : List (Fn × Stmt)}, Ats K mg T → ∀ p ∈ T, At K mg p.1 p.2 := fun {T} h p hp => by
        induction T with
        | nil => cases hp
        | cons q T ih =>
          rcases List.mem_cons.mp hp with z | z
          · subst z; exact h.1
          · exact ih h.2 z
      obtain ⟨a', fd', g1, g2⟩ := (at' at_ _ hm').ex
      unfold Loc at g1; rw [hc] at g1
      exact ⟨a', fd', _, g1, g2.kp, fnB_binds (List.all_eq_true.mp tx.ok _ hm') g2, ih2 g gn' hh st' hT a' fd' g2⟩
    have body : ∀ {X : Cx} {s : Shared} {H : Hp} {M : Mem} {ds : List D} {vs : List V} {Q : VK} {E : XK} {calm : Bool} {fn : Fn} {st : Stmt} {f : Nat}, X.K = K → CxOk X ⟨sLst fn.slots, (defScope st).names, T.map (·.1), gl, calm, ex.hot, ex.xt, ex.rel, ex.ics⟩ (wFn (T.map (·.1)) n) (RXK K) (fun cls d _ H => E cls d H) (2 * n) →
        TopOk X ⟨sLst fn.slots, (defScope st).names, T.map (·.1), gl, calm, ex.hot, ex.xt, ex.rel, ex.ics⟩ → chkSs ⟨sLst fn.slots, (defScope st).names, T.map (·.1), gl, calm, ex.hot, ex.xt, ex.rel, ex.ics⟩ fn.body (defBody st) = true →
        Reps K H ds vs → MemOk K H M → wSs (wFn (T.map (·.1)) n) fn.body (ds.map Slot.val ++ List.replicate (fn.slots.length - ds.length) .no) M
          { nx := fun _ M' => ∃ M'', Sub M'' M' ∧ (fun (d : D) M' => ∀ v H', Ext [] H M H' M' → MemOk K H' M' → Rep K H' d v → Q v H') .non M'', rt := fun d M' => ∃ M'', Sub M'' M' ∧ ∀ v H', Ext [] H M H' M'' → MemOk K H' M'' → Rep K H' d v → Q v H', bk := fun _ _ => False, ct := fun _ _ => False, xc := fun x _ M' => ∃ M'', Sub M'' M' ∧ ∀ c dd H', Ext [] H M H' M'' → MemOk K H' M'' → RXK K H' c dd x → E c dd H' } →
        ∃ t, PSs X (defBody st) t ∧ t { nx := fun _ H' => Q .non H', rt := Q } (L2.start (sLst fn.slots) vs) H := by
      intro X s H M ds vs Q E calm fn st f hK o tp hc hrp hM q
      refine ⟨_, sSs fn.body o tp hc, _, M, Fg [] H M, by rw [hK]; exact start_ok (N := sLst fn.slots) (by simp [sLst]) hrp hM, fun b u e => ?_, wSs_mono (wFn_mono _ n) fn.body ?_ q⟩
      · obtain ⟨k1, k2, _⟩ := Fg_bo b u e
        exact ⟨k1, k2, fun i q o' e' => (no_own i q o' e').elim⟩
      · have fin : ∀ {H' : Hp} {M1 M2 : Mem}, BR (Fg [] H M) H' M1 → Sub M2 M1 → Ext [] H M H' M2 := fun b sb c u e nM k => by
          obtain ⟨k1, k2⟩ := b c u (Fg_in e nM fun i q o' e' => by simp at e')
          exact ⟨k1, sb.none k2⟩
        rw [hK]
        exact ⟨fun e m ⟨M2, sb, q⟩ σ' H' s' b' => q .non H' (fin b'.br sb) (fun c u e => s'.mem c u (sb c u e)) rfl,
          fun d m ⟨M2, sb, q⟩ v H' m' b' r => q v H' (fin b' sb) (fun c u e => m' c u (sb c u e)) r,
          fun _ _ z => z.elim, fun _ _ z => z.elim,
          fun x e m ⟨M2, sb, q⟩ c dd σ' H' s' b' rx => q c dd H' (fin b'.br sb) (fun c u e => s'.mem c u (sb c u e)) rx⟩
    refine ⟨fun f fn hf st hm a fd h2 => ?_, fun f fn hh st hT a fd h2 => ?_⟩
    · have hb := List.all_eq_true.mp tx.ok _ hm
      obtain ⟨sc, _, hc, hlen⟩ := fnB_scope hb
      obtain ⟨oc, od, kV, doc, pm, an, cdv, ct, osl, rfl, lk, hcd⟩ := h2.ex
      refine fn_of lk hcd sc (fun vs H Q E h => ?_) fun A outer s H vs Q E hr h => ?_
      · obtain ⟨ds, M, hr, hM, fn', hf', hl, _⟩ := h
        rw [hf] at hf'; cases hf'
        rw [← hr.length, hl, hlen]
      · obtain ⟨ds, M, hrp, hM, fn', hf', hl, q⟩ := h
        rw [hf] at hf'; cases hf'
        have tk : L2N.Takes (cxOf (L2N.CX Pg w) Pg w K mg base (sLst fn.slots) fn.qual (defScope st) a cdv A outer s H E) (fun cls d _ H => E cls d H) := L2N.takes_of rfl rfl rfl rfl
        have ow : PassesOwn (model Pg w) (cxOf (L2N.CX Pg w) Pg w K mg base (sLst fn.slots) fn.qual (defScope st) a cdv A outer s H E).A (cxOf (L2N.CX Pg w) Pg w K mg base (sLst fn.slots) fn.qual (defScope st) a cdv A outer s H E).env (cxOf (L2N.CX Pg w) Pg w K mg base (sLst fn.slots) fn.qual (defScope st) a cdv A outer s H E).xe := passes_of rfl
        refine body (X := cxOf (L2N.CX Pg w) Pg w K mg base (sLst fn.slots) fn.qual (defScope st) a cdv A outer s H E) (s := s) (calm := true) (f := f) rfl
          { N := rfl, nd := sc.nd, loc := fun x h => h, cel := fun x h => ⟨h, rfl⟩, fre := fun x h => .inr h, glo := fun x h => h, calm := fun _ => rfl, hdl := fun _ => hr.hd, np := fun _ _ _ _ => no_pin, hot := fun h => (by cases h), room := ⟨hr.dp, hr.un⟩, mono := wFn_mono _ n, tk := tk,
            cal := fun _ g gn hg hc => cal g gn hg hc, calM := fun _ g gn c hg hc => calM g gn c hg hc, calH := fun g gn hg hh hc => calH g gn hg hh hc, ins := xs.ins, blt := blt, gl := hgl, pin := fun _ _ _ z => absurd z no_pin, rx := rfl, xt := xs.xt, rel := xs.rel } ⟨sc.kind, fun _ => ow, rfl, rfl⟩ hc hrp hM q
    · have hm := List.mem_of_getElem? hT
      have hf : (T.map (·.1))[f]? = some fn := by rw [List.getElem?_map, hT]; rfl
      have hb : fnB (T.map (·.1)) gl ex false fn st = true := by
        have := List.all_eq_true.mp tx.hot f (by simpa using hh)
        rw [hT] at this
        exact this
      obtain ⟨sc, _, hc, hlen⟩ := fnB_scope hb
      obtain ⟨oc, od, kV, doc, pm, an, cdv, ct, osl, rfl, lk, hcd⟩ := h2.ex
      refine L2H.fn_ofH lk hcd sc (fun vs H Q E h => ?_) fun A outer s H vs Q E p hot hr h => ?_
      · obtain ⟨ds, M, hr, hM, fn', hf', hl, _⟩ := h
        rw [hf] at hf'; cases hf'
        rw [← hr.length, hl, hlen]
      · obtain ⟨ds, M, hrp, hM, fn', hf', hl, q⟩ := h
        rw [hf] at hf'; cases hf'
        have tk : L2N.Takes (L2H.cxH (L2N.CX Pg w) Pg w K mg base (sLst fn.slots) fn.qual (defScope st) a cdv A outer s H E p) (fun cls d _ H => E cls d H) := L2N.takes_of rfl rfl rfl rfl
        refine body (X := L2H.cxH (L2N.CX Pg w) Pg w K mg base (sLst fn.slots) fn.qual (defScope st) a cdv A outer s H E p) (s := s) (calm := false) (f := f) rfl
          { N := rfl, nd := sc.nd, loc := fun x h => h, cel := fun x h => ⟨h, rfl⟩, fre := fun x h => .inr h, glo := fun x h => h, calm := fun h => (by cases h), hdl := fun h => (by cases h), np := fun h => (by cases h), hot := fun _ => ⟨p, hot, List.mem_singleton.mpr rfl⟩, room := hr, mono := wFn_mono _ n, tk := tk,
            cal := fun h => (by cases h), calM := fun h => (by cases h), calH := fun g gn hg hh hc => calH g gn hg hh hc, ins := xs.ins, blt := blt, gl := hgl, pin := fun _ _ _ z => absurd z no_pin, rx := rfl, xt := xs.xt, rel := xs.rel } ⟨sc.kind, fun h => (by cases h), rfl, rfl⟩ hc hrp hM q
end
end DL
/-! The law's own end. -/
namespace DL
open PySem PySem.Spec PyProof.Rows L2 DLX DLM
theorem at_mk {K : PySem.W.Frag} {h : Heap} {mg : Str → Option Value} {fn : Fn} {st : Stmt} {x : String} {f : Addr} {od an : Option Addr} {sl : Array (Option Value)} {oc kV dc pm cd ct : Value} (hx : fn.name = x) (X : K.In h) (G : h.Ns mainGlobals mg)
    (hcl : fn.cls = none) (a : PySem.W.nsIn K mainGlobals (x : Str) = some (some (.ref f))) (l : K.lookup f = some ⟨oc, od, .func (PySem.W.fnOf (x : Str) (x : Str) (defArgs st) (defBody st) (defScope st) .none kV dc pm an cd ct), sl⟩)
    (c : PySem.W.codeIn K cd (x : Str) = true) (k : PySem.W.keepIn K (.ref f) = true) : At K mg fn st := by
  subst hx
  have hq : fn.qual = fn.name := by unfold Fn.qual; rw [hcl]
  refine ⟨f, PySem.W.fnOf (fn.name : Str) (fn.name : Str) (defArgs st) (defBody st) (defScope st) .none kV dc pm an cd ct, ?_, ?_⟩
  · unfold Loc; rw [hcl]
    exact PySem.W.mg_of X G a
  · rw [hq]
    exact fun_mk l c k
/-- what the written part says of a class of the text, by a check -/
def icsB (K : PySem.W.Frag) (c : ICls) : Bool := match clsAt K c.name with
  | some C => PySem.W.plainGet K C Str.empty && PySem.W.hasDictIn K C && PySem.W.plainOver K C && (PySem.W.findIn K (.ref C) ("__setattr__" : Str) == some (some (.builtin "object.__setattr__"))) && PySem.W.makesIn K C && PySem.W.keepIn K (.ref C) && c.fields.all fun f => PySem.W.findIn K (.ref C) (f : Str) == some none
  | none => false
theorem icsB_ok {K : PySem.W.Frag} {h : Heap} {mg : Str → Option Value} {c : ICls} (X : K.In h) (G : h.Ns mainGlobals mg) (hc : icsB K c = true) : InsOk K mg c := by
  unfold icsB at hc
  split at hc
  · rename_i C e
    have e := clsAt_ns e
    simp only [Bool.and_eq_true, beq_iff_eq] at hc
    obtain ⟨⟨⟨⟨⟨⟨h1, h2⟩, h3⟩, h4⟩, h5⟩, h6⟩, h7⟩ := hc
    refine ⟨C, e, PySem.W.mg_of X G e, ⟨h1, h2, h3, h4⟩, h5, h6, fun f hf => ?_⟩
    have := List.all_eq_true.mp h7 f hf
    unfold NoAttr
    simpa using this
  · cases hc
theorem Ats.nil' {K : PySem.W.Frag} {mg : Str → Option Value} : Ats K mg [] := trivial
theorem Ats.cons' {K : PySem.W.Frag} {mg : Str → Option Value} {fn : Fn} {st : Stmt} {r : List (Fn × Stmt)} (h : At K mg fn st) (hr : Ats K mg r) : Ats K mg ((fn, st) :: r) := ⟨h, hr⟩
/-- names that are not written -/
def Nos (K : PySem.W.Frag) : List String → Prop
  | [] => True
  | x :: r => PySem.W.nsIn K mainGlobals (x : Str) = some none ∧ Nos K r
theorem nos_ok {K : PySem.W.Frag} {h : Heap} {mg : Str → Option Value} (X : K.In h) (G : h.Ns mainGlobals mg) : ∀ {xs : List String}, Nos K xs → ∀ y ∈ sLst xs, mg y = none
  | [], _, y, hy => by simp [sLst] at hy
  | x :: xs, n, y, hy => by
    rcases List.mem_cons.mp hy with z | z
    · subst z; exact PySem.W.mg_none_of X G n.1
    · exact nos_ok X G n.2 y z
/-! a written value stands for a datum -/
mutual
def repV (K : PySem.W.Frag) : D → Value → Bool
  | .non, u => (match u with | .none => true | _ => false)
  | .bl b, u => (match u with | .bool c => b == c | _ => false)
  | .int i, u => (match u with | .int j _ => i == j | _ => false)
  | .str x, u => (match u with | .str y _ => x == y | _ => false)
  | .tup ds, u => (match u with
    | .ref a => (match K.lookup a with
      | some ⟨.type n, _, .seq its _, _⟩ => (n == "tuple") && decide (its.size ≤ sizeLine) && repVs K ds its.toList
      | _ => false)
    | _ => false)
  | _, _ => false
def repVs (K : PySem.W.Frag) : List D → List Value → Bool
  | [], [] => true
  | d :: ds, u :: us => repV K d u && repVs K ds us
  | _, _ => false
end
mutual
theorem repV_ok {K : PySem.W.Frag} : ∀ {d : D} {u : Value}, repV K d u = true → ∃ v, RelV v u ∧ ∀ H, Rep K H d v
  | .non, u, h => by
    unfold repV at h; split at h
    · exact ⟨.non, rfl, fun _ => rfl⟩
    · cases h
  | .bl b, u, h => by
    unfold repV at h; split at h
    · rw [beq_iff_eq] at h; subst h; exact ⟨.bl _, rfl, fun _ => rfl⟩
    · cases h
  | .int i, u, h => by
    unfold repV at h; split at h
    · rw [beq_iff_eq] at h; subst h; exact ⟨.int _, ⟨_, rfl⟩, fun _ => rfl⟩
    · cases h
  | .str x, u, h => by
    unfold repV at h; split at h
    · rw [beq_iff_eq] at h; subst h; exact ⟨.str _, ⟨_, rfl⟩, fun _ => rfl⟩
    · cases h
  | .tup ds, u, h => by
    unfold repV at h; split at h
    · rename_i a
      split at h
      · rename_i n dd its k sl e
        simp only [Bool.and_eq_true, beq_iff_eq, decide_eq_true_eq] at h
        obtain ⟨⟨rfl, h2⟩, h3⟩ := h
        obtain ⟨vs, h4, h5⟩ := repVs_ok h3
        exact ⟨.ref a, rfl, fun H => ⟨a, vs, rfl, .inr ⟨_, its, k, e, rfl, rfl, h2, h4⟩, h5 H⟩⟩
      · cases h
    · cases h
  | .ref _, u, h => by simp [repV] at h
  | .rl _, u, h => by simp [repV] at h
theorem repVs_ok {K : PySem.W.Frag} : ∀ {ds : List D} {us : List Value}, repVs K ds us = true → ∃ vs, Vals vs us ∧ ∀ H, Reps K H ds vs
  | [], [], _ => ⟨[], .nil, fun _ => rfl⟩
  | [], _ :: _, h => by simp [repVs] at h
  | _ :: _, [], h => by simp [repVs] at h
  | d :: ds, u :: us, h => by
    have h' : repV K d u = true ∧ repVs K ds us = true := by simpa [repVs] using h
    obtain ⟨v, h1, h2⟩ := repV_ok h'.1
    obtain ⟨vs, h3, h4⟩ := repVs_ok h'.2
    exact ⟨v :: vs, .cons h1 h3, fun H => ⟨v, vs, rfl, h2 H, h4 H⟩⟩
end
/-- the globals that are read -/
def Gls (K : PySem.W.Frag) : List (String × D) → Prop
  | [] => True
  | (x, d) :: r => (∃ u, PySem.W.nsIn K mainGlobals (x : Str) = some (some u) ∧ repV K d u = true) ∧ Gls K r
theorem gls_ok {K : PySem.W.Frag} {h : Heap} {mg : Str → Option Value} (X : K.In h) (G : h.Ns mainGlobals mg) : ∀ {gl : List (String × D)}, Gls K gl → ∀ x d, gl.lookup x = some d → ∃ v u, mg x = some u ∧ RelV v u ∧ ∀ H, Rep K H d v
  | [], _, x, d, e => by cases e
  | (y, d') :: r, n, x, d, e => by
    rw [List.lookup_cons] at e
    split at e
    · rename_i h'
      cases e
      obtain ⟨u, h1, h2⟩ := n.1
      obtain ⟨v, h3, h4⟩ := repV_ok h2
      rw [beq_iff_eq] at h'
      subst h'
      exact ⟨v, u, PySem.W.mg_of X G h1, h3, h4⟩
    · exact gls_ok X G n.2 x d e
/-! what the written part says of the classes of errors, by a check -/
def clsB (prog : Program) (K : PySem.W.Frag) (c : XCls) : Bool := match clsAt K c.name with
  | some C => excB K C && oexB K C && ownB prog K C (fStr c.fields) && nodB (fStr c.fields)
  | none => false
def valB (K : PySem.W.Frag) (Ca : Addr) (r : Bool) (v : Value) : Bool := (clsV v).isSome && (PySem.W.exmOne K (.ref Ca) v == some r) && (PySem.W.kitOne K (.ref Ca) v == some r)
def relKB (K : PySem.W.Frag) (t : String × String × Bool) : Bool := match clsAt K t.1 with
  | some Ca => (match PySem.W.nsIn K mainGlobals (t.2.1 : Str) with
    | some (some v) => valB K Ca t.2.2 v
    | some none => (bootBuiltins (t.2.1 : Str) == some (.type t.2.1)) && !((t.2.1 : Str) == ("__name__" : Str)) && valB K Ca t.2.2 (.type t.2.1)
    | none => false)
  | none => false
def xsB (prog : Program) (K : PySem.W.Frag) (ex : Ex) : Bool := ex.xt.all (clsB prog K) && ex.rel.all (relKB K) && ex.ics.all (icsB K)
theorem valB_ok {K : PySem.W.Frag} {Ca : Addr} {r : Bool} {v : Value} (h : valB K Ca r v = true) : (∃ w, clsV v = some w) ∧ PySem.W.exmOne K (.ref Ca) v = some r ∧ PySem.W.kitOne K (.ref Ca) v = some r := by
  unfold valB at h
  simp only [Bool.and_eq_true, beq_iff_eq] at h
  exact ⟨Option.isSome_iff_exists.mp h.1.1, h.1.2, h.2⟩
theorem xs_ok {prog : Program} {K : PySem.W.Frag} {h : Heap} {mg : Str → Option Value} {ex : Ex} (X : K.In h) (G : h.Ns mainGlobals mg) (hx : xsB prog K ex = true) : Xs prog K mg ex := by
  unfold xsB at hx
  obtain ⟨h12, h3⟩ := and2 hx
  obtain ⟨h1, h2⟩ := and2 h12
  refine ⟨fun c hc => ?_, fun a b r hr => ?_, fun c hc => icsB_ok X G (List.all_eq_true.mp h3 c hc)⟩
  · have := List.all_eq_true.mp h1 c hc
    unfold clsB at this
    split at this
    · rename_i C e
      have e := clsAt_ns e
      obtain ⟨q, g4⟩ := and2 this
      obtain ⟨q, g3⟩ := and2 q
      obtain ⟨g1, g2⟩ := and2 q
      exact ⟨C, e, PySem.W.mg_of X G e, excB_ok g1, oexB_ok g2, ownB_ok (fun z => PySem.W.mg_none_of X G z) g3, nodB_ok g4⟩
    · cases this
  · unfold relOf at hr
    obtain ⟨t, ht, rfl⟩ := Option.map_eq_some_iff.mp hr
    have hm := List.mem_of_find?_eq_some ht
    have hp := List.find?_some ht
    simp only [Bool.and_eq_true, beq_iff_eq] at hp
    obtain ⟨rfl, rfl⟩ := hp
    have := List.all_eq_true.mp h2 t hm
    unfold relKB at this
    split at this
    · rename_i Ca e
      have e := clsAt_ns e
      split at this
      · rename_i v ev
        obtain ⟨k1, k2, k3⟩ := valB_ok this
        exact ⟨Ca, v, e, .inl (PySem.W.mg_of X G ev), k1, k2, k3⟩
      · rename_i ev
        obtain ⟨q, g3⟩ := and2 this
        obtain ⟨g1, g2⟩ := and2 q
        obtain ⟨k1, k2, k3⟩ := valB_ok g3
        exact ⟨Ca, _, e, .inr ⟨PySem.W.mg_none_of X G ev, by simpa using g1, by simpa using g2⟩, k1, k2, k3⟩
      · cases this
    · cases this
/-- what a law's def promises -/
def spLaw (K : PySem.W.Frag) (t : List D → Mem → QE → QX → Prop) : Sp := spL K (RXK K) t
theorem law_F {T : List (Fn × Stmt)} {gl : List (String × D)} {ex : Ex} {l : PySem.W.OpenLaw} {w : World} {K : PySem.W.Frag} {h : Heap} {mg : Str → Option Value} {fa : Addr} {n f : Nat} {fn : Fn} {x : Str} (X : K.In h) (G : h.Ns mainGlobals mg) (tx : Tx T gl ex) (hf : (T.map (·.1))[f]? = some fn) (hn : mg fn.name = some (.ref fa)) (hcl : fn.cls = none)
    (hp : (sLst fn.slots).take fn.arity = [x]) (hat : Ats K mg T) (hno : Nos K ["len", "int", "bool", "abs", "max", "min", "tuple", "isinstance", "str", "all", "any", "sum", "list", "range", "zip", "enumerate", "reversed", "sorted", "dict", "repr"]) (hgl : Gls K gl) (hxs : xsB l.prog K ex = true) :
    ∃ fd : FuncData, (∀ (s : Shared) (v : Value), BindsTo s fd ⟨[v], []⟩ [(x, v)]) ∧ ∀ base : Heap, K.In base → base.Ns mainGlobals mg → FnOk l.prog w K mg base (L2N.CX l.prog w) (2 * n) fa fd [x] (spLaw K (wFn (T.map (·.1)) n f)) := by
  obtain ⟨st, hm, ⟨a, fd, h1, h2⟩⟩ := Ats.get hat hf
  unfold Loc at h1; rw [hcl] at h1
  have e := h1.symm.trans hn
  cases e
  refine ⟨fd, fun s v => ?_, fun base _ _ => ?_⟩
  · obtain ⟨sc, ha, _, _⟩ := fnB_scope (List.all_eq_true.mp tx.ok _ hm)
    obtain ⟨as, e, hq⟩ := args_of ha
    obtain ⟨oc, od, kV, doc, pm, an, cdv, ct, osl, rfl, lk, hcd⟩ := h2.ex
    have nd : (as.map (·.arg)).Nodup := by rw [hq]; exact sc.nd.sublist (List.take_sublist _ _)
    have hx : as.map (·.arg) = [x] := hq.trans hp
    have hl : as.length = 1 := by simpa using congrArg List.length hx
    refine .of_eq ?_
    have := bind_plain (fd := PySem.W.fnOf fn.name fn.qual (defArgs st) (defBody st) (defScope st) .none kV doc pm an cdv ct) (as := as) (us := [v]) e rfl (by simp [hl]) nd
    rw [hx] at this
    exact this
  · rw [← hp]
    exact (defs_ok2 tx (xs_ok X G hxs) hat (nos_ok X G hno) (gls_ok X G hgl) n).1 f fn hf st hm _ fd h2
theorem law_sp {P : List Fn} {K : PySem.W.Frag} {n f : Nat} (h : ∀ ns : List Int, ns.length ≤ 63 → wFn P n f [.rl (ns.map D.int)] (fun _ => none) (fun d _ => d = .bl true) (fun _ _ => False))
    (H : Hp) (a : Addr) (ns : List Int) (hl : ns.length ≤ 63) (hO : Only H) (hS : SqL K H a (ns.map V.int)) : spLaw K (wFn P n f) [.ref a] H (fun v _ => v = .bl true) (fun _ _ _ => False) := by
  refine ⟨[.rl (ns.map D.int)], fun _ => none, ⟨_, _, rfl, ⟨a, ns.map V.int, rfl, ?_, ?_⟩, rfl⟩, fun a o e => by (cases e), wFn_mono P n |>.mono ?_ ?_ (h ns hl)⟩
  · rcases hS with (hS | ⟨o, hS⟩) | hS
    · rcases hO a with z | ⟨o, xs, z⟩
      · rw [hS] at z; cases z
      · rw [hS] at z; cases z
    · exact .inl ⟨o, hS⟩
    · exact .inr hS
  · clear hS h hl
    induction ns with
    | nil => rfl
    | cons n ns ih => exact ⟨_, _, rfl, rfl, ih⟩
  · intro d M' e v H' _ _ r
    subst e
    exact r
  · intro x M' e
    exact e.elim
theorem law_cx (P : Program) (w : World) (H : Hp) (s : Shared) (e : Value) (s' : Shared) (h : L2N.CX P w [] H s (fun _ _ _ => False) e s') : False := by
  obtain ⟨a, B, H', cls, d, _, _, _, _, _, _, _, z⟩ := h
  exact z
end DL
/-! Reading the small language: lemmas for proofs about texts. -/
namespace DL
open PySem
inductive All2 (p : D → D → Prop) : List D → List D → Prop
  | nil : All2 p [] []
  | cons {x y : D} {xs ys : List D} : p x y → All2 p xs ys → All2 p (x :: xs) (y :: ys)
theorem All2.len {p : D → D → Prop} : ∀ {xs ys : List D}, All2 p xs ys → ys.length = xs.length
  | _, _, .nil => rfl
  | _, _, .cons _ h => by simp [h.len]
section
variable {F : FS} {P : List Fn} {n f : Nat} {fn : Fn} {ds : List D} {M : Mem} {Q : QE} {E : QX} {env : Env} {K : Kt}
def Kt0 (Q : QE) (E : QX) : Kt := { nx := fun _ M' => ∃ M'', Sub M'' M' ∧ Q .non M'', rt := fun d M' => ∃ M'', Sub M'' M' ∧ Q d M'', bk := fun _ _ => False, ct := fun _ _ => False, xc := fun x _ M' => ∃ M'', Sub M'' M' ∧ E x M'' }
theorem Sub.rf (M : Mem) : Sub M M := fun _ _ e => e
theorem Sub.noneL {M M' : Mem} {p : Nat} (s : Sub M' M) (h : M p = Option.none) : M' p = Option.none := by
  cases e : M' p with
  | none => rfl
  | some o => rw [s p o e] at h; cases h
theorem Kt0_rt {d : D} : (Kt0 Q E).rt d M = ∃ M'', Sub M'' M ∧ Q d M'' := rfl
theorem Kt0_nx {e : Env} : (Kt0 Q E).nx e M = ∃ M'', Sub M'' M ∧ Q .non M'' := rfl
/-- a call of a def -/
theorem enter (hf : P[f]? = some fn) (hl : ds.length = fn.arity) (h : wSs (wFn P n) fn.body (ds.map Slot.val ++ List.replicate (fn.slots.length - ds.length) .no) M (Kt0 Q E)) : wFn P (n + 1) f ds M Q E := ⟨fn, hf, hl, h⟩
theorem leave {d : D} (h : Q d M) : ∃ M'', Sub M'' M ∧ Q d M'' := ⟨M, Sub.rf M, h⟩
theorem ss_cons {s : IS} {ss : List IS} : wSs F (s :: ss) env M K = wS F s env M { K with nx := fun e m => wSs F ss e m K } := by rw [wSs]
theorem ss_nil : wSs F [] env M K = K.nx env M := by rw [wSs]
/-! ### comparisons by kind -/
theorem cmp_eq_int {i j : Int} {R : Bool → Prop} : wCmp .eq (.int i) (.int j) M R = R (decide (i = j)) := by
  simp [wCmp, D.flat, D.eqv]
theorem cmp_ne_int {i j : Int} {R : Bool → Prop} : wCmp .ne (.int i) (.int j) M R = R (!decide (i = j)) := by
  simp [wCmp, D.flat, D.eqv]
theorem cmp_eq_str {i j : Str} {R : Bool → Prop} : wCmp .eq (.str i) (.str j) M R = R (decide (i = j)) := by simp [wCmp]
theorem cmp_ne_str {i j : Str} {R : Bool → Prop} : wCmp .ne (.str i) (.str j) M R = R (!decide (i = j)) := by simp [wCmp]
theorem cmp_eq_tup {xs ys : List D} {R : Bool → Prop} : wCmp .eq (.tup xs) (.tup ys) M R = ((D.flat 60 (.tup xs) = true ∧ D.flat 60 (.tup ys) = true) ∧ R (D.eqvs xs ys)) := by simp [wCmp, D.eqv]
theorem cmp_ne_tup {xs ys : List D} {R : Bool → Prop} : wCmp .ne (.tup xs) (.tup ys) M R = ((D.flat 60 (.tup xs) = true ∧ D.flat 60 (.tup ys) = true) ∧ R (!D.eqvs xs ys)) := by simp [wCmp, D.eqv]
theorem cmp_eq_bl {a b : Bool} {R : Bool → Prop} : wCmp .eq (.bl a) (.bl b) M R = R (a == b) := by simp [wCmp, D.flat, D.eqv]
theorem cmp_eq_ref {a b : Nat} {R : Bool → Prop} : wCmp .eq (.ref a) (.ref b) M R = ∃ xs ys, M a = some (.lst xs) ∧ M b = some (.lst ys) ∧ (D.flats 58 xs = true ∧ D.flats 58 ys = true) ∧ R (D.eqvs xs ys) := rfl
theorem cmp_ne_ref {a b : Nat} {R : Bool → Prop} : wCmp .ne (.ref a) (.ref b) M R = ∃ xs ys, M a = some (.lst xs) ∧ M b = some (.lst ys) ∧ (D.flats 58 xs = true ∧ D.flats 58 ys = true) ∧ R (!D.eqvs xs ys) := rfl
theorem cmp_lt {i j : Int} {R : Bool → Prop} : wCmp .lt (.int i) (.int j) M R = R (decide (i < j)) := by simp [wCmp]
theorem cmp_le {i j : Int} {R : Bool → Prop} : wCmp .le (.int i) (.int j) M R = R (decide (i ≤ j)) := by simp [wCmp]
theorem cmp_gt {i j : Int} {R : Bool → Prop} : wCmp .gt (.int i) (.int j) M R = R (decide (j < i)) := by simp [wCmp]
theorem cmp_ge {i j : Int} {R : Bool → Prop} : wCmp .ge (.int i) (.int j) M R = R (decide (j ≤ i)) := by simp [wCmp]
theorem aug_add_int {i j : Int} {R : D → Prop} : wAug .add (.int i) (.int j) R = R (.int (i + j)) := by simp [wAug, wBin]
theorem aug_sub_int {i j : Int} {R : D → Prop} : wAug .sub (.int i) (.int j) R = R (.int (i - j)) := by simp [wAug, wBin]
theorem aug_mul_int {i j : Int} {R : D → Prop} : wAug .mul (.int i) (.int j) R = (CMulD i j ∧ R (.int (i * j))) := by simp [wAug, wBin]
theorem aug_add_str {i j : Str} {R : D → Prop} : wAug .add (.str i) (.str j) R = (i.length + j.length ≤ sizeLine ∧ R (.str (i ++ j))) := by simp [wAug, wBin]
/-! ### the small operations, one by one -/
theorem tg_nm {i : Nat} {d : D} {e : Env} {R : Env → Prop} : wTg (.nm i) d e R = R (e.set i (.val d)) := rfl
theorem tg_tp {is : List Nat} {xs : List D} {e : Env} {R : Env → Prop} : wTg (.tp is) (.tup xs) e R = (xs.length = is.length ∧ R (setAll e is xs)) := rfl
theorem tru_non {R : Bool → Prop} : wTru .non M R = R false := rfl
theorem tru_bl {b : Bool} {R : Bool → Prop} : wTru (.bl b) M R = R b := rfl
theorem tru_int {i : Int} {R : Bool → Prop} : wTru (.int i) M R = R (i != 0) := rfl
theorem tru_str {x : Str} {R : Bool → Prop} : wTru (.str x) M R = (x.length ≤ sizeLine ∧ R ((x.length : Int) != 0)) := rfl
theorem tru_tup {xs : List D} {R : Bool → Prop} : wTru (.tup xs) M R = R (!xs.isEmpty) := rfl
theorem tru_ref {a : Nat} {R : Bool → Prop} : wTru (.ref a) M R = ∃ xs, M a = some (.lst xs) ∧ R (!xs.isEmpty) := rfl
theorem bin_add_int {i j : Int} {R : D → Prop} : wBin .add (.int i) (.int j) R = R (.int (i + j)) := rfl
theorem bin_add_str {i j : Str} {R : D → Prop} : wBin .add (.str i) (.str j) R = (i.length + j.length ≤ sizeLine ∧ R (.str (i ++ j))) := rfl
theorem bin_add_tup {i j : List D} {R : D → Prop} : wBin .add (.tup i) (.tup j) R = (i.length + j.length ≤ sizeLine ∧ R (.tup (i ++ j))) := rfl
theorem bin_sub {i j : Int} {R : D → Prop} : wBin .sub (.int i) (.int j) R = R (.int (i - j)) := rfl
theorem bin_mul {i j : Int} {R : D → Prop} : wBin .mul (.int i) (.int j) R = (CMulD i j ∧ R (.int (i * j))) := rfl
theorem bin_fdiv {i j : Int} {R : D → Prop} : wBin .fdiv (.int i) (.int j) R = (DivOk j ∧ R (.int (i / j))) := rfl
theorem bin_mod {i j : Int} {R : D → Prop} : wBin .mod (.int i) (.int j) R = (0 < j ∧ R (.int (i % j))) := rfl
theorem bin_pow {i j : Int} {R : D → Prop} : wBin .pow (.int i) (.int j) R = ((0 ≤ j ∧ j ≤ 1000000 ∧ i.natAbs < 2 ^ 64) ∧ R (.int (i ^ j.toNat))) := rfl
theorem bin_shl {i j : Int} {R : D → Prop} : wBin .shl (.int i) (.int j) R = ((0 ≤ j ∧ j ≤ 1000000 ∧ i.natAbs < 2 ^ 64) ∧ R (.int (i * 2 ^ j.toNat))) := rfl
theorem bin_shr {i j : Int} {R : D → Prop} : wBin .shr (.int i) (.int j) R = (0 ≤ j ∧ R (.int (i / 2 ^ j.toNat))) := rfl
theorem bin_band {i j : Int} {R : D → Prop} : wBin .band (.int i) (.int j) R = R (.int (Builtin.bitAnd i j)) := rfl
theorem bin_bor {i j : Int} {R : D → Prop} : wBin .bor (.int i) (.int j) R = R (.int (Builtin.bitOr i j)) := rfl
theorem idx_tup {xs : List D} {i : Int} {R : D → Prop} : wIdx (.tup xs) (.int i) M R = ∃ v, L2.atI xs i = some v ∧ R v := rfl
theorem idx_ref {a : Nat} {i : Int} {R : D → Prop} : wIdx (.ref a) (.int i) M R = ∃ xs v, M a = some (.lst xs) ∧ L2.atI xs i = some v ∧ R v := rfl
theorem idx_str {z : Str} {i : Int} {R : D → Prop} : wIdx (.str z) (.int i) M R = (z.length ≤ sizeLine ∧ ∃ c, L2.atI z.cps.toList i = some c ∧ R (.str ⟨#[c]⟩)) := rfl
theorem blt_len_tup {xs : List D} {R : D → Prop} : wBlt .len [.tup xs] M R = R (.int xs.length) := rfl
theorem blt_len_str {x : Str} {R : D → Prop} : wBlt .len [.str x] M R = (x.length ≤ sizeLine ∧ R (.int x.length)) := rfl
theorem blt_len_ref {a : Nat} {R : D → Prop} : wBlt .len [.ref a] M R = ∃ xs, M a = some (.lst xs) ∧ R (.int xs.length) := rfl
theorem blt_int_int {i : Int} {R : D → Prop} : wBlt .int [.int i] M R = R (.int i) := rfl
theorem blt_int_bl {b : Bool} {R : D → Prop} : wBlt .int [.bl b] M R = R (.int (if b then 1 else 0)) := rfl
theorem blt_bool_bl {b : Bool} {R : D → Prop} : wBlt .bool [.bl b] M R = R (.bl b) := rfl
theorem blt_bool_int {i : Int} {R : D → Prop} : wBlt .bool [.int i] M R = R (.bl (i != 0)) := rfl
theorem blt_abs {i : Int} {R : D → Prop} : wBlt .abs [.int i] M R = R (.int (if i < 0 then -i else i)) := rfl
theorem blt_max2 {i j : Int} {R : D → Prop} : wBlt .max [.int i, .int j] M R = R (.int (max i j)) := rfl
theorem blt_max3 {i j k : Int} {R : D → Prop} : wBlt .max [.int i, .int j, .int k] M R = R (.int (max (max i j) k)) := rfl
theorem blt_min2 {i j : Int} {R : D → Prop} : wBlt .min [.int i, .int j] M R = R (.int (min i j)) := rfl
theorem blt_tuple_tup {xs : List D} {R : D → Prop} : wBlt .tuple [.tup xs] M R = R (.tup xs) := rfl
theorem blt_tuple_ref {a : Nat} {R : D → Prop} : wBlt .tuple [.ref a] M R = ∃ xs, M a = some (.lst xs) ∧ R (.tup xs) := rfl
theorem blt_isa_non {t : Ty} {R : D → Prop} : wBlt (.isa t) [.non] M R = R (.bl (D.isa .non t)) := rfl
theorem blt_isa_bl {t : Ty} {b : Bool} {R : D → Prop} : wBlt (.isa t) [.bl b] M R = R (.bl (D.isa (.bl b) t)) := rfl
theorem blt_isa_int {t : Ty} {i : Int} {R : D → Prop} : wBlt (.isa t) [.int i] M R = R (.bl (D.isa (.int i) t)) := rfl
theorem blt_isa_str {t : Ty} {x : Str} {R : D → Prop} : wBlt (.isa t) [.str x] M R = R (.bl (D.isa (.str x) t)) := rfl
theorem blt_isa_tup {t : Ty} {xs : List D} {R : D → Prop} : wBlt (.isa t) [.tup xs] M R = R (.bl (D.isa (.tup xs) t)) := rfl
theorem isa_int_int {i : Int} : D.isa (.int i) .int = true := rfl
theorem isa_int_bool {i : Int} : D.isa (.int i) .bool = false := rfl
theorem isa_bl_bool {b : Bool} : D.isa (.bl b) .bool = true := rfl
theorem isa_tup {xs : List D} : D.isa (.tup xs) .tuple = true := rfl
theorem isa_str {x : Str} : D.isa (.str x) .str = true := rfl
theorem lk_tuple {xs : List D} {R : D → Prop} : wLK .tuple xs R = R (.tup xs) := rfl
theorem lk_len {xs : List D} {R : D → Prop} : wLK .len xs R = R (.int xs.length) := rfl
theorem lk_all {xs : List D} {R : D → Prop} : wLK .all xs R = ∃ b, allBl xs = some b ∧ R (.bl b) := rfl
theorem lk_any {xs : List D} {R : D → Prop} : wLK .any xs R = ∃ b, anyBl xs = some b ∧ R (.bl b) := rfl
theorem lk_sum {xs : List D} {R : D → Prop} : wLK .sum xs R = ∃ b, sumD xs = some b ∧ R (.int b) := rfl
theorem it_tup {xs : List D} {R : List D → (Env → Mem → Prop) → Prop} : wIt (.tup xs) M R = R xs fun _ _ => True := rfl
theorem it_rl {xs : List D} {R : List D → (Env → Mem → Prop) → Prop} : wIt (.rl xs) M R = R xs fun _ _ => True := rfl
theorem it_ref {a : Nat} {R : List D → (Env → Mem → Prop) → Prop} : wIt (.ref a) M R = ∃ xs, M a = some (.lst xs) ∧ R xs fun _ M' => M' a = some (.lst xs) := rfl
theorem zip_tup {xs ys : List D} {R : List D → (Env → Mem → Prop) → Prop} : wZip (.tup xs) (.tup ys) M R = R (List.zipWith (fun u v => .tup [u, v]) xs ys) fun _ _ => True := rfl
theorem enum_tup {xs : List D} {R : List D → (Env → Mem → Prop) → Prop} : wEnum (.tup xs) M R = R (xs.mapIdx fun i x => .tup [.int i, x]) fun _ _ => True := rfl
theorem enum_ref {a : Nat} {R : List D → (Env → Mem → Prop) → Prop} : wEnum (.ref a) M R = ∃ xs, M a = some (.lst xs) ∧ R (xs.mapIdx fun i x => .tup [.int i, x]) fun _ M' => M' a = some (.lst xs) := rfl
theorem rev_tup {xs : List D} {R : List D → (Env → Mem → Prop) → Prop} : wRevIt (.tup xs) M R = R xs.reverse fun _ _ => True := rfl
theorem rev_ref {a : Nat} {R : List D → (Env → Mem → Prop) → Prop} : wRevIt (.ref a) M R = ∃ xs, M a = some (.lst xs) ∧ R xs.reverse fun _ M' => M' a = some (.lst xs) := rfl
theorem ty_split {x : Str} : wTy .split (.str x) M = True := by simp [wTy, Mth.lst]
theorem ty_join {x : Str} : wTy .join (.str x) M = True := by simp [wTy, Mth.lst]
theorem ty_lst {m : Mth} {a : Nat} (hm : m.lst = true) : wTy m (.ref a) M = ∃ xs, M a = some (.lst xs) := by simp [wTy, hm]
theorem ty_append {a : Nat} : wTy .append (.ref a) M = ∃ xs, M a = some (.lst xs) := ty_lst rfl
theorem ty_pop {a : Nat} : wTy .pop (.ref a) M = ∃ xs, M a = some (.lst xs) := ty_lst rfl
theorem ty_popAt {a : Nat} : wTy .popAt (.ref a) M = ∃ xs, M a = some (.lst xs) := ty_lst rfl
theorem ty_reverse {a : Nat} : wTy .reverse (.ref a) M = ∃ xs, M a = some (.lst xs) := ty_lst rfl
theorem ty_extend {a : Nat} : wTy .extend (.ref a) M = ∃ xs, M a = some (.lst xs) := ty_lst rfl
theorem ty_insert {a : Nat} : wTy .insert (.ref a) M = ∃ xs, M a = some (.lst xs) := ty_lst rfl
theorem mth_append {a : Nat} {y : D} : wMth .append (.ref a) [y] M Q = ∃ xs, M a = some (.lst xs) ∧ xs.length < sizeLine ∧ Q .non (upd M a (.lst (xs ++ [y]))) := rfl
theorem mth_pop {a : Nat} : wMth .pop (.ref a) [] M Q = ∃ xs y, M a = some (.lst xs) ∧ xs.getLast? = some y ∧ Q y (upd M a (.lst xs.dropLast)) := rfl
theorem mth_popAt {a : Nat} {i : Int} : wMth .popAt (.ref a) [.int i] M Q = ∃ xs k y, M a = some (.lst xs) ∧ (-(2 ^ 63) ≤ i ∧ i < 2 ^ 63) ∧ L2.ixN xs.length i = some k ∧ xs[k]? = some y ∧ Q y (upd M a (.lst (xs.eraseIdx k))) := rfl
theorem mth_reverse {a : Nat} : wMth .reverse (.ref a) [] M Q = ∃ xs, M a = some (.lst xs) ∧ Q .non (upd M a (.lst xs.reverse)) := rfl
theorem mth_extend {a b : Nat} : wMth .extend (.ref a) [.ref b] M Q = ∃ xs ys, M a = some (.lst xs) ∧ M b = some (.lst ys) ∧ xs.length + ys.length ≤ sizeLine ∧ Q .non (upd M a (.lst (xs ++ ys))) := rfl
theorem mth_insert {a : Nat} {i : Int} {y : D} : wMth .insert (.ref a) [.int i, y] M Q = ∃ xs, M a = some (.lst xs) ∧ xs.length < sizeLine ∧ (0 ≤ i ∧ i < 2 ^ 63) ∧ Q .non (upd M a (.lst (xs.take i.toNat ++ [y] ++ xs.drop i.toNat))) := rfl
theorem mth_split {a b : Str} : wMth .split (.str a) [.str b] M Q = ((b.length == 0) = false ∧ a.length + 2 ≤ sizeLine ∧ ∀ p, M p = none → Q (.ref p) (upd M p (.lst ((Txt.split a b).map D.str)))) := rfl
theorem mth_join {a : Str} {b : Nat} : wMth .join (.str a) [.ref b] M Q = ∃ ys : List Str, M b = some (.lst (ys.map D.str)) ∧ (ys.map (·.length)).sum + ys.length * a.length ≤ 16777216 ∧ Q (.str (Txt.join a ys)) M := rfl
theorem slc_tup {xs : List D} {l h : Option Int} : wSlc (.tup xs) l h M Q = Q (.tup (cutD xs l h)) M := rfl
theorem slc_str {z : Str} {l h : Option Int} : wSlc (.str z) l h M Q = (z.length ≤ sizeLine ∧ Q (.str (L2.cutS z l h)) M) := rfl
theorem slc_ref {a : Nat} {l h : Option Int} : wSlc (.ref a) l h M Q = ∃ xs, M a = some (.lst xs) ∧ ∀ p, M p = none → Q (.ref p) (upd M p (.lst (cutD xs l h))) := rfl
theorem lk_max {xs : List D} {R : D → Prop} : wLK .max xs R = ∃ ns : List Int, xs = ns.map D.int ∧ 0 < ns.length ∧ ∀ m, m ∈ ns → (∀ y, y ∈ ns → y ≤ m) → R (.int m) := rfl
theorem lk_min {xs : List D} {R : D → Prop} : wLK .min xs R = ∃ ns : List Int, xs = ns.map D.int ∧ 0 < ns.length ∧ ∀ m, m ∈ ns → (∀ y, y ∈ ns → m ≤ y) → R (.int m) := rfl
theorem cmp_lt_str {x y : Str} {R : Bool → Prop} : wCmp .lt (.str x) (.str y) M R = R (decide (x.cps.toList < y.cps.toList)) := rfl
theorem cmp_is_bl {a b : Bool} {R : Bool → Prop} : wCmp .isN (.bl a) (.bl b) M R = R (decide (a = b)) := rfl
theorem cmp_not_bl {a b : Bool} {R : Bool → Prop} : wCmp .notN (.bl a) (.bl b) M R = R (!decide (a = b)) := rfl
theorem cmp_is_non {R : Bool → Prop} : wCmp .isN .non .non M R = R true := rfl
theorem cmp_not_non {R : Bool → Prop} : wCmp .notN .non .non M R = R false := rfl
theorem cmp_is_tup {xs : List D} {R : Bool → Prop} : wCmp .isN (.tup xs) .non M R = R false := rfl
theorem cmp_not_tup {xs : List D} {R : Bool → Prop} : wCmp .notN (.tup xs) .non M R = R true := rfl
theorem cmp_is_int {i : Int} {R : Bool → Prop} : wCmp .isN (.int i) .non M R = R false := rfl
theorem cmp_not_int {i : Int} {R : Bool → Prop} : wCmp .notN (.int i) .non M R = R true := rfl
theorem blt_maxt {xs : List D} {R : D → Prop} : wBlt .max [.tup xs] M R = ∃ ns : List Int, xs = ns.map D.int ∧ 0 < ns.length ∧ ∀ m, m ∈ ns → (∀ y, y ∈ ns → y ≤ m) → R (.int m) := rfl
theorem blt_mint {xs : List D} {R : D → Prop} : wBlt .min [.tup xs] M R = ∃ ns : List Int, xs = ns.map D.int ∧ 0 < ns.length ∧ ∀ m, m ∈ ns → (∀ y, y ∈ ns → m ≤ y) → R (.int m) := rfl
theorem tg_np {i : Nat} {is : List Nat} {d : D} {xs : List D} {e : Env} {R : Env → Prop} : wTg (.np i is) (.tup [d, .tup xs]) e R = (xs.length = is.length ∧ R (setAll (e.set i (.val d)) is xs)) := rfl
theorem blt_str {i : Int} {R : D → Prop} : wBlt .str [.int i] M R = (i.natAbs.log2 < 1920 ∧ R (.str (toString i : String))) := rfl
/-! ### by place -/
theorem ixN_nat {n : Nat} {i : Int} {k : Nat} (hk : i = (k : Int)) (h : k < n) : L2.ixN n i = some k := by
  subst hk
  unfold L2.ixN
  rw [if_pos (by omega), if_pos (by omega)]
  simp
theorem atI_nat' {xs : List D} {i : Int} {k : Nat} {v : D} (hk : i = (k : Int)) (h : xs[k]? = some v) : L2.atI xs i = some v := by
  subst hk
  exact L2.atI_nat h
theorem ixN5_1 : L2.ixN 5 1 = some 1 := ixN_nat rfl (by omega)
theorem ixN5_2 : L2.ixN 5 2 = some 2 := ixN_nat rfl (by omega)
theorem ixN5_3 : L2.ixN 5 3 = some 3 := ixN_nat rfl (by omega)
theorem atI_0 {x : D} {xs : List D} : L2.atI (x :: xs) 0 = some x := atI_nat' (k := 0) rfl rfl
theorem atI_1 {x y : D} {xs : List D} : L2.atI (x :: y :: xs) 1 = some y := atI_nat' (k := 1) rfl rfl
theorem atI_2 {x y z : D} {xs : List D} : L2.atI (x :: y :: z :: xs) 2 = some z := atI_nat' (k := 2) rfl rfl
theorem atI_3 {x y z u : D} {xs : List D} : L2.atI (x :: y :: z :: u :: xs) 3 = some u := atI_nat' (k := 3) rfl rfl
theorem atI_4 {x y z u v : D} {xs : List D} : L2.atI (x :: y :: z :: u :: v :: xs) 4 = some v := atI_nat' (k := 4) rfl rfl
/-! ### memory -/
theorem upd_at {p : Nat} {o : MO} : upd M p o p = some o := by simp [upd]
theorem upd_no {p a : Nat} {o : MO} (h : a ≠ p) : upd M p o a = M a := by simp [upd, h]
theorem drp_at {p : Nat} : drp M p p = none := by simp [drp]
theorem drp_no {p a : Nat} (h : a ≠ p) : drp M p a = M a := by simp [drp, h]
theorem ne_of_mem {a p : Nat} {o : MO} (h : M a = some o) (hp : M p = none) : a ≠ p := by
  intro z; subst z; rw [h] at hp; cases hp
/-! ### loops -/
theorem cmpr_map {ok : Mem → Prop} {el : D → Mem → (Option D → Mem → Prop) → Prop} (g : D → D) : ∀ {xs : List D} {Q : QL}, ok M → (∀ x ∈ xs, ∀ R : Option D → Mem → Prop, R (some (g x)) M → el x M R) → Q (xs.map g) M → wCmpr ok el xs M Q
  | [], Q, ho, h, q => ⟨ho, q⟩
  | x :: xs, Q, ho, h, q => ⟨ho, h x List.mem_cons_self _ (cmpr_map g ho (fun y hy => h y (List.mem_cons_of_mem _ hy)) q)⟩
/-- a for loop by an invariant of what is left -/
theorem for_inv {ok : Env → Mem → Prop} {t : Tg} {b : List IS} (hF : FMono F) (I : List D → Env → Mem → Prop) (hok : ∀ r e m, I r e m → ok e m) (fin : ∀ e m, I [] e m → K.nx e m)
    (step : ∀ x r e m, I (x :: r) e m → wTg t x e fun e' => wSs F b e' m { K with nx := fun e m => I r e m, ct := fun e m => I r e m, bk := K.nx }) :
    ∀ {xs : List D} {env : Env} {M : Mem}, I xs env M → wFor ok (fun x e m K' => wTg t x e fun e' => wSs F b e' m K') xs env M K
  | [], _, _, h => ⟨hok _ _ _ h, fin _ _ h⟩
  | x :: xs, env, M, h => by
    refine ⟨hok _ _ _ h, wTg_mono (fun e' q => wSs_mono hF b ?_ q) (step x xs env M h)⟩
    exact ⟨fun e m q => for_inv hF I hok fin step q, fun _ _ z => z, fun _ _ z => z, fun e m q => for_inv hF I hok fin step q, fun _ _ _ z => z⟩
theorem for_inv2 {ok : Env → Mem → Prop} {t : Tg} {b : List IS} (hF : FMono F) {xs : List D} {env : Env} {M : Mem} (I : List D → Env → Mem → Prop) (h0 : I xs env M) (hok : ∀ r e m, I r e m → ok e m) (fin : ∀ e m, I [] e m → K.nx e m)
    (step : ∀ x r e m, I (x :: r) e m → wTg t x e fun e' => wSs F b e' m { K with nx := fun e m => I r e m, ct := fun e m => I r e m, bk := K.nx }) :
    wFor ok (fun x e m K' => wTg t x e fun e' => wSs F b e' m K') xs env M K := for_inv hF I hok fin step h0
/-- a for loop by an invariant of the place -/
theorem for_idx {ok : Env → Mem → Prop} {t : Tg} {b : List IS} {xs : List D} (hF : FMono F) (I : Nat → Env → Mem → Prop) (h0 : I 0 env M) (hok : ∀ i e m, I i e m → ok e m) (fin : ∀ e m, I xs.length e m → K.nx e m)
    (step : ∀ i x e m, xs[i]? = some x → I i e m → wTg t x e fun e' => wSs F b e' m { K with nx := fun e m => I (i + 1) e m, ct := fun e m => I (i + 1) e m, bk := K.nx }) :
    wFor ok (fun x e m K' => wTg t x e fun e' => wSs F b e' m K') xs env M K := by
  refine for_inv2 hF (fun r e m => ∃ i, r = xs.drop i ∧ i ≤ xs.length ∧ I i e m) ⟨0, rfl, Nat.zero_le _, h0⟩ (fun r e m ⟨i, _, _, h⟩ => hok i e m h) (fun e m ⟨i, h1, h2, h⟩ => ?_) (fun x r e m ⟨i, h1, h2, h⟩ => ?_)
  · have : i = xs.length := by
      have := congrArg List.length h1
      simp at this
      omega
    rw [this] at h
    exact fin e m h
  · have hi : i < xs.length := by
      have := congrArg List.length h1
      simp at this
      omega
    rw [List.drop_eq_getElem_cons hi] at h1
    obtain ⟨rfl, rfl⟩ := List.cons.inj h1
    refine wTg_mono (fun e' q => wSs_mono hF b ?_ q) (step i _ e m (List.getElem?_eq_getElem hi) h)
    exact ⟨fun e m q => ⟨i + 1, rfl, hi, q⟩, fun _ _ z => z, fun _ _ z => z, fun e m q => ⟨i + 1, rfl, hi, q⟩, fun _ _ _ z => z⟩
/-- the same, the target a name -/
theorem for_at {ok : Env → Mem → Prop} {j : Nat} {b : List IS} {xs : List D} (hF : FMono F) (I : Nat → Env → Mem → Prop) (h0 : I 0 env M) (hok : ∀ i e m, I i e m → ok e m) (fin : ∀ e m, I xs.length e m → K.nx e m)
    (step : ∀ i x e m, xs[i]? = some x → I i e m → wSs F b (e.set j (.val x)) m { K with nx := fun e m => I (i + 1) e m, ct := fun e m => I (i + 1) e m, bk := K.nx }) :
    wFor ok (fun x e m K' => wSs F b (e.set j (.val x)) m K') xs env M K := for_idx (t := .nm j) hF I h0 hok fin step
theorem for_range {ok : Env → Mem → Prop} {j : Nat} {b : List IS} {n : Nat} (hF : FMono F) (I : Nat → Env → Mem → Prop) (h0 : I 0 env M) (hok : ∀ i e m, I i e m → ok e m) (fin : ∀ e m, I n e m → K.nx e m)
    (step : ∀ (k : Nat) e m, k < n → I k e m → wSs F b (e.set j (.val (.int (k : Int)))) m { K with nx := fun e m => I (k + 1) e m, ct := fun e m => I (k + 1) e m, bk := K.nx }) :
    wFor ok (fun x e m K' => wSs F b (e.set j (.val x)) m K') ((List.range n).map fun (k : Nat) => .int (k : Int)) env M K := by
  refine for_at hF I h0 hok (fun e m h => fin e m (by simpa using h)) fun k x e m hx h => ?_
  have hk : k < n := by
    have := (List.getElem?_eq_some_iff.mp hx).1
    simpa using this
  have : x = .int (k : Int) := by
    rw [List.getElem?_map, List.getElem?_range hk] at hx
    exact (Option.some.inj hx).symm
  subst this
  exact step k e m hk h
theorem atI_cast {xs : List D} {k : Nat} {v : D} (h : xs[k]? = some v) : L2.atI xs (k : Int) = some v := atI_nat' rfl h
theorem ixN_cast {n k : Nat} (h : k < n) : L2.ixN n (k : Int) = some k := ixN_nat rfl h
theorem atI_range {n k : Nat} {g : Nat → D} (h : k < n) : L2.atI ((List.range n).map g) (k : Int) = some (g k) := atI_cast (by rw [List.getElem?_map, List.getElem?_range h]; rfl)
theorem set_range {n k : Nat} {g : Nat → D} {x : D} : ((List.range n).map g).set k x = (List.range n).map fun i => if i = k then x else g i := by
  apply List.ext_getElem?
  intro i
  rw [List.getElem?_set, List.getElem?_map, List.getElem?_map]
  by_cases hi : i < n
  · rw [List.getElem?_range hi]
    by_cases e : k = i
    · subst e; simp [hi]
    · have e2 : ¬ i = k := fun z => e z.symm
      simp [e, e2]
  · have : (List.range n)[i]? = none := by simp; omega
    rw [this]
    by_cases e : k = i
    · subst e; simp [hi]
    · simp [e]
theorem mF {P : List Fn} {n : Nat} : FMono (wFn P n) := wFn_mono P n
theorem fn_of {α : Type} [Inhabited α] {G : α → D} {good : α → Prop} : ∀ {ds : List D}, (∀ d ∈ ds, ∃ a, d = G a ∧ good a) → ∃ g : Nat → α, ds = (List.range ds.length).map (fun i => G (g i)) ∧ ∀ i, i < ds.length → good (g i)
  | [], _ => ⟨fun _ => default, rfl, fun i hi => absurd hi (Nat.not_lt_zero _)⟩
  | d :: ds, h => by
    obtain ⟨a, e, ha⟩ := h d List.mem_cons_self
    obtain ⟨g, eg, hg⟩ := fn_of fun x hx => h x (List.mem_cons_of_mem _ hx)
    refine ⟨fun i => match i with | 0 => a | i + 1 => g i, ?_, fun i hi => ?_⟩
    · rw [List.length_cons, List.range_succ_eq_map, List.map_cons, List.map_map]
      dsimp only [Function.comp_def]
      rw [← eg, e]
    · cases i with
      | zero => exact ha
      | succ i => exact hg i (by simpa using hi)
theorem All2.right {p : D → D → Prop} {q : D → Prop} : ∀ {xs ys : List D}, All2 p xs ys → (∀ x y, x ∈ xs → p x y → q y) → ∀ y ∈ ys, q y
  | _, _, .nil, _, y, hy => by cases hy
  | _, _, .cons h t, f, y, hy => by
    rcases List.mem_cons.mp hy with z | z
    · subst z; exact f _ _ List.mem_cons_self h
    · exact t.right (fun a b ha => f a b (List.mem_cons_of_mem _ ha)) y z
theorem All2.get {p : D → D → Prop} : ∀ {xs ys : List D}, All2 p xs ys → ∀ {i : Nat} {x y : D}, xs[i]? = some x → ys[i]? = some y → p x y
  | _, _, .nil, i, x, y, h, _ => by simp at h
  | _, _, .cons h t, 0, x, y, h1, h2 => by simp at h1 h2; subst h1 h2; exact h
  | _, _, .cons h t, i + 1, x, y, h1, h2 => t.get (i := i) (by simpa using h1) (by simpa using h2)
/-- a comprehension by an invariant of the place, of what is there and of the memory -/
theorem cmpr_acc {ok : Mem → Prop} {el : D → Mem → (Option D → Mem → Prop) → Prop} {xs : List D} {Q : QL} (I : Nat → List D → Mem → Prop) (hok : ∀ i ys M, I i ys M → ok M)
    (step : ∀ i x ys M, xs[i]? = some x → I i ys M → ∀ R : Option D → Mem → Prop, (∀ y M', I (i + 1) (ys ++ [y]) M' → R (some y) M') → el x M R) (h0 : I 0 [] M) (fin : ∀ ys M', I xs.length ys M' → Q ys M') : wCmpr ok el xs M Q := by
  have gen : ∀ (k : Nat) (ys : List D) (M : Mem) (Q' : QL), k ≤ xs.length → I k ys M → (∀ zs M', I xs.length (ys ++ zs) M' → Q' zs M') → wCmpr ok el (xs.drop k) M Q' := by
    intro k
    induction h : xs.length - k generalizing k with
    | zero =>
      intro ys M Q' hk hI hq
      have e : k = xs.length := by omega
      subst e
      rw [List.drop_length]
      exact ⟨hok _ _ _ hI, hq [] M (by rw [List.append_nil]; exact hI)⟩
    | succ j ih =>
      intro ys M Q' hk hI hq
      have hk' : k < xs.length := by omega
      rw [List.drop_eq_getElem_cons hk']
      refine ⟨hok _ _ _ hI, step k _ ys M (List.getElem?_eq_getElem hk') hI _ fun y M' hI' => ?_⟩
      refine ih (k + 1) (by omega) (ys ++ [y]) M' _ hk' hI' fun zs M'' hI'' => hq _ _ ?_
      rw [List.append_assoc] at hI''
      exact hI''
  have := gen 0 [] M Q (Nat.zero_le _) h0 fun zs M' hI => fin zs M' hI
  rwa [List.drop_zero] at this
/-! ### dicts -/
mutual
theorem beq_refl : ∀ d : D, D.beq d d = true
  | .non => rfl
  | .bl b => by simp [D.beq]
  | .int b => by simp [D.beq]
  | .str b => by simp [D.beq]
  | .ref b => by simp [D.beq]
  | .tup xs => by rw [D.beq]; exact beqs_refl xs
  | .rl xs => by rw [D.beq]; exact beqs_refl xs
theorem beqs_refl : ∀ ds : List D, D.beqs ds ds = true
  | [] => rfl
  | d :: ds => by rw [D.beqs, beq_refl d, beqs_refl ds]; rfl
end
instance : DecidableEq D := fun a b => if h : D.beq a b = true then .isTrue (D.beq_eq h) else .isFalse fun e => h (by rw [e]; exact beq_refl b)
/-- all keys are good, and of the sort of this one -/
theorem DkOk.of {es : List (D × D)} {k : D} (hk : k.keyOk = true) (h : ∀ p ∈ es, p.1.keyOk = true ∧ p.1.plain = k.plain) : DkOk es k := ⟨hk, h⟩
end
end DL
/-! The draws. -/
namespace DL
local macro_rules | `(tactic| walk_at "wp") => `(tactic| simp only [wS, wE, wEs, wO, wAs, wL, wN, wI, wT, wTs, setAll, Tg.slots, wipeE, cmp_eq_int, cmp_ne_int, cmp_eq_str, cmp_ne_str, cmp_eq_tup, cmp_ne_tup, cmp_eq_bl, cmp_lt, cmp_le, cmp_gt, cmp_ge, Kt0_rt, Kt0_nx, List.getElem?_cons_zero, List.getElem?_cons_succ, List.set_cons_zero, List.set_cons_succ, Option.some.injEq, Slot.val.injEq, Slot.own.injEq, MO.lst.injEq, D.int.injEq, D.ref.injEq, D.bl.injEq, D.tup.injEq, D.str.injEq, exists_eq_left', exists_eq_left, exists_and_left, exists_and_right, and_assoc, true_and, and_true, atI_0, atI_1, atI_2, atI_3, atI_4, backs, drps, List.map_cons, List.map_nil, List.length_cons, List.length_nil, List.cons_append, List.nil_append, List.replicate, Nat.reduceAdd, Nat.reduceSub, decide_eq_true_eq, upd_at, aug_add_int, aug_sub_int, aug_mul_int, aug_add_str, ixN5_1, ixN5_2, ixN5_3, Int.toNat_natCast, List.length_map, List.length_range, tg_nm, tg_tp, tru_non, tru_bl, tru_int, tru_str, tru_tup, tru_ref, bin_add_int, bin_add_str, bin_add_tup, bin_sub, bin_mul, bin_fdiv, bin_mod, bin_pow, bin_shl, bin_shr, bin_band, bin_bor, idx_tup, idx_ref, idx_str, blt_len_tup, blt_len_str, blt_len_ref, blt_int_int, blt_int_bl, blt_bool_bl, blt_bool_int, blt_abs, blt_max2, blt_max3, blt_min2, blt_tuple_tup, blt_tuple_ref, blt_isa_non, blt_isa_bl, blt_isa_int, blt_isa_str, blt_isa_tup, isa_int_int, isa_int_bool, isa_bl_bool, isa_tup, isa_str, lk_tuple, lk_len, lk_all, lk_any, lk_sum, it_tup, it_rl, it_ref, zip_tup, enum_tup, enum_ref, eq_self_iff_true, if_true, Bool.false_eq_true, if_false, reduceIte, ss_nil, rev_tup, rev_ref, ty_split, ty_join, ty_append, ty_pop, ty_popAt, ty_reverse, ty_extend, ty_insert, mth_append, mth_pop, mth_popAt, mth_reverse, mth_extend, mth_insert, mth_split, mth_join, cmp_eq_ref, cmp_ne_ref, slc_tup, slc_str, slc_ref, lk_max, lk_min, cmp_lt_str, cmp_is_bl, cmp_not_bl, cmp_is_non, cmp_not_non, cmp_is_tup, cmp_not_tup, cmp_is_int, cmp_not_int, blt_str, blt_maxt, blt_mint, tg_np])
local macro_rules | `(tactic| simp! only [$xs:simpLemma,*]) => `(tactic| simp only [wS, wE, wEs, wO, wAs, wL, wN, wI, wT, wTs, setAll, Tg.slots, wipeE, cmp_eq_int, cmp_ne_int, cmp_eq_str, cmp_ne_str, cmp_eq_tup, cmp_ne_tup, cmp_eq_bl, cmp_lt, cmp_le, cmp_gt, cmp_ge, Kt0_rt, Kt0_nx, List.getElem?_cons_zero, List.getElem?_cons_succ, List.set_cons_zero, List.set_cons_succ, Option.some.injEq, Slot.val.injEq, Slot.own.injEq, MO.lst.injEq, D.int.injEq, D.ref.injEq, D.bl.injEq, D.tup.injEq, D.str.injEq, exists_eq_left', exists_eq_left, exists_and_left, exists_and_right, and_assoc, true_and, and_true, atI_0, atI_1, atI_2, atI_3, atI_4, backs, drps, List.map_cons, List.map_nil, List.length_cons, List.length_nil, List.cons_append, List.nil_append, List.replicate, Nat.reduceAdd, Nat.reduceSub, decide_eq_true_eq, upd_at, aug_add_int, aug_sub_int, aug_mul_int, aug_add_str, ixN5_1, ixN5_2, ixN5_3, Int.toNat_natCast, List.length_map, List.length_range, tg_nm, tg_tp, tru_non, tru_bl, tru_int, tru_str, tru_tup, tru_ref, bin_add_int, bin_add_str, bin_add_tup, bin_sub, bin_mul, bin_fdiv, bin_mod, bin_pow, bin_shl, bin_shr, bin_band, bin_bor, idx_tup, idx_ref, idx_str, blt_len_tup, blt_len_str, blt_len_ref, blt_int_int, blt_int_bl, blt_bool_bl, blt_bool_int, blt_abs, blt_max2, blt_max3, blt_min2, blt_tuple_tup, blt_tuple_ref, blt_isa_non, blt_isa_bl, blt_isa_int, blt_isa_str, blt_isa_tup, isa_int_int, isa_int_bool, isa_bl_bool, isa_tup, isa_str, lk_tuple, lk_len, lk_all, lk_any, lk_sum, it_tup, it_rl, it_ref, zip_tup, enum_tup, enum_ref, eq_self_iff_true, if_true, Bool.false_eq_true, if_false, reduceIte, ss_nil, rev_tup, rev_ref, ty_split, ty_join, ty_append, ty_pop, ty_popAt, ty_reverse, ty_extend, ty_insert, mth_append, mth_pop, mth_popAt, mth_reverse, mth_extend, mth_insert, mth_split, mth_join, cmp_eq_ref, cmp_ne_ref, slc_tup, slc_str, slc_ref, lk_max, lk_min, cmp_lt_str, cmp_is_bl, cmp_not_bl, cmp_is_non, cmp_not_non, cmp_is_tup, cmp_not_tup, cmp_is_int, cmp_not_int, blt_str, blt_maxt, blt_mint, tg_np, $xs,*])
open PySem
section
def d_begin : Fn := { name := "_law_begin", arity := 1, slots := ["script", "cell"], body :=
  [(.ret (.mk (.disp (.cons (.mk (.comp (.blt .int (.cons (.var 1) .nil)) (.nm 1) (.dyn (.var 0)) none)) (.cons (.cst (.int 0)) (.cons (.cst (.int 0)) (.cons (.cst (.int 7)) (.cons (.cst (.int 3)) .nil))))))))] }
def d_draw : Fn := { name := "_law_draw", arity := 2, slots := ["d", "many", "found", "size", "cell"], body :=
  [(.ite (.v (.cmp .gt (.idx (.var 0) (.cst (.int 2))) (.cst (.int 0)))) [(.asg (.nm 2) (.idx (.var 0) (.cst (.int 2)))),
    (.mset (.var 0) (.cst (.int 2)) (.bin .fdiv (.var 2) (.var 1))),
    (.ret (.bin .mod (.blt .int (.cons (.var 2) .nil)) (.var 1)))] []),
    (.asg (.nm 3) (.cst (.int 0))),
    (.ite (.v (.cmp .lt (.idx (.var 0) (.cst (.int 1))) (.blt .len (.cons (.idx (.var 0) (.cst (.int 0))) .nil)))) [(.asg (.nm 4) (.idx (.idx (.var 0) (.cst (.int 0))) (.idx (.var 0) (.cst (.int 1))))),
    (.asg (.nm 3) (.bin .add (.bin .mul (.cst (.int 2)) (.blt .abs (.cons (.var 4) .nil))) (.blt .int (.cons (.cmp .lt (.var 4) (.cst (.int 0))) .nil))))] []),
    (.maug (.var 0) (.cst (.int 1)) .add (.cst (.int 1))),
    (.ite (.v (.cmp .ge (.var 3) (.bin .mul (.cst (.int 2)) (.bin .pow (.cst (.int 10)) (.cst (.int 18)))))) [(.asg (.nm 2) (.bin .mod (.blt .int (.cons (.bin .fdiv (.var 3) (.cst (.int 2))) .nil)) (.bin .shl (.cst (.int 1)) (.cst (.int 6000))))),
    (.mset (.var 0) (.cst (.int 2)) (.bin .fdiv (.var 2) (.var 1))),
    (.ret (.bin .mod (.blt .int (.cons (.var 2) .nil)) (.var 1)))] []),
    (.mset (.var 0) (.cst (.int 3)) (.bin .mod (.blt .int (.cons (.bin .add (.bin .add (.bin .add (.bin .mul (.idx (.var 0) (.cst (.int 3))) (.cst (.int 48271))) (.bin .mul (.bin .mod (.blt .int (.cons (.var 3) .nil)) (.cst (.int 2147483629))) (.cst (.int 16807)))) (.bin .mul (.idx (.var 0) (.cst (.int 1))) (.cst (.int 69621)))) (.cst (.int 11))) .nil)) (.cst (.int 2147483647)))),
    (.ret (.bin .mod (.blt .int (.cons (.bin .fdiv (.idx (.var 0) (.cst (.int 3))) (.cst (.int 16))) .nil)) (.var 1)))] }
def d_pick (f_draw : Nat) : Fn := { name := "_law_pick", arity := 2, slots := ["d", "row"], body :=
  [(.ret (.idx (.var 1) (.call f_draw (.cons (.var 0) (.cons (.blt .len (.cons (.var 1) .nil)) .nil)))))] }
/-- d is the drawer of a law, c its cells -/
def Dst (M : Mem) (d c : Nat) : Prop := ∃ (cells : List Int) (a : Nat) (r g : Int), M d = some (.lst [.ref c, .int a, .int r, .int g, .int 3]) ∧ c ≠ d ∧ M c = some (.lst (cells.map D.int))
/-- only the drawer has changed -/
def DrS (d c : Nat) (M M' : Mem) : Prop := Dst M' d c ∧ ∀ a, a ≠ d → M' a = M a
theorem DrS.trans {d c : Nat} {M M' M'' : Mem} (h : DrS d c M M') (h' : DrS d c M' M'') : DrS d c M M'' := ⟨h'.1, fun a ha => (h'.2 a ha).trans (h.2 a ha)⟩
theorem Dst.none {M : Mem} {d c : Nat} (h : Dst M d c) {p : Nat} (hp : M p = none) : p ≠ d ∧ p ≠ c := by
  obtain ⟨cells, a, r, g, h1, _, h2⟩ := h
  exact ⟨fun z => (by subst z; rw [h1] at hp; cases hp), fun z => (by subst z; rw [h2] at hp; cases hp)⟩
theorem Dst.at {M : Mem} {d c : Nat} {cells : List Int} {a : Int} {r g : Int} (ha : 0 ≤ a) (h : M d = some (.lst [.ref c, .int a, .int r, .int g, .int 3])) (hc : c ≠ d) (h2 : M c = some (.lst (cells.map D.int))) : Dst M d c :=
  ⟨cells, a.toNat, r, g, by rw [h]; congr 5; omega, hc, h2⟩
/-- a drawer behind a new list -/
theorem Dst.upd {M : Mem} {d c p : Nat} {o : MO} (h : Dst M d c) (hp : M p = .none) : Dst (upd M p o) d c := by
  obtain ⟨hpd, hpc⟩ := h.none hp
  obtain ⟨cells, a, r, g, h1, hc, h2⟩ := h
  exact ⟨cells, a, r, g, by rw [upd_no hpd.symm]; exact h1, hc, by rw [upd_no hpc.symm]; exact h2⟩
theorem DrS.drp {M M' : Mem} {d c p : Nat} {o : MO} (h : Dst M d c) (hp : M p = .none) (h' : DrS d c (DL.upd M p o) M') : DrS d c M (DL.drp M' p) := by
  obtain ⟨hpd, hpc⟩ := h.none hp
  refine ⟨?_, fun a ha => ?_⟩
  · obtain ⟨cells, a, r, g, h1, hc, h2⟩ := h'.1
    exact ⟨cells, a, r, g, by rw [drp_no hpd.symm]; exact h1, hc, by rw [drp_no hpc.symm]; exact h2⟩
  · by_cases e : a = p
    · subst e; rw [drp_at, hp]
    · rw [drp_no e, h'.2 a ha, upd_no e]
theorem Dst.put {M : Mem} {d c : Nat} {cells : List Int} {xs : List D} (hc : c ≠ d) (h2 : M c = some (.lst (cells.map D.int))) (a : Int) (r g : Int) (ha : 0 ≤ a) (e : xs = [.ref c, .int a, .int r, .int g, .int 3]) : DrS d c M (DL.upd M d (.lst xs)) :=
  ⟨Dst.at (a := a) ha (by rw [upd_at, e]) hc (by rw [upd_no hc]; exact h2), fun a ha => upd_no ha⟩
variable {P : List Fn} {n f : Nat} {M : Mem} {Q : QE} {E : QX}
theorem draw_ok (hf : P[f]? = some d_draw) {d c : Nat} {many : Int} (hm : 0 < many) (hm2 : many < 2 ^ 100) (h : Dst M d c) (q : ∀ k M', 0 ≤ k → k < many → DrS d c M M' → Q (.int k) M') : wFn P (n + 1) f [.ref d, .int many] M Q E := by
  obtain ⟨cells, a, r, g, h1, hc, h2⟩ := h
  have dv : DivOk many := DivOk.of hm hm2
  have md : ∀ i : Int, 0 ≤ i % many ∧ i % many < many := fun i => ⟨Int.emod_nonneg _ (by omega), Int.emod_lt_of_pos _ hm⟩
  refine enter hf rfl ?_
  simp only [d_draw]
  rw [ss_cons]
  simp! only [h1]
  split
  · rw [ss_cons]
    simp! only [h1]
    rw [ss_cons]
    simp! only [h1]
    refine ⟨dv, ?_⟩
    rw [ss_cons]
    walk_at "wp"
    exact ⟨hm, leave (q _ _ (md _).1 (md _).2 (Dst.put hc h2 a (r / many) g (by omega) rfl))⟩
  · skip
    have rest : ∀ (size : Int) (sl : Slot), wSs (wFn P n) (d_draw.body.drop 3) [.val (.ref d), .val (.int many), .no, .val (.int size), sl] M (Kt0 Q E) := fun size sl => by
      simp only [d_draw, List.drop]
      rw [ss_cons]
      simp! only [h1]
      rw [ss_cons]
      simp! only [CMulD]
      refine ⟨by decide, by decide, by decide, .inl (by decide), ?_⟩
      split
      · rw [ss_cons]
        walk_at "wp"
        refine ⟨DivOk.of (by decide) (by decide), by decide, by decide, by decide, ?_, ?_⟩
        · rw [Int.one_mul]; exact Int.pow_pos (by decide)
        rw [ss_cons]
        walk_at "wp"
        refine ⟨dv, ?_⟩
        rw [ss_cons]
        walk_at "wp"
        exact ⟨hm, leave (q _ _ (md _).1 (md _).2 (DrS.trans (Dst.put hc h2 (a + 1) r g (by omega) rfl) (Dst.put hc (by rw [upd_no hc]; exact h2) (a + 1) _ g (by omega) rfl)))⟩
      · rw [ss_cons]
        simp! only [CMulD]
        refine ⟨.inr (by decide), by decide, .inr (by decide), .inr (by decide), by decide, ?_⟩
        rw [ss_cons]
        simp! only [CMulD]
        exact ⟨DivOk.of (by decide) (by decide), hm, leave (q _ _ (md _).1 (md _).2 (DrS.trans (Dst.put hc h2 (a + 1) r g (by omega) rfl) (Dst.put hc (by rw [upd_no hc]; exact h2) (a + 1) r _ (by omega) rfl)))⟩
    rw [ss_cons]
    walk_at "wp"
    rw [ss_cons]
    simp! only [h1, h2]
    split
    · rename_i hlt
      have hlt' : a < cells.length := by simpa using hlt
      have e1 : L2.atI (cells.map D.int) (a : Int) = some (.int cells[a]) := atI_nat' rfl (by simp [List.getElem?_eq_getElem hlt'])
      rw [ss_cons]
      simp! only [h1, h2, e1]
      rw [ss_cons]
      simp! only [CMulD]
      refine ⟨.inl (by decide), ?_⟩
      exact rest _ _
    · exact rest 0 .no
/-- one of a row -/
theorem pick_ok {fd : Nat} (hf : P[f]? = some (d_pick fd)) (hd : P[fd]? = some d_draw) {d c a : Nat} {xs : List D} (h : Dst M d c) (hx : M a = some (.lst xs)) (had : a ≠ d) (h0 : xs ≠ []) (h1 : xs.length < 1073741824) (q : ∀ x M', x ∈ xs → DrS d c M M' → Q x M') : wFn P (n + 2) f [.ref d, .ref a] M Q E := by
  have hl : 0 < xs.length := List.length_pos_iff.mpr h0
  refine enter hf rfl ?_
  simp only [d_pick]
  rw [ss_cons]
  simp! only [hx]
  refine draw_ok hd (by omega) (by omega) h fun k M' k0 k1 s => ?_
  have e : L2.atI xs k = some xs[k.toNat] := atI_nat' (k := k.toNat) (by omega) (by simp)
  simp only [s.2 a had, hx, wS, wE, wEs, wO, wAs, wL, wN, wI, wT, wTs, setAll, Tg.slots, wipeE, cmp_eq_int, cmp_ne_int, cmp_eq_str, cmp_ne_str, cmp_eq_tup, cmp_ne_tup, cmp_eq_bl, cmp_lt, cmp_le, cmp_gt, cmp_ge, Kt0_rt, Kt0_nx, List.getElem?_cons_zero, List.getElem?_cons_succ, List.set_cons_zero, List.set_cons_succ, Option.some.injEq, Slot.val.injEq, Slot.own.injEq, MO.lst.injEq, D.int.injEq, D.ref.injEq, D.bl.injEq, D.tup.injEq, D.str.injEq, exists_eq_left', exists_eq_left, exists_and_left, exists_and_right, and_assoc, true_and, and_true, atI_0, atI_1, atI_2, atI_3, atI_4, backs, drps, List.map_cons, List.map_nil, List.length_cons, List.length_nil, List.cons_append, List.nil_append, List.replicate, Nat.reduceAdd, Nat.reduceSub, decide_eq_true_eq, upd_at, aug_add_int, aug_sub_int, aug_mul_int, aug_add_str, ixN5_1, ixN5_2, ixN5_3, Int.toNat_natCast, List.length_map, List.length_range, tg_nm, tg_tp, tru_non, tru_bl, tru_int, tru_str, tru_tup, tru_ref, bin_add_int, bin_add_str, bin_add_tup, bin_sub, bin_mul, bin_fdiv, bin_mod, bin_pow, bin_shl, bin_shr, bin_band, bin_bor, idx_tup, idx_ref, idx_str, blt_len_tup, blt_len_str, blt_len_ref, blt_int_int, blt_int_bl, blt_bool_bl, blt_bool_int, blt_abs, blt_max2, blt_max3, blt_min2, blt_tuple_tup, blt_tuple_ref, blt_isa_non, blt_isa_bl, blt_isa_int, blt_isa_str, blt_isa_tup, isa_int_int, isa_int_bool, isa_bl_bool, isa_tup, isa_str, lk_tuple, lk_len, lk_all, lk_any, lk_sum, it_tup, it_rl, it_ref, zip_tup, enum_tup, enum_ref, eq_self_iff_true, if_true, Bool.false_eq_true, if_false, reduceIte, ss_nil, rev_tup, rev_ref, ty_split, ty_join, ty_append, ty_pop, ty_popAt, ty_reverse, ty_extend, ty_insert, mth_append, mth_pop, mth_popAt, mth_reverse, mth_extend, mth_insert, mth_split, mth_join, cmp_eq_ref, cmp_ne_ref, slc_tup, slc_str, slc_ref, lk_max, lk_min, cmp_lt_str, cmp_is_bl, cmp_not_bl, cmp_is_non, cmp_not_non, cmp_is_tup, cmp_not_tup, cmp_is_int, cmp_not_int, blt_str, blt_maxt, blt_mint, tg_np, e]
  exact leave (q _ _ (List.getElem_mem _) s)
/-- one of a row of its own -/
theorem pick_tmp {fd : Nat} (hf : P[f]? = some (d_pick fd)) (hd : P[fd]? = some d_draw) {d c p : Nat} {xs : List D} (h : Dst M d c) (hp : M p = none) (h0 : xs ≠ []) (h1 : xs.length < 1073741824) (q : ∀ x M2, x ∈ xs → DrS d c M (drp M2 p) → Q x M2) : wFn P (n + 2) f [.ref d, .ref p] (upd M p (.lst xs)) Q E :=
  pick_ok hf hd (h.upd hp) upd_at (h.none hp).1.symm.symm h0 h1 fun x M' hx s => q x _ hx (s.drp h hp)
/-- the drawer itself -/
theorem begin_ok (hf : P[f]? = some d_begin) {ns : List Int} (hl : ns.length ≤ 63) (q : ∀ d c M', Dst M' d c → Q (.ref d) M') : wFn P (n + 1) f [.rl (ns.map D.int)] (fun _ => none) Q E := by
  refine enter hf rfl ?_
  simp only [d_begin]
  rw [ss_cons]
  walk_at "wp"
  refine ⟨Nat.le_trans hl (by decide), cmpr_map id trivial (fun x hx R hR => ?_) fun p hp => ⟨by decide, fun d hd => ?_⟩⟩
  · obtain ⟨i, hi, rfl⟩ := List.mem_map.mp hx
    walk_at "wp"
    exact hR
  · refine leave (q d p _ ?_)
    rw [List.map_id]
    have hdp : p ≠ d := by intro z; subst z; rw [upd_at] at hd; cases hd
    exact ⟨ns, 0, 0, 7, by rw [upd_at]; rfl, hdp, by rw [upd_no hdp, upd_at]⟩
end
end DL
/-! Tables: squares of small numbers. -/
namespace DL
local macro_rules | `(tactic| walk_at "wp") => `(tactic| simp only [wS, wE, wEs, wO, wAs, wL, wN, wI, wT, wTs, setAll, Tg.slots, wipeE, cmp_eq_int, cmp_ne_int, cmp_eq_str, cmp_ne_str, cmp_eq_tup, cmp_ne_tup, cmp_eq_bl, cmp_lt, cmp_le, cmp_gt, cmp_ge, Kt0_rt, Kt0_nx, List.getElem?_cons_zero, List.getElem?_cons_succ, List.set_cons_zero, List.set_cons_succ, Option.some.injEq, Slot.val.injEq, Slot.own.injEq, MO.lst.injEq, D.int.injEq, D.ref.injEq, D.bl.injEq, D.tup.injEq, D.str.injEq, exists_eq_left', exists_eq_left, exists_and_left, exists_and_right, and_assoc, true_and, and_true, atI_0, atI_1, atI_2, atI_3, atI_4, backs, drps, List.map_cons, List.map_nil, List.length_cons, List.length_nil, List.cons_append, List.nil_append, List.replicate, Nat.reduceAdd, Nat.reduceSub, decide_eq_true_eq, upd_at, aug_add_int, aug_sub_int, aug_mul_int, aug_add_str, ixN5_1, ixN5_2, ixN5_3, Int.toNat_natCast, List.length_map, List.length_range, tg_nm, tg_tp, tru_non, tru_bl, tru_int, tru_str, tru_tup, tru_ref, bin_add_int, bin_add_str, bin_add_tup, bin_sub, bin_mul, bin_fdiv, bin_mod, bin_pow, bin_shl, bin_shr, bin_band, bin_bor, idx_tup, idx_ref, idx_str, blt_len_tup, blt_len_str, blt_len_ref, blt_int_int, blt_int_bl, blt_bool_bl, blt_bool_int, blt_abs, blt_max2, blt_max3, blt_min2, blt_tuple_tup, blt_tuple_ref, blt_isa_non, blt_isa_bl, blt_isa_int, blt_isa_str, blt_isa_tup, isa_int_int, isa_int_bool, isa_bl_bool, isa_tup, isa_str, lk_tuple, lk_len, lk_all, lk_any, lk_sum, it_tup, it_rl, it_ref, zip_tup, enum_tup, enum_ref, eq_self_iff_true, if_true, Bool.false_eq_true, if_false, reduceIte, ss_nil, rev_tup, rev_ref, ty_split, ty_join, ty_append, ty_pop, ty_popAt, ty_reverse, ty_extend, ty_insert, mth_append, mth_pop, mth_popAt, mth_reverse, mth_extend, mth_insert, mth_split, mth_join, cmp_eq_ref, cmp_ne_ref, slc_tup, slc_str, slc_ref, lk_max, lk_min, cmp_lt_str, cmp_is_bl, cmp_not_bl, cmp_is_non, cmp_not_non, cmp_is_tup, cmp_not_tup, cmp_is_int, cmp_not_int, blt_str, blt_maxt, blt_mint, tg_np])
local macro_rules | `(tactic| simp! only [$xs:simpLemma,*]) => `(tactic| simp only [wS, wE, wEs, wO, wAs, wL, wN, wI, wT, wTs, setAll, Tg.slots, wipeE, cmp_eq_int, cmp_ne_int, cmp_eq_str, cmp_ne_str, cmp_eq_tup, cmp_ne_tup, cmp_eq_bl, cmp_lt, cmp_le, cmp_gt, cmp_ge, Kt0_rt, Kt0_nx, List.getElem?_cons_zero, List.getElem?_cons_succ, List.set_cons_zero, List.set_cons_succ, Option.some.injEq, Slot.val.injEq, Slot.own.injEq, MO.lst.injEq, D.int.injEq, D.ref.injEq, D.bl.injEq, D.tup.injEq, D.str.injEq, exists_eq_left', exists_eq_left, exists_and_left, exists_and_right, and_assoc, true_and, and_true, atI_0, atI_1, atI_2, atI_3, atI_4, backs, drps, List.map_cons, List.map_nil, List.length_cons, List.length_nil, List.cons_append, List.nil_append, List.replicate, Nat.reduceAdd, Nat.reduceSub, decide_eq_true_eq, upd_at, aug_add_int, aug_sub_int, aug_mul_int, aug_add_str, ixN5_1, ixN5_2, ixN5_3, Int.toNat_natCast, List.length_map, List.length_range, tg_nm, tg_tp, tru_non, tru_bl, tru_int, tru_str, tru_tup, tru_ref, bin_add_int, bin_add_str, bin_add_tup, bin_sub, bin_mul, bin_fdiv, bin_mod, bin_pow, bin_shl, bin_shr, bin_band, bin_bor, idx_tup, idx_ref, idx_str, blt_len_tup, blt_len_str, blt_len_ref, blt_int_int, blt_int_bl, blt_bool_bl, blt_bool_int, blt_abs, blt_max2, blt_max3, blt_min2, blt_tuple_tup, blt_tuple_ref, blt_isa_non, blt_isa_bl, blt_isa_int, blt_isa_str, blt_isa_tup, isa_int_int, isa_int_bool, isa_bl_bool, isa_tup, isa_str, lk_tuple, lk_len, lk_all, lk_any, lk_sum, it_tup, it_rl, it_ref, zip_tup, enum_tup, enum_ref, eq_self_iff_true, if_true, Bool.false_eq_true, if_false, reduceIte, ss_nil, rev_tup, rev_ref, ty_split, ty_join, ty_append, ty_pop, ty_popAt, ty_reverse, ty_extend, ty_insert, mth_append, mth_pop, mth_popAt, mth_reverse, mth_extend, mth_insert, mth_split, mth_join, cmp_eq_ref, cmp_ne_ref, slc_tup, slc_str, slc_ref, lk_max, lk_min, cmp_lt_str, cmp_is_bl, cmp_not_bl, cmp_is_non, cmp_not_non, cmp_is_tup, cmp_not_tup, cmp_is_int, cmp_not_int, blt_str, blt_maxt, blt_mint, tg_np, $xs,*])
open PySem
section
def d__law_is_int : Fn := { name := "_law_is_int", arity := 1, slots := ["thing"], body :=
  [(.ret (.and (.blt (.isa .int) (.cons (.var 0) .nil)) (.not (.blt (.isa .bool) (.cons (.var 0) .nil)))))] }
/-! the composition -/
def cmpN (r : Nat → Int) (h : Nat → Nat → Int) : Nat → Nat → Int
  | 0, _ => 0
  | k + 1, z => if 0 < r k ∧ 0 < h k z then max (max (cmpN r h k z) (r k)) (h k z) else cmpN r h k z
def comp (n : Nat) (g h : Nat → Nat → Int) : Nat → Nat → Int := fun x z => cmpN (g x) h n z
variable {P : List Fn} {n f : Nat} {M : Mem} {Q : QE} {E : QX}
/-! the reference -/
theorem is_int_ok (hf : P[f]? = some d__law_is_int) {i : Int} (q : Q (.bl true) M) : wFn P (n + 1) f [.int i] M Q E := by
  refine enter hf rfl ?_
  simp only [d__law_is_int]
  rw [ss_cons]
  walk_at "wp"
  exact leave q
/-! drawn tables -/
def Ent (m : Nat) (g : Nat → Nat → Int) : Prop := ∀ x y, x < m → y < m → 0 ≤ g x y ∧ g x y ≤ 2
/-! algebra of the composition -/
theorem cmpN_nonneg {r : Nat → Int} {h : Nat → Nat → Int} : ∀ {k z : Nat}, 0 ≤ cmpN r h k z
  | 0, _ => by simp [cmpN]
  | k + 1, z => by
    have := cmpN_nonneg (r := r) (h := h) (k := k) (z := z)
    rw [cmpN]
    split <;> omega
theorem le_cmpN {r : Nat → Int} {h : Nat → Nat → Int} {t : Int} (ht : 0 < t) : ∀ {k z : Nat}, t ≤ cmpN r h k z ↔ ∃ y, y < k ∧ 0 < r y ∧ 0 < h y z ∧ (t ≤ r y ∨ t ≤ h y z)
  | 0, _ => by
    rw [cmpN]
    constructor
    · intro; omega
    · rintro ⟨y, hy, _⟩; omega
  | k + 1, z => by
    have ih := le_cmpN (r := r) (h := h) ht (k := k) (z := z)
    rw [cmpN]
    split
    · rename_i hp
      constructor
      · intro hm
        by_cases h1 : t ≤ cmpN r h k z
        · obtain ⟨y, hy, r1⟩ := ih.mp h1
          exact ⟨y, by omega, r1⟩
        · exact ⟨k, by omega, hp.1, hp.2, by omega⟩
      · rintro ⟨y, hy, a, b, ab⟩
        by_cases e : y = k
        · subst e
          rcases ab with ab | ab
          · exact Int.le_trans ab (Int.le_trans (Int.le_max_right _ _) (Int.le_max_left _ _))
          · exact Int.le_trans ab (Int.le_max_right _ _)
        · have := ih.mpr ⟨y, by omega, a, b, ab⟩
          exact Int.le_trans this (Int.le_trans (Int.le_max_left _ _) (Int.le_max_left _ _))
    · rename_i hp
      rw [ih]
      constructor
      · rintro ⟨y, hy, r1⟩
        exact ⟨y, by omega, r1⟩
      · rintro ⟨y, hy, a, b, ab⟩
        refine ⟨y, ?_, a, b, ab⟩
        by_cases e : y = k
        · subst e; exact absurd ⟨a, b⟩ hp
        · omega
theorem comp_nonneg {m : Nat} {g h : Nat → Nat → Int} {x z : Nat} : 0 ≤ comp m g h x z := cmpN_nonneg
theorem le_comp {m : Nat} {g h : Nat → Nat → Int} {t : Int} (ht : 0 < t) {x z : Nat} : t ≤ comp m g h x z ↔ ∃ y, y < m ∧ 0 < g x y ∧ 0 < h y z ∧ (t ≤ g x y ∨ t ≤ h y z) := le_cmpN ht
theorem pos_comp {m : Nat} {g h : Nat → Nat → Int} {x z : Nat} : 0 < comp m g h x z ↔ ∃ y, y < m ∧ 0 < g x y ∧ 0 < h y z := by
  have := le_comp (m := m) (g := g) (h := h) (t := 1) (by decide) (x := x) (z := z)
  constructor
  · intro h0
    obtain ⟨y, a, b, c, _⟩ := this.mp (by omega)
    exact ⟨y, a, b, c⟩
  · rintro ⟨y, a, b, c⟩
    have := this.mpr ⟨y, a, b, c, .inl (by omega)⟩
    omega
/-! more defs -/
/-! a row of tables -/
end
end DL
/-! Webs. -/
namespace DL
local macro_rules | `(tactic| walk_at "wp") => `(tactic| simp only [wS, wE, wEs, wO, wAs, wL, wN, wI, wT, wTs, setAll, Tg.slots, wipeE, cmp_eq_int, cmp_ne_int, cmp_eq_str, cmp_ne_str, cmp_eq_tup, cmp_ne_tup, cmp_eq_bl, cmp_lt, cmp_le, cmp_gt, cmp_ge, Kt0_rt, Kt0_nx, List.getElem?_cons_zero, List.getElem?_cons_succ, List.set_cons_zero, List.set_cons_succ, Option.some.injEq, Slot.val.injEq, Slot.own.injEq, MO.lst.injEq, D.int.injEq, D.ref.injEq, D.bl.injEq, D.tup.injEq, D.str.injEq, exists_eq_left', exists_eq_left, exists_and_left, exists_and_right, and_assoc, true_and, and_true, atI_0, atI_1, atI_2, atI_3, atI_4, backs, drps, List.map_cons, List.map_nil, List.length_cons, List.length_nil, List.cons_append, List.nil_append, List.replicate, Nat.reduceAdd, Nat.reduceSub, decide_eq_true_eq, upd_at, aug_add_int, aug_sub_int, aug_mul_int, aug_add_str, ixN5_1, ixN5_2, ixN5_3, Int.toNat_natCast, List.length_map, List.length_range, tg_nm, tg_tp, tru_non, tru_bl, tru_int, tru_str, tru_tup, tru_ref, bin_add_int, bin_add_str, bin_add_tup, bin_sub, bin_mul, bin_fdiv, bin_mod, bin_pow, bin_shl, bin_shr, bin_band, bin_bor, idx_tup, idx_ref, idx_str, blt_len_tup, blt_len_str, blt_len_ref, blt_int_int, blt_int_bl, blt_bool_bl, blt_bool_int, blt_abs, blt_max2, blt_max3, blt_min2, blt_tuple_tup, blt_tuple_ref, blt_isa_non, blt_isa_bl, blt_isa_int, blt_isa_str, blt_isa_tup, isa_int_int, isa_int_bool, isa_bl_bool, isa_tup, isa_str, lk_tuple, lk_len, lk_all, lk_any, lk_sum, it_tup, it_rl, it_ref, zip_tup, enum_tup, enum_ref, eq_self_iff_true, if_true, Bool.false_eq_true, if_false, reduceIte, ss_nil, rev_tup, rev_ref, ty_split, ty_join, ty_append, ty_pop, ty_popAt, ty_reverse, ty_extend, ty_insert, mth_append, mth_pop, mth_popAt, mth_reverse, mth_extend, mth_insert, mth_split, mth_join, cmp_eq_ref, cmp_ne_ref, slc_tup, slc_str, slc_ref, lk_max, lk_min, cmp_lt_str, cmp_is_bl, cmp_not_bl, cmp_is_non, cmp_not_non, cmp_is_tup, cmp_not_tup, cmp_is_int, cmp_not_int, blt_str, blt_maxt, blt_mint, tg_np])
local macro_rules | `(tactic| simp! only [$xs:simpLemma,*]) => `(tactic| simp only [wS, wE, wEs, wO, wAs, wL, wN, wI, wT, wTs, setAll, Tg.slots, wipeE, cmp_eq_int, cmp_ne_int, cmp_eq_str, cmp_ne_str, cmp_eq_tup, cmp_ne_tup, cmp_eq_bl, cmp_lt, cmp_le, cmp_gt, cmp_ge, Kt0_rt, Kt0_nx, List.getElem?_cons_zero, List.getElem?_cons_succ, List.set_cons_zero, List.set_cons_succ, Option.some.injEq, Slot.val.injEq, Slot.own.injEq, MO.lst.injEq, D.int.injEq, D.ref.injEq, D.bl.injEq, D.tup.injEq, D.str.injEq, exists_eq_left', exists_eq_left, exists_and_left, exists_and_right, and_assoc, true_and, and_true, atI_0, atI_1, atI_2, atI_3, atI_4, backs, drps, List.map_cons, List.map_nil, List.length_cons, List.length_nil, List.cons_append, List.nil_append, List.replicate, Nat.reduceAdd, Nat.reduceSub, decide_eq_true_eq, upd_at, aug_add_int, aug_sub_int, aug_mul_int, aug_add_str, ixN5_1, ixN5_2, ixN5_3, Int.toNat_natCast, List.length_map, List.length_range, tg_nm, tg_tp, tru_non, tru_bl, tru_int, tru_str, tru_tup, tru_ref, bin_add_int, bin_add_str, bin_add_tup, bin_sub, bin_mul, bin_fdiv, bin_mod, bin_pow, bin_shl, bin_shr, bin_band, bin_bor, idx_tup, idx_ref, idx_str, blt_len_tup, blt_len_str, blt_len_ref, blt_int_int, blt_int_bl, blt_bool_bl, blt_bool_int, blt_abs, blt_max2, blt_max3, blt_min2, blt_tuple_tup, blt_tuple_ref, blt_isa_non, blt_isa_bl, blt_isa_int, blt_isa_str, blt_isa_tup, isa_int_int, isa_int_bool, isa_bl_bool, isa_tup, isa_str, lk_tuple, lk_len, lk_all, lk_any, lk_sum, it_tup, it_rl, it_ref, zip_tup, enum_tup, enum_ref, eq_self_iff_true, if_true, Bool.false_eq_true, if_false, reduceIte, ss_nil, rev_tup, rev_ref, ty_split, ty_join, ty_append, ty_pop, ty_popAt, ty_reverse, ty_extend, ty_insert, mth_append, mth_pop, mth_popAt, mth_reverse, mth_extend, mth_insert, mth_split, mth_join, cmp_eq_ref, cmp_ne_ref, slc_tup, slc_str, slc_ref, lk_max, lk_min, cmp_lt_str, cmp_is_bl, cmp_not_bl, cmp_is_non, cmp_not_non, cmp_is_tup, cmp_not_tup, cmp_is_int, cmp_not_int, blt_str, blt_maxt, blt_mint, tg_np, $xs,*])
open PySem
section
variable {P : List Fn} {n f : Nat} {M : Mem} {Q : QE} {E : QX}
/-! webs -/
structure Mv where
  name : Str
  wk : Nat
  src : Nat
  tgt : Nat
  tb : Nat → Nat → Int
structure Wb where
  sizes : List Str
  workers : List Str
  places : List Str
  start : Nat
  moves : List Mv
structure MvOk (s wk pl : Nat) (v : Mv) : Prop where
  wk : v.wk < wk
  src : v.src < pl
  tgt : v.tgt < pl
  tb : Ent s v.tb
structure WbOk (w : Wb) : Prop where
  start : w.start < w.places.length
  moves : ∀ v ∈ w.moves, MvOk w.sizes.length w.workers.length w.places.length v
  left : ∀ p, p < w.places.length → ∀ v, w.moves[p]? = some v → v.src = p
/-- a web whose moves fit (they need not leave each place) -/
structure WbMv (w : Wb) : Prop where
  start : w.start < w.places.length
  moves : ∀ v ∈ w.moves, MvOk w.sizes.length w.workers.length w.places.length v
theorem WbOk.mv {w : Wb} (h : WbOk w) : WbMv w := ⟨h.start, h.moves⟩
instance {w : Wb} : Coe (WbOk w) (WbMv w) := ⟨WbOk.mv⟩
/-! great webs -/
/-- the drawer has changed, and there may be more -/
def DrG (d c : Nat) (M M' : Mem) : Prop := Dst M' d c ∧ ∀ b o, b ≠ d → M b = some o → M' b = some o
theorem DrG.upd {d c b : Nat} {M M' : Mem} {o : MO} (h : DrG d c M M') (hb : M' b = none) : DrG d c M (DL.upd M' b o) := ⟨h.1.upd hb, fun a u ha e => by
  have := h.2 a u ha e
  rw [upd_no (ne_of_mem this hb)]
  exact this⟩
theorem DrG.go {d c : Nat} {M M' M'' : Mem} (h : DrG d c M M') (s : DrS d c M' M'') : DrG d c M M'' := ⟨s.1, fun a u ha e => by rw [s.2 a ha]; exact h.2 a u ha e⟩
def mix (M M' : Mem) (d : Nat) : Mem := fun b => if b = d then M' d else M b
theorem mix_at {M M' : Mem} {d : Nat} : mix M M' d d = M' d := if_pos rfl
theorem mix_no {M M' : Mem} {d b : Nat} (h : b ≠ d) : mix M M' d b = M b := if_neg h
theorem DrG.back {d c : Nat} {M M' : Mem} (h : DrG d c M M') (h0 : Dst M d c) : ∃ M'', Sub M'' M' ∧ DrS d c M M'' := by
  refine ⟨mix M M' d, fun b o e => ?_, ?_, fun b hb => mix_no hb⟩
  · by_cases z : b = d
    · subst z; rw [mix_at] at e; exact e
    · rw [mix_no z] at e; exact h.2 b o z e
  · obtain ⟨cells, a, r, g, h1, hc, h2⟩ := h.1
    obtain ⟨cells0, a0, r0, g0, h10, hc0, h20⟩ := h0
    exact ⟨cells0, a, r, g, by rw [mix_at]; exact h1, hc, by rw [mix_no hc]; exact h20⟩
end
end DL
/-! Webs, further: rows, great webs, grounds. -/
namespace DL
local macro_rules | `(tactic| walk_at "wp") => `(tactic| simp only [wS, wE, wEs, wO, wAs, wL, wN, wI, wT, wTs, setAll, Tg.slots, wipeE, cmp_eq_int, cmp_ne_int, cmp_eq_str, cmp_ne_str, cmp_eq_tup, cmp_ne_tup, cmp_eq_bl, cmp_lt, cmp_le, cmp_gt, cmp_ge, Kt0_rt, Kt0_nx, List.getElem?_cons_zero, List.getElem?_cons_succ, List.set_cons_zero, List.set_cons_succ, Option.some.injEq, Slot.val.injEq, Slot.own.injEq, MO.lst.injEq, D.int.injEq, D.ref.injEq, D.bl.injEq, D.tup.injEq, D.str.injEq, exists_eq_left', exists_eq_left, exists_and_left, exists_and_right, and_assoc, true_and, and_true, atI_0, atI_1, atI_2, atI_3, atI_4, backs, drps, List.map_cons, List.map_nil, List.length_cons, List.length_nil, List.cons_append, List.nil_append, List.replicate, Nat.reduceAdd, Nat.reduceSub, decide_eq_true_eq, upd_at, aug_add_int, aug_sub_int, aug_mul_int, aug_add_str, ixN5_1, ixN5_2, ixN5_3, Int.toNat_natCast, List.length_map, List.length_range, tg_nm, tg_tp, tru_non, tru_bl, tru_int, tru_str, tru_tup, tru_ref, bin_add_int, bin_add_str, bin_add_tup, bin_sub, bin_mul, bin_fdiv, bin_mod, bin_pow, bin_shl, bin_shr, bin_band, bin_bor, idx_tup, idx_ref, idx_str, blt_len_tup, blt_len_str, blt_len_ref, blt_int_int, blt_int_bl, blt_bool_bl, blt_bool_int, blt_abs, blt_max2, blt_max3, blt_min2, blt_tuple_tup, blt_tuple_ref, blt_isa_non, blt_isa_bl, blt_isa_int, blt_isa_str, blt_isa_tup, isa_int_int, isa_int_bool, isa_bl_bool, isa_tup, isa_str, lk_tuple, lk_len, lk_all, lk_any, lk_sum, it_tup, it_rl, it_ref, zip_tup, enum_tup, enum_ref, eq_self_iff_true, if_true, Bool.false_eq_true, if_false, reduceIte, ss_nil, rev_tup, rev_ref, ty_split, ty_join, ty_append, ty_pop, ty_popAt, ty_reverse, ty_extend, ty_insert, mth_append, mth_pop, mth_popAt, mth_reverse, mth_extend, mth_insert, mth_split, mth_join, cmp_eq_ref, cmp_ne_ref, slc_tup, slc_str, slc_ref, lk_max, lk_min, cmp_lt_str, cmp_is_bl, cmp_not_bl, cmp_is_non, cmp_not_non, cmp_is_tup, cmp_not_tup, cmp_is_int, cmp_not_int, blt_str, blt_maxt, blt_mint, tg_np])
local macro_rules | `(tactic| simp! only [$xs:simpLemma,*]) => `(tactic| simp only [wS, wE, wEs, wO, wAs, wL, wN, wI, wT, wTs, setAll, Tg.slots, wipeE, cmp_eq_int, cmp_ne_int, cmp_eq_str, cmp_ne_str, cmp_eq_tup, cmp_ne_tup, cmp_eq_bl, cmp_lt, cmp_le, cmp_gt, cmp_ge, Kt0_rt, Kt0_nx, List.getElem?_cons_zero, List.getElem?_cons_succ, List.set_cons_zero, List.set_cons_succ, Option.some.injEq, Slot.val.injEq, Slot.own.injEq, MO.lst.injEq, D.int.injEq, D.ref.injEq, D.bl.injEq, D.tup.injEq, D.str.injEq, exists_eq_left', exists_eq_left, exists_and_left, exists_and_right, and_assoc, true_and, and_true, atI_0, atI_1, atI_2, atI_3, atI_4, backs, drps, List.map_cons, List.map_nil, List.length_cons, List.length_nil, List.cons_append, List.nil_append, List.replicate, Nat.reduceAdd, Nat.reduceSub, decide_eq_true_eq, upd_at, aug_add_int, aug_sub_int, aug_mul_int, aug_add_str, ixN5_1, ixN5_2, ixN5_3, Int.toNat_natCast, List.length_map, List.length_range, tg_nm, tg_tp, tru_non, tru_bl, tru_int, tru_str, tru_tup, tru_ref, bin_add_int, bin_add_str, bin_add_tup, bin_sub, bin_mul, bin_fdiv, bin_mod, bin_pow, bin_shl, bin_shr, bin_band, bin_bor, idx_tup, idx_ref, idx_str, blt_len_tup, blt_len_str, blt_len_ref, blt_int_int, blt_int_bl, blt_bool_bl, blt_bool_int, blt_abs, blt_max2, blt_max3, blt_min2, blt_tuple_tup, blt_tuple_ref, blt_isa_non, blt_isa_bl, blt_isa_int, blt_isa_str, blt_isa_tup, isa_int_int, isa_int_bool, isa_bl_bool, isa_tup, isa_str, lk_tuple, lk_len, lk_all, lk_any, lk_sum, it_tup, it_rl, it_ref, zip_tup, enum_tup, enum_ref, eq_self_iff_true, if_true, Bool.false_eq_true, if_false, reduceIte, ss_nil, rev_tup, rev_ref, ty_split, ty_join, ty_append, ty_pop, ty_popAt, ty_reverse, ty_extend, ty_insert, mth_append, mth_pop, mth_popAt, mth_reverse, mth_extend, mth_insert, mth_split, mth_join, cmp_eq_ref, cmp_ne_ref, slc_tup, slc_str, slc_ref, lk_max, lk_min, cmp_lt_str, cmp_is_bl, cmp_not_bl, cmp_is_non, cmp_not_non, cmp_is_tup, cmp_not_tup, cmp_is_int, cmp_not_int, blt_str, blt_maxt, blt_mint, tg_np, $xs,*])
open PySem
section
variable {P : List Fn} {n f : Nat} {M : Mem} {Q : QE} {E : QX}
theorem get_map {α : Type} {f : α → D} {xs : List α} {k : Nat} (h : k < xs.length) : L2.atI (xs.map f) (k : Int) = some (f xs[k]) := atI_cast (by simp [h])
end
end DL
/-! Runs: words, rows that keep tables. -/
namespace DL
local macro_rules | `(tactic| walk_at "wp") => `(tactic| simp only [wS, wE, wEs, wO, wAs, wL, wN, wI, wT, wTs, setAll, Tg.slots, wipeE, cmp_eq_int, cmp_ne_int, cmp_eq_str, cmp_ne_str, cmp_eq_tup, cmp_ne_tup, cmp_eq_bl, cmp_lt, cmp_le, cmp_gt, cmp_ge, Kt0_rt, Kt0_nx, List.getElem?_cons_zero, List.getElem?_cons_succ, List.set_cons_zero, List.set_cons_succ, Option.some.injEq, Slot.val.injEq, Slot.own.injEq, MO.lst.injEq, D.int.injEq, D.ref.injEq, D.bl.injEq, D.tup.injEq, D.str.injEq, exists_eq_left', exists_eq_left, exists_and_left, exists_and_right, and_assoc, true_and, and_true, atI_0, atI_1, atI_2, atI_3, atI_4, backs, drps, List.map_cons, List.map_nil, List.length_cons, List.length_nil, List.cons_append, List.nil_append, List.replicate, Nat.reduceAdd, Nat.reduceSub, decide_eq_true_eq, upd_at, aug_add_int, aug_sub_int, aug_mul_int, aug_add_str, ixN5_1, ixN5_2, ixN5_3, Int.toNat_natCast, List.length_map, List.length_range, tg_nm, tg_tp, tru_non, tru_bl, tru_int, tru_str, tru_tup, tru_ref, bin_add_int, bin_add_str, bin_add_tup, bin_sub, bin_mul, bin_fdiv, bin_mod, bin_pow, bin_shl, bin_shr, bin_band, bin_bor, idx_tup, idx_ref, idx_str, blt_len_tup, blt_len_str, blt_len_ref, blt_int_int, blt_int_bl, blt_bool_bl, blt_bool_int, blt_abs, blt_max2, blt_max3, blt_min2, blt_tuple_tup, blt_tuple_ref, blt_isa_non, blt_isa_bl, blt_isa_int, blt_isa_str, blt_isa_tup, isa_int_int, isa_int_bool, isa_bl_bool, isa_tup, isa_str, lk_tuple, lk_len, lk_all, lk_any, lk_sum, it_tup, it_rl, it_ref, zip_tup, enum_tup, enum_ref, eq_self_iff_true, if_true, Bool.false_eq_true, if_false, reduceIte, ss_nil, rev_tup, rev_ref, ty_split, ty_join, ty_append, ty_pop, ty_popAt, ty_reverse, ty_extend, ty_insert, mth_append, mth_pop, mth_popAt, mth_reverse, mth_extend, mth_insert, mth_split, mth_join, cmp_eq_ref, cmp_ne_ref, slc_tup, slc_str, slc_ref, lk_max, lk_min, cmp_lt_str, cmp_is_bl, cmp_not_bl, cmp_is_non, cmp_not_non, cmp_is_tup, cmp_not_tup, cmp_is_int, cmp_not_int, blt_str, blt_maxt, blt_mint, tg_np])
local macro_rules | `(tactic| simp! only [$xs:simpLemma,*]) => `(tactic| simp only [wS, wE, wEs, wO, wAs, wL, wN, wI, wT, wTs, setAll, Tg.slots, wipeE, cmp_eq_int, cmp_ne_int, cmp_eq_str, cmp_ne_str, cmp_eq_tup, cmp_ne_tup, cmp_eq_bl, cmp_lt, cmp_le, cmp_gt, cmp_ge, Kt0_rt, Kt0_nx, List.getElem?_cons_zero, List.getElem?_cons_succ, List.set_cons_zero, List.set_cons_succ, Option.some.injEq, Slot.val.injEq, Slot.own.injEq, MO.lst.injEq, D.int.injEq, D.ref.injEq, D.bl.injEq, D.tup.injEq, D.str.injEq, exists_eq_left', exists_eq_left, exists_and_left, exists_and_right, and_assoc, true_and, and_true, atI_0, atI_1, atI_2, atI_3, atI_4, backs, drps, List.map_cons, List.map_nil, List.length_cons, List.length_nil, List.cons_append, List.nil_append, List.replicate, Nat.reduceAdd, Nat.reduceSub, decide_eq_true_eq, upd_at, aug_add_int, aug_sub_int, aug_mul_int, aug_add_str, ixN5_1, ixN5_2, ixN5_3, Int.toNat_natCast, List.length_map, List.length_range, tg_nm, tg_tp, tru_non, tru_bl, tru_int, tru_str, tru_tup, tru_ref, bin_add_int, bin_add_str, bin_add_tup, bin_sub, bin_mul, bin_fdiv, bin_mod, bin_pow, bin_shl, bin_shr, bin_band, bin_bor, idx_tup, idx_ref, idx_str, blt_len_tup, blt_len_str, blt_len_ref, blt_int_int, blt_int_bl, blt_bool_bl, blt_bool_int, blt_abs, blt_max2, blt_max3, blt_min2, blt_tuple_tup, blt_tuple_ref, blt_isa_non, blt_isa_bl, blt_isa_int, blt_isa_str, blt_isa_tup, isa_int_int, isa_int_bool, isa_bl_bool, isa_tup, isa_str, lk_tuple, lk_len, lk_all, lk_any, lk_sum, it_tup, it_rl, it_ref, zip_tup, enum_tup, enum_ref, eq_self_iff_true, if_true, Bool.false_eq_true, if_false, reduceIte, ss_nil, rev_tup, rev_ref, ty_split, ty_join, ty_append, ty_pop, ty_popAt, ty_reverse, ty_extend, ty_insert, mth_append, mth_pop, mth_popAt, mth_reverse, mth_extend, mth_insert, mth_split, mth_join, cmp_eq_ref, cmp_ne_ref, slc_tup, slc_str, slc_ref, lk_max, lk_min, cmp_lt_str, cmp_is_bl, cmp_not_bl, cmp_is_non, cmp_not_non, cmp_is_tup, cmp_not_tup, cmp_is_int, cmp_not_int, blt_str, blt_maxt, blt_mint, tg_np, $xs,*])
open PySem
section
def d__law_told (f_run_fault : Nat) (f__law_is_int : Nat) : Fn := { name := "_law_told", arity := 3, slots := ["web", "run", "due", "told"], body :=
  [(.asg (.nm 3) (.call f_run_fault (.cons (.var 0) (.cons (.idx (.var 1) (.cst (.int 0))) (.cons (.idx (.var 1) (.cst (.int 1))) (.cons (.idx (.var 1) (.cst (.int 2))) .nil)))))),
    (.ret (.and (.call f__law_is_int (.cons (.var 3) .nil)) (.cmp .eq (.var 3) (.var 2))))] }
theorem cmpr_mapG {α : Type} {ok : Mem → Prop} {el : D → Mem → (Option D → Mem → Prop) → Prop} {M : Mem} (u v : α → D) : ∀ {xs : List α} {Q : QL}, ok M → (∀ x ∈ xs, ∀ R : Option D → Mem → Prop, R (some (v x)) M → el (u x) M R) → Q (xs.map v) M → wCmpr ok el (xs.map u) M Q
  | [], Q, ho, h, q => ⟨ho, q⟩
  | x :: xs, Q, ho, h, q => ⟨ho, h x List.mem_cons_self _ (cmpr_mapG u v ho (fun y hy => h y (List.mem_cons_of_mem _ hy)) q)⟩
theorem cut_to {xs : List D} {k : Nat} : cutD xs none (some (k : Int)) = xs.take k := by
  unfold cutD
  rw [HT.sIx_none, HT.sIx_nat, List.drop_zero, Nat.sub_zero]
  by_cases h : k ≤ xs.length
  · rw [Nat.min_eq_left h]
  · rw [Nat.min_eq_right (by omega), List.take_length, List.take_of_length_le (by omega)]
theorem cut_from {xs : List D} {k : Nat} : cutD xs (some (k : Int)) none = xs.drop k := by
  unfold cutD
  rw [HT.sIx_none, HT.sIx_nat]
  by_cases h : k ≤ xs.length
  · rw [Nat.min_eq_left h, List.take_of_length_le (by simp)]
  · rw [Nat.min_eq_right (by omega), List.drop_length, List.drop_of_length_le (by omega)]; simp
/-- two rows keep a table -/
def BadP (g : Nat → Nat → Int) (a b : Nat → Int) (x y : Nat) : Prop := (g x y = 1 ∧ a x < b y) ∨ (g x y = 2 ∧ a x ≤ b y)
instance {g a b x y} : Decidable (BadP g a b x y) := by unfold BadP; infer_instance
def KpT (s : Nat) (g : Nat → Nat → Int) (a b : Nat → Int) : Prop := ∀ x, x < s → ∀ y, y < s → ¬ BadP g a b x y
instance {s g a b} : Decidable (KpT s g a b) := by unfold KpT; infer_instance
variable {P : List Fn} {n f : Nat} {M : Mem} {Q : QE} {E : QX}
theorem for_rangeT {F : FS} {K : Kt} {env : Env} {ok : Env → Mem → Prop} {t : Tg} {b : List IS} {n : Nat} {u : Nat → D} (hF : FMono F) (I : Nat → Env → Mem → Prop) (h0 : I 0 env M) (hok : ∀ i e m, I i e m → ok e m) (fin : ∀ e m, I n e m → K.nx e m)
    (step : ∀ (k : Nat) e m, k < n → I k e m → wTg t (u k) e fun e' => wSs F b e' m { K with nx := fun e m => I (k + 1) e m, ct := fun e m => I (k + 1) e m, bk := K.nx }) :
    wFor ok (fun x e m K' => wTg t x e fun e' => wSs F b e' m K') ((List.range n).map u) env M K := by
  refine for_idx hF I h0 hok (fun e m h => fin e m (by simpa using h)) fun k x e m hx h => ?_
  have hk : k < n := by
    have := (List.getElem?_eq_some_iff.mp hx).1
    simpa using this
  have : x = u k := by
    rw [List.getElem?_map, List.getElem?_range hk] at hx
    exact (Option.some.inj hx).symm
  subst this
  exact step k e m hk h
/-- the first pair that is not kept -/
def FstBad (s : Nat) (g : Nat → Nat → Int) (a b : Nat → Int) (x y : Nat) : Prop := x < s ∧ y < s ∧ BadP g a b x y ∧ (∀ y', y' < y → ¬ BadP g a b x y') ∧ ∀ x', x' < x → ∀ y', y' < s → ¬ BadP g a b x' y'
theorem FstBad.not {s g a b x y} (h : FstBad s g a b x y) : ¬ KpT s g a b := fun z => z x h.1 y h.2.1 h.2.2.1
/-! words -/
def IsFirst (n : Nat) (bad : Nat → Prop) (r : Int) : Prop := (r = -1 ∧ ∀ k, k < n → ¬ bad k) ∨ ∃ k : Nat, k < n ∧ r = (k : Int) ∧ bad k ∧ ∀ j, j < k → ¬ bad j
theorem IsFirst.uniq {n : Nat} {bad : Nat → Prop} {r r' : Int} (h : IsFirst n bad r) (h' : IsFirst n bad r') : r = r' := by
  rcases h with ⟨e, h⟩ | ⟨k, k1, e, k2, k3⟩
  · rcases h' with ⟨e', h'⟩ | ⟨k', k1', e', k2', k3'⟩
    · omega
    · exact absurd k2' (h k' k1')
  · rcases h' with ⟨e', h'⟩ | ⟨k', k1', e', k2', k3'⟩
    · exact absurd k2 (h' k k1)
    · by_cases e1 : k < k'
      · exact absurd k2 (k3' k e1)
      · by_cases e2 : k' < k
        · exact absurd k2' (k3 k' e2)
        · have : k = k' := by omega
          subst this; omega
theorem getD_at {α : Type} {xs : List α} {k : Nat} {d : α} (h : k < xs.length) : xs.getD k d = xs[k] := by rw [List.getD_eq_getElem?_getD, List.getElem?_eq_getElem h]; rfl
/-- all numbers of a word are those of moves -/
def WordOk (w : Wb) (ks : List Nat) : Prop := ∀ k ∈ ks, k < w.moves.length
theorem WordOk.at {w : Wb} {ks : List Nat} (h : WordOk w ks) {k : Nat} (hk : k < ks.length) : ks.getD k 0 < w.moves.length := by rw [getD_at hk]; exact h _ (List.getElem_mem hk)
/-- a row that is great enough ahead of another one -/
def Ahd (s : Nat) (g : Nat → Nat → Int) (b : Nat → Int) (x : Nat) (v : Int) : Prop := ∀ y, y < s → 0 < g x y → b y + g x y - 1 ≤ v
theorem Ahd.kp {s : Nat} {g : Nat → Nat → Int} {a b : Nat → Int} (h : ∀ x, x < s → Ahd s g b x (a x)) : KpT s g a b := fun x hx y hy z => by
  rcases z with ⟨z1, z2⟩ | ⟨z1, z2⟩
  · have := h x hx y hy (by omega); omega
  · have := h x hx y hy (by omega); omega
end
end DL
/-! Least rows, boxes of rows. -/
namespace DL
local macro_rules | `(tactic| walk_at "wp") => `(tactic| simp only [wS, wE, wEs, wO, wAs, wL, wN, wI, wT, wTs, setAll, Tg.slots, wipeE, cmp_eq_int, cmp_ne_int, cmp_eq_str, cmp_ne_str, cmp_eq_tup, cmp_ne_tup, cmp_eq_bl, cmp_lt, cmp_le, cmp_gt, cmp_ge, Kt0_rt, Kt0_nx, List.getElem?_cons_zero, List.getElem?_cons_succ, List.set_cons_zero, List.set_cons_succ, Option.some.injEq, Slot.val.injEq, Slot.own.injEq, MO.lst.injEq, D.int.injEq, D.ref.injEq, D.bl.injEq, D.tup.injEq, D.str.injEq, exists_eq_left', exists_eq_left, exists_and_left, exists_and_right, and_assoc, true_and, and_true, atI_0, atI_1, atI_2, atI_3, atI_4, backs, drps, List.map_cons, List.map_nil, List.length_cons, List.length_nil, List.cons_append, List.nil_append, List.replicate, Nat.reduceAdd, Nat.reduceSub, decide_eq_true_eq, upd_at, aug_add_int, aug_sub_int, aug_mul_int, aug_add_str, ixN5_1, ixN5_2, ixN5_3, Int.toNat_natCast, List.length_map, List.length_range, tg_nm, tg_tp, tru_non, tru_bl, tru_int, tru_str, tru_tup, tru_ref, bin_add_int, bin_add_str, bin_add_tup, bin_sub, bin_mul, bin_fdiv, bin_mod, bin_pow, bin_shl, bin_shr, bin_band, bin_bor, idx_tup, idx_ref, idx_str, blt_len_tup, blt_len_str, blt_len_ref, blt_int_int, blt_int_bl, blt_bool_bl, blt_bool_int, blt_abs, blt_max2, blt_max3, blt_min2, blt_tuple_tup, blt_tuple_ref, blt_isa_non, blt_isa_bl, blt_isa_int, blt_isa_str, blt_isa_tup, isa_int_int, isa_int_bool, isa_bl_bool, isa_tup, isa_str, lk_tuple, lk_len, lk_all, lk_any, lk_sum, it_tup, it_rl, it_ref, zip_tup, enum_tup, enum_ref, eq_self_iff_true, if_true, Bool.false_eq_true, if_false, reduceIte, ss_nil, rev_tup, rev_ref, ty_split, ty_join, ty_append, ty_pop, ty_popAt, ty_reverse, ty_extend, ty_insert, mth_append, mth_pop, mth_popAt, mth_reverse, mth_extend, mth_insert, mth_split, mth_join, cmp_eq_ref, cmp_ne_ref, slc_tup, slc_str, slc_ref, lk_max, lk_min, cmp_lt_str, cmp_is_bl, cmp_not_bl, cmp_is_non, cmp_not_non, cmp_is_tup, cmp_not_tup, cmp_is_int, cmp_not_int, blt_str, blt_maxt, blt_mint, tg_np])
local macro_rules | `(tactic| simp! only [$xs:simpLemma,*]) => `(tactic| simp only [wS, wE, wEs, wO, wAs, wL, wN, wI, wT, wTs, setAll, Tg.slots, wipeE, cmp_eq_int, cmp_ne_int, cmp_eq_str, cmp_ne_str, cmp_eq_tup, cmp_ne_tup, cmp_eq_bl, cmp_lt, cmp_le, cmp_gt, cmp_ge, Kt0_rt, Kt0_nx, List.getElem?_cons_zero, List.getElem?_cons_succ, List.set_cons_zero, List.set_cons_succ, Option.some.injEq, Slot.val.injEq, Slot.own.injEq, MO.lst.injEq, D.int.injEq, D.ref.injEq, D.bl.injEq, D.tup.injEq, D.str.injEq, exists_eq_left', exists_eq_left, exists_and_left, exists_and_right, and_assoc, true_and, and_true, atI_0, atI_1, atI_2, atI_3, atI_4, backs, drps, List.map_cons, List.map_nil, List.length_cons, List.length_nil, List.cons_append, List.nil_append, List.replicate, Nat.reduceAdd, Nat.reduceSub, decide_eq_true_eq, upd_at, aug_add_int, aug_sub_int, aug_mul_int, aug_add_str, ixN5_1, ixN5_2, ixN5_3, Int.toNat_natCast, List.length_map, List.length_range, tg_nm, tg_tp, tru_non, tru_bl, tru_int, tru_str, tru_tup, tru_ref, bin_add_int, bin_add_str, bin_add_tup, bin_sub, bin_mul, bin_fdiv, bin_mod, bin_pow, bin_shl, bin_shr, bin_band, bin_bor, idx_tup, idx_ref, idx_str, blt_len_tup, blt_len_str, blt_len_ref, blt_int_int, blt_int_bl, blt_bool_bl, blt_bool_int, blt_abs, blt_max2, blt_max3, blt_min2, blt_tuple_tup, blt_tuple_ref, blt_isa_non, blt_isa_bl, blt_isa_int, blt_isa_str, blt_isa_tup, isa_int_int, isa_int_bool, isa_bl_bool, isa_tup, isa_str, lk_tuple, lk_len, lk_all, lk_any, lk_sum, it_tup, it_rl, it_ref, zip_tup, enum_tup, enum_ref, eq_self_iff_true, if_true, Bool.false_eq_true, if_false, reduceIte, ss_nil, rev_tup, rev_ref, ty_split, ty_join, ty_append, ty_pop, ty_popAt, ty_reverse, ty_extend, ty_insert, mth_append, mth_pop, mth_popAt, mth_reverse, mth_extend, mth_insert, mth_split, mth_join, cmp_eq_ref, cmp_ne_ref, slc_tup, slc_str, slc_ref, lk_max, lk_min, cmp_lt_str, cmp_is_bl, cmp_not_bl, cmp_is_non, cmp_not_non, cmp_is_tup, cmp_not_tup, cmp_is_int, cmp_not_int, blt_str, blt_maxt, blt_mint, tg_np, $xs,*])
open PySem
section
variable {P : List Fn} {n f : Nat} {M : Mem} {Q : QE} {E : QX}
theorem atI_neg1 {xs : List D} {x : D} (h : xs.getLast? = some x) : L2.atI xs (-1) = some x := by
  obtain ⟨ys, rfl⟩ := List.getLast?_eq_some_iff.mp h
  exact L2.atI_last _ _
/-! the least row ahead -/
theorem kp_ahd {s : Nat} {g : Nat → Nat → Int} {a b : Nat → Int} (e : Ent s g) (h : KpT s g a b) : ∀ x, x < s → Ahd s g b x (a x) := fun x hx y hy h0 => by
  have h1 := h x hx y hy
  have h2 := e x y hx hy
  by_cases e1 : g x y = 1
  · have : ¬ a x < b y := fun z => h1 (.inl ⟨e1, z⟩)
    omega
  · have e2 : g x y = 2 := by omega
    have : ¬ a x ≤ b y := fun z => h1 (.inr ⟨e2, z⟩)
    omega
/-! the least rows along a word -/
theorem Sub.upd' {M M' : Mem} {p : Nat} {o : MO} (h : Sub M M') (hp : M' p = Option.none) : Sub M (upd M' p o) := fun a u e => by
  have e1 := h a u e
  rw [upd_no (ne_of_mem e1 hp)]; exact e1
theorem cmpr_filtG {α : Type} {ok : Mem → Prop} {el : D → Mem → (Option D → Mem → Prop) → Prop} {M : Mem} (c : α → Bool) (u v : α → D) : ∀ {xs : List α} {Q : QL}, ok M → (∀ x ∈ xs, ∀ R : Option D → Mem → Prop, R (if c x then some (v x) else none) M → el (u x) M R) → Q ((xs.filter c).map v) M → wCmpr ok el (xs.map u) M Q
  | [], Q, ho, h, q => ⟨ho, q⟩
  | x :: xs, Q, ho, h, q => by
    refine ⟨ho, h x List.mem_cons_self _ ?_⟩
    rw [List.filter_cons] at q
    by_cases e : c x = true
    · rw [if_pos e] at q ⊢
      exact cmpr_filtG c u v ho (fun y hy => h y (List.mem_cons_of_mem _ hy)) q
    · rw [if_neg e] at q ⊢
      exact cmpr_filtG c u v ho (fun y hy => h y (List.mem_cons_of_mem _ hy)) q
/-! boxes of rows -/
/-! more on rows -/
theorem KpT.mono {s : Nat} {g : Nat → Nat → Int} {a a' b : Nat → Int} (h : KpT s g a b) (ha : ∀ x, x < s → a x ≤ a' x) : KpT s g a' b := fun x hx y hy z => by
  refine h x hx y hy ?_
  have := ha x hx
  unfold BadP at z ⊢
  omega
end
end DL
/-! Powers of a table. -/
namespace DL
open PySem
section
def EqT (m : Nat) (g h : Nat → Nat → Int) : Prop := ∀ x y, x < m → y < m → g x y = h x y
theorem EqT.sym {m : Nat} {g h : Nat → Nat → Int} (e : EqT m g h) : EqT m h g := fun x y hx hy => (e x y hx hy).symm
theorem EqT.tr {m : Nat} {g h k : Nat → Nat → Int} (e : EqT m g h) (e' : EqT m h k) : EqT m g k := fun x y hx hy => (e x y hx hy).trans (e' x y hx hy)
instance {m g h} : Decidable (EqT m g h) := decidable_of_iff (∀ x, x < m → ∀ y, y < m → g x y = h x y) ⟨fun z x y hx hy => z x hx y hy, fun z x hx y hy => z x y hx hy⟩
/-- the powers, from the first one -/
def pw (m : Nat) (g : Nat → Nat → Int) : Nat → Nat → Nat → Int
  | 0 => g
  | k + 1 => comp m (pw m g k) g
theorem comp_ent {m : Nat} {g h : Nat → Nat → Int} (hg : Ent m g) (hh : Ent m h) : Ent m (comp m g h) := fun x z hx hz => by
  refine ⟨comp_nonneg, ?_⟩
  by_cases e : 3 ≤ comp m g h x z
  · obtain ⟨y, hy, h1, h2, h3⟩ := (le_comp (by decide)).mp e
    have := (hg x y hx hy).2
    have := (hh y z hy hz).2
    omega
  · omega
theorem KpT.comp {m : Nat} {g h : Nat → Nat → Int} {a b c : Nat → Int} (eg : Ent m g) (eh : Ent m h) (h1 : KpT m g a b) (h2 : KpT m h b c) : KpT m (DL.comp m g h) a c := Ahd.kp fun x hx z hz h0 => by
  have hle := (comp_ent eg eh x z hx hz).2
  by_cases e : 2 ≤ DL.comp m g h x z
  · obtain ⟨y, hy, g0, h0', hc⟩ := (le_comp (by decide)).mp e
    have k1 := kp_ahd eg h1 x hx y hy g0
    have k2 := kp_ahd eh h2 y hy z hz h0'
    have := (eg x y hx hy).2
    have := (eh y z hy hz).2
    rcases hc with hc | hc <;> omega
  · obtain ⟨y, hy, g0, h0'⟩ := pos_comp.mp h0
    have k1 := kp_ahd eg h1 x hx y hy g0
    have k2 := kp_ahd eh h2 y hy z hz h0'
    omega
/-! walks -/
structure Wlk (m : Nat) (g : Nat → Nat → Int) (k x z : Nat) (t : Int) (W : Nat → Nat) : Prop where
  st : W 0 = x
  en : W k = z
  lt : ∀ i, i ≤ k → W i < m
  arc : ∀ i, i < k → 0 < g (W i) (W (i + 1))
  mark : t ≤ 1 ∨ ∃ i, i < k ∧ t ≤ g (W i) (W (i + 1))
theorem Wlk.snoc {m : Nat} {g : Nat → Nat → Int} {k x y z : Nat} {t t' : Int} {W : Nat → Nat} (h : Wlk m g k x y t W) (hz : z < m) (h0 : 0 < g y z) (ht : t' ≤ t ∨ t' ≤ g y z) : Wlk m g (k + 1) x z t' fun i => if i ≤ k then W i else z := by
  have arcs : ∀ i, i < k → (if i ≤ k then W i else z) = W i ∧ (if i + 1 ≤ k then W (i + 1) else z) = W (i + 1) := fun i hi => ⟨if_pos (by omega), if_pos (by omega)⟩
  have last : (if k ≤ k then W k else z) = y ∧ (if k + 1 ≤ k then W (k + 1) else z) = z := ⟨by rw [if_pos (Nat.le_refl _)]; exact h.en, if_neg (by omega)⟩
  refine ⟨?_, if_neg (by omega), fun i hi => ?_, fun i hi => ?_, ?_⟩
  · show (if 0 ≤ k then W 0 else z) = x
    rw [if_pos (Nat.zero_le _)]; exact h.st
  · show (if i ≤ k then W i else z) < m
    split
    · rename_i z; exact h.lt i z
    · exact hz
  · by_cases e : i < k
    · show 0 < g (if i ≤ k then W i else z) (if i + 1 ≤ k then W (i + 1) else z)
      rw [(arcs i e).1, (arcs i e).2]; exact h.arc i e
    · have : i = k := by omega
      subst this
      show 0 < g (if i ≤ i then W i else z) (if i + 1 ≤ i then W (i + 1) else z)
      rw [last.1, last.2]; exact h0
  · have hl : t' ≤ g y z → ∃ i, i < k + 1 ∧ t' ≤ g (if i ≤ k then W i else z) (if i + 1 ≤ k then W (i + 1) else z) := fun hh => ⟨k, by omega, by rw [last.1, last.2]; exact hh⟩
    rcases ht with ht | ht
    · rcases h.mark with e | ⟨i, hi, e⟩
      · exact .inl (by omega)
      · exact .inr ⟨i, by omega, by rw [(arcs i hi).1, (arcs i hi).2]; omega⟩
    · exact .inr (hl ht)
/-! sums -/
/-! the cycle of the powers -/
/-- the first power that comes again is the L-th, and it is the f-th -/
structure Cyc (m : Nat) (g : Nat → Nat → Int) (f L : Nat) : Prop where
  lt : f < L
  same : EqT m (pw m g L) (pw m g f)
  unl : ∀ i j, i < j → j < L → ¬ EqT m (pw m g i) (pw m g j)
namespace Cyc
variable {m : Nat} {g : Nat → Nat → Int} {f L : Nat}
theorem uniq (c : Cyc m g f L) {i j : Nat} (hi : i < L) (hj : j < L) (e : EqT m (pw m g i) (pw m g j)) : i = j := by
  rcases Nat.lt_trichotomy i j with z | z | z
  · exact absurd e (c.unl i j z hj)
  · exact z
  · exact absurd e.sym (c.unl j i z hi)
end Cyc
/-! the least rows that a table keeps -/
end
end DL
/-! Squares, and whether a table is stuck. -/
namespace DL
local macro_rules | `(tactic| walk_at "wp") => `(tactic| simp only [wS, wE, wEs, wO, wAs, wL, wN, wI, wT, wTs, setAll, Tg.slots, wipeE, cmp_eq_int, cmp_ne_int, cmp_eq_str, cmp_ne_str, cmp_eq_tup, cmp_ne_tup, cmp_eq_bl, cmp_lt, cmp_le, cmp_gt, cmp_ge, Kt0_rt, Kt0_nx, List.getElem?_cons_zero, List.getElem?_cons_succ, List.set_cons_zero, List.set_cons_succ, Option.some.injEq, Slot.val.injEq, Slot.own.injEq, MO.lst.injEq, D.int.injEq, D.ref.injEq, D.bl.injEq, D.tup.injEq, D.str.injEq, exists_eq_left', exists_eq_left, exists_and_left, exists_and_right, and_assoc, true_and, and_true, atI_0, atI_1, atI_2, atI_3, atI_4, backs, drps, List.map_cons, List.map_nil, List.length_cons, List.length_nil, List.cons_append, List.nil_append, List.replicate, Nat.reduceAdd, Nat.reduceSub, decide_eq_true_eq, upd_at, aug_add_int, aug_sub_int, aug_mul_int, aug_add_str, ixN5_1, ixN5_2, ixN5_3, Int.toNat_natCast, List.length_map, List.length_range, tg_nm, tg_tp, tru_non, tru_bl, tru_int, tru_str, tru_tup, tru_ref, bin_add_int, bin_add_str, bin_add_tup, bin_sub, bin_mul, bin_fdiv, bin_mod, bin_pow, bin_shl, bin_shr, bin_band, bin_bor, idx_tup, idx_ref, idx_str, blt_len_tup, blt_len_str, blt_len_ref, blt_int_int, blt_int_bl, blt_bool_bl, blt_bool_int, blt_abs, blt_max2, blt_max3, blt_min2, blt_tuple_tup, blt_tuple_ref, blt_isa_non, blt_isa_bl, blt_isa_int, blt_isa_str, blt_isa_tup, isa_int_int, isa_int_bool, isa_bl_bool, isa_tup, isa_str, lk_tuple, lk_len, lk_all, lk_any, lk_sum, it_tup, it_rl, it_ref, zip_tup, enum_tup, enum_ref, eq_self_iff_true, if_true, Bool.false_eq_true, if_false, reduceIte, ss_nil, rev_tup, rev_ref, ty_split, ty_join, ty_append, ty_pop, ty_popAt, ty_reverse, ty_extend, ty_insert, mth_append, mth_pop, mth_popAt, mth_reverse, mth_extend, mth_insert, mth_split, mth_join, cmp_eq_ref, cmp_ne_ref, slc_tup, slc_str, slc_ref, lk_max, lk_min, cmp_lt_str, cmp_is_bl, cmp_not_bl, cmp_is_non, cmp_not_non, cmp_is_tup, cmp_not_tup, cmp_is_int, cmp_not_int, blt_str, blt_maxt, blt_mint, tg_np])
local macro_rules | `(tactic| simp! only [$xs:simpLemma,*]) => `(tactic| simp only [wS, wE, wEs, wO, wAs, wL, wN, wI, wT, wTs, setAll, Tg.slots, wipeE, cmp_eq_int, cmp_ne_int, cmp_eq_str, cmp_ne_str, cmp_eq_tup, cmp_ne_tup, cmp_eq_bl, cmp_lt, cmp_le, cmp_gt, cmp_ge, Kt0_rt, Kt0_nx, List.getElem?_cons_zero, List.getElem?_cons_succ, List.set_cons_zero, List.set_cons_succ, Option.some.injEq, Slot.val.injEq, Slot.own.injEq, MO.lst.injEq, D.int.injEq, D.ref.injEq, D.bl.injEq, D.tup.injEq, D.str.injEq, exists_eq_left', exists_eq_left, exists_and_left, exists_and_right, and_assoc, true_and, and_true, atI_0, atI_1, atI_2, atI_3, atI_4, backs, drps, List.map_cons, List.map_nil, List.length_cons, List.length_nil, List.cons_append, List.nil_append, List.replicate, Nat.reduceAdd, Nat.reduceSub, decide_eq_true_eq, upd_at, aug_add_int, aug_sub_int, aug_mul_int, aug_add_str, ixN5_1, ixN5_2, ixN5_3, Int.toNat_natCast, List.length_map, List.length_range, tg_nm, tg_tp, tru_non, tru_bl, tru_int, tru_str, tru_tup, tru_ref, bin_add_int, bin_add_str, bin_add_tup, bin_sub, bin_mul, bin_fdiv, bin_mod, bin_pow, bin_shl, bin_shr, bin_band, bin_bor, idx_tup, idx_ref, idx_str, blt_len_tup, blt_len_str, blt_len_ref, blt_int_int, blt_int_bl, blt_bool_bl, blt_bool_int, blt_abs, blt_max2, blt_max3, blt_min2, blt_tuple_tup, blt_tuple_ref, blt_isa_non, blt_isa_bl, blt_isa_int, blt_isa_str, blt_isa_tup, isa_int_int, isa_int_bool, isa_bl_bool, isa_tup, isa_str, lk_tuple, lk_len, lk_all, lk_any, lk_sum, it_tup, it_rl, it_ref, zip_tup, enum_tup, enum_ref, eq_self_iff_true, if_true, Bool.false_eq_true, if_false, reduceIte, ss_nil, rev_tup, rev_ref, ty_split, ty_join, ty_append, ty_pop, ty_popAt, ty_reverse, ty_extend, ty_insert, mth_append, mth_pop, mth_popAt, mth_reverse, mth_extend, mth_insert, mth_split, mth_join, cmp_eq_ref, cmp_ne_ref, slc_tup, slc_str, slc_ref, lk_max, lk_min, cmp_lt_str, cmp_is_bl, cmp_not_bl, cmp_is_non, cmp_not_non, cmp_is_tup, cmp_not_tup, cmp_is_int, cmp_not_int, blt_str, blt_maxt, blt_mint, tg_np, $xs,*])
open PySem
section
variable {P : List Fn} {n f : Nat} {M : Mem} {Q : QE} {E : QX}
/-- a while loop by counted rounds -/
theorem whl_at {F : FS} {K : Kt} {env : Env} {c : IT} {b : List IS} (hF : FMono F) (I : Nat → Env → Mem → Prop) (B : Nat) (h0 : I 0 env M) (hB : ∀ k e m, I k e m → k ≤ B)
    (step : ∀ k e m, I k e m → wT F c e m (fun t M1 => if t = true then wSs F b e M1 { K with nx := I (k + 1), ct := I (k + 1), bk := K.nx } else K.nx e M1) fun x m' => K.xc x e m') : wS F (.whl c b) env M K := by
  rw [wS]
  refine ⟨fun x e M => ∃ k, x = B - k ∧ I k e M, ⟨B - 0, 0, rfl, h0⟩, fun x e m hW => ?_⟩
  obtain ⟨k, rfl, hI⟩ := hW
  refine wT_mono hF c (fun t M1 z => ?_) (fun _ _ z => z) (step k e m hI)
  cases t with
  | false => exact z
  | true =>
    have go : ∀ e' M', I (k + 1) e' M' → ∃ m', m' < B - k ∧ ∃ k, m' = B - k ∧ I k e' M' := fun e' M' hI' => by
      have := hB _ _ _ hI'
      exact ⟨B - (k + 1), by omega, k + 1, rfl, hI'⟩
    rw [if_pos rfl] at z ⊢
    refine wSs_mono hF b ?_ z
    exact ⟨go, fun _ _ z => z, fun _ _ z => z, go, fun _ _ _ z => z⟩
/-! the table of a word -/
end
end DL
/-! Strongly connected classes (Kosaraju): the plain law of forward_order and classes. -/
namespace DL
local macro_rules | `(tactic| walk_at "wp") => `(tactic| simp only [wS, wE, wEs, wO, wAs, wL, wN, wI, wT, wTs, setAll, Tg.slots, wipeE, cmp_eq_int, cmp_ne_int, cmp_eq_str, cmp_ne_str, cmp_eq_tup, cmp_ne_tup, cmp_eq_bl, cmp_lt, cmp_le, cmp_gt, cmp_ge, Kt0_rt, Kt0_nx, List.getElem?_cons_zero, List.getElem?_cons_succ, List.set_cons_zero, List.set_cons_succ, Option.some.injEq, Slot.val.injEq, Slot.own.injEq, MO.lst.injEq, D.int.injEq, D.ref.injEq, D.bl.injEq, D.tup.injEq, D.str.injEq, exists_eq_left', exists_eq_left, exists_and_left, exists_and_right, and_assoc, true_and, and_true, atI_0, atI_1, atI_2, atI_3, atI_4, backs, drps, List.map_cons, List.map_nil, List.length_cons, List.length_nil, List.cons_append, List.nil_append, List.replicate, Nat.reduceAdd, Nat.reduceSub, decide_eq_true_eq, upd_at, aug_add_int, aug_sub_int, aug_mul_int, aug_add_str, ixN5_1, ixN5_2, ixN5_3, Int.toNat_natCast, List.length_map, List.length_range, tg_nm, tg_tp, tru_non, tru_bl, tru_int, tru_str, tru_tup, tru_ref, bin_add_int, bin_add_str, bin_add_tup, bin_sub, bin_mul, bin_fdiv, bin_mod, bin_pow, bin_shl, bin_shr, bin_band, bin_bor, idx_tup, idx_ref, idx_str, blt_len_tup, blt_len_str, blt_len_ref, blt_int_int, blt_int_bl, blt_bool_bl, blt_bool_int, blt_abs, blt_max2, blt_max3, blt_min2, blt_tuple_tup, blt_tuple_ref, blt_isa_non, blt_isa_bl, blt_isa_int, blt_isa_str, blt_isa_tup, isa_int_int, isa_int_bool, isa_bl_bool, isa_tup, isa_str, lk_tuple, lk_len, lk_all, lk_any, lk_sum, it_tup, it_rl, it_ref, zip_tup, enum_tup, enum_ref, eq_self_iff_true, if_true, Bool.false_eq_true, if_false, reduceIte, ss_nil, rev_tup, rev_ref, ty_split, ty_join, ty_append, ty_pop, ty_popAt, ty_reverse, ty_extend, ty_insert, mth_append, mth_pop, mth_popAt, mth_reverse, mth_extend, mth_insert, mth_split, mth_join, cmp_eq_ref, cmp_ne_ref, slc_tup, slc_str, slc_ref, lk_max, lk_min, cmp_lt_str, cmp_is_bl, cmp_not_bl, cmp_is_non, cmp_not_non, cmp_is_tup, cmp_not_tup, cmp_is_int, cmp_not_int, blt_str, blt_maxt, blt_mint, tg_np])
local macro_rules | `(tactic| simp! only [$xs:simpLemma,*]) => `(tactic| simp only [wS, wE, wEs, wO, wAs, wL, wN, wI, wT, wTs, setAll, Tg.slots, wipeE, cmp_eq_int, cmp_ne_int, cmp_eq_str, cmp_ne_str, cmp_eq_tup, cmp_ne_tup, cmp_eq_bl, cmp_lt, cmp_le, cmp_gt, cmp_ge, Kt0_rt, Kt0_nx, List.getElem?_cons_zero, List.getElem?_cons_succ, List.set_cons_zero, List.set_cons_succ, Option.some.injEq, Slot.val.injEq, Slot.own.injEq, MO.lst.injEq, D.int.injEq, D.ref.injEq, D.bl.injEq, D.tup.injEq, D.str.injEq, exists_eq_left', exists_eq_left, exists_and_left, exists_and_right, and_assoc, true_and, and_true, atI_0, atI_1, atI_2, atI_3, atI_4, backs, drps, List.map_cons, List.map_nil, List.length_cons, List.length_nil, List.cons_append, List.nil_append, List.replicate, Nat.reduceAdd, Nat.reduceSub, decide_eq_true_eq, upd_at, aug_add_int, aug_sub_int, aug_mul_int, aug_add_str, ixN5_1, ixN5_2, ixN5_3, Int.toNat_natCast, List.length_map, List.length_range, tg_nm, tg_tp, tru_non, tru_bl, tru_int, tru_str, tru_tup, tru_ref, bin_add_int, bin_add_str, bin_add_tup, bin_sub, bin_mul, bin_fdiv, bin_mod, bin_pow, bin_shl, bin_shr, bin_band, bin_bor, idx_tup, idx_ref, idx_str, blt_len_tup, blt_len_str, blt_len_ref, blt_int_int, blt_int_bl, blt_bool_bl, blt_bool_int, blt_abs, blt_max2, blt_max3, blt_min2, blt_tuple_tup, blt_tuple_ref, blt_isa_non, blt_isa_bl, blt_isa_int, blt_isa_str, blt_isa_tup, isa_int_int, isa_int_bool, isa_bl_bool, isa_tup, isa_str, lk_tuple, lk_len, lk_all, lk_any, lk_sum, it_tup, it_rl, it_ref, zip_tup, enum_tup, enum_ref, eq_self_iff_true, if_true, Bool.false_eq_true, if_false, reduceIte, ss_nil, rev_tup, rev_ref, ty_split, ty_join, ty_append, ty_pop, ty_popAt, ty_reverse, ty_extend, ty_insert, mth_append, mth_pop, mth_popAt, mth_reverse, mth_extend, mth_insert, mth_split, mth_join, cmp_eq_ref, cmp_ne_ref, slc_tup, slc_str, slc_ref, lk_max, lk_min, cmp_lt_str, cmp_is_bl, cmp_not_bl, cmp_is_non, cmp_not_non, cmp_is_tup, cmp_not_tup, cmp_is_int, cmp_not_int, blt_str, blt_maxt, blt_mint, tg_np, $xs,*])
/-! ### walks in a graph -/
inductive ScWk (E : Nat → List Nat) : Nat → List Nat → Nat → Prop
  | one (x : Nat) : ScWk E x [x] x
  | cons {x w y : Nat} {p : List Nat} (h : w ∈ E x) (t : ScWk E w p y) : ScWk E x (x :: p) y
/-- y can be gone to from x -/
def Gr (E : Nat → List Nat) (x y : Nat) : Prop := ∃ p, ScWk E x p y
theorem Gr.rf {E : Nat → List Nat} {x : Nat} : Gr E x x := ⟨[x], .one x⟩
theorem Gr.step {E : Nat → List Nat} {x w y : Nat} (h : w ∈ E x) (g : Gr E w y) : Gr E x y := g.elim fun p hp => ⟨x :: p, .cons h hp⟩
theorem Gr.trans {E : Nat → List Nat} {x y z : Nat} (h : Gr E x y) (g : Gr E y z) : Gr E x z := by
  obtain ⟨p, hp⟩ := h
  induction hp with
  | one x => exact g
  | cons h t ih => exact Gr.step h (ih g)
theorem ScWk.mid {E : Nat → List Nat} {x y : Nat} {p : List Nat} (h : ScWk E x p y) : ∀ z ∈ p, Gr E x z ∧ Gr E z y := by
  induction h with
  | one x => intro z hz; rw [List.mem_singleton.mp hz]; exact ⟨Gr.rf, Gr.rf⟩
  | cons h t ih =>
    intro z hz
    rcases List.mem_cons.mp hz with rfl | hz
    · exact ⟨Gr.rf, _, .cons h t⟩
    · exact ⟨Gr.step h (ih z hz).1, (ih z hz).2⟩
theorem ScWk.fst {E : Nat → List Nat} {x y : Nat} {p : List Nat} (h : ScWk E x p y) : x ∈ p := by cases h <;> exact List.mem_cons_self
theorem ScWk.lst {E : Nat → List Nat} {x y : Nat} {p : List Nat} (h : ScWk E x p y) : y ∈ p := by
  induction h with
  | one x => exact List.mem_cons_self
  | cons h t ih => exact List.mem_cons_of_mem _ ih
/-- a walk out of a set meets a first node that is not in it, behind one that is -/
theorem ScWk.out {E : Nat → List Nat} {S : List Nat} {x y : Nat} {p : List Nat} (h : ScWk E x p y) (hx : x ∈ S) (hy : y ∉ S) : ∃ s ∈ S, ∃ w ∈ E s, w ∉ S ∧ w ∈ p := by
  induction h with
  | one x => exact absurd hx hy
  | @cons x w y p h t ih =>
    by_cases c : w ∈ S
    · obtain ⟨s, hs, v, hv, h1, h2⟩ := ih c hy
      exact ⟨s, hs, v, hv, h1, List.mem_cons_of_mem _ h2⟩
    · exact ⟨x, hx, w, h, c, List.mem_cons_of_mem _ t.fst⟩
/-! ### the first search: found (done, in order), rest (begun, the last one ahead) -/
structure Dfs (E : Nat → List Nat) (fd rs : List Nat) : Prop where
  nd : (fd ++ rs).Nodup
  /-- what is done leads to what is met -/
  dn : ∀ x ∈ fd, ∀ w ∈ E x, w ∈ fd ∨ w ∈ rs
  /-- the trail is a walk -/
  tr : rs.Pairwise fun a b => Gr E b a
  /-- what is done ahead of y can be gone to from y, or each walk from it to y meets one that is done behind y -/
  bl : ∀ a y b, fd ++ rs = a ++ y :: b → ∀ x ∈ a, x ∈ fd → Gr E y x ∨ ∀ p, ScWk E x p y → ∃ z ∈ p, z ∈ b
theorem Dfs.start {E : Nat → List Nat} : Dfs E [] [] := ⟨List.nodup_nil, (fun x hx => by cases hx), List.Pairwise.nil, fun a y b h x hx hf => by cases hf⟩
/-- a new one is begun -/
theorem Dfs.push {E : Nat → List Nat} {fd rs : List Nat} (D : Dfs E fd rs) {w : Nat} (h1 : w ∉ fd) (h2 : w ∉ rs) (ht : ∀ b ∈ rs, Gr E b w) : Dfs E fd (w :: rs) := by
  have hnd := D.nd
  refine ⟨?_, fun x hx v hv => ?_, List.pairwise_cons.mpr ⟨ht, D.tr⟩, fun a y b e x hx hf => ?_⟩
  · rw [List.nodup_append] at hnd ⊢
    refine ⟨hnd.1, List.nodup_cons.mpr ⟨h2, hnd.2.1⟩, fun a ha b hb => ?_⟩
    rcases List.mem_cons.mp hb with rfl | hb
    · intro z; exact h1 (z ▸ ha)
    · exact hnd.2.2 a ha b hb
  · rcases D.dn x hx v hv with z | z
    · exact .inl z
    · exact .inr (List.mem_cons_of_mem _ z)
  · -- where y stands
    rcases List.append_eq_append_iff.mp e with ⟨c, ea, eb⟩ | ⟨c, ea, eb⟩
    · -- a = fd ++ c, w :: rs = c ++ y :: b
      cases c with
      | nil =>
        rw [List.nil_append] at eb
        obtain ⟨rfl, rfl⟩ := List.cons.inj eb
        refine .inr fun p hp => ?_
        obtain ⟨s, hs, v, hv, n1, n2⟩ := hp.out hf h1
        rcases D.dn s hs v hv with z | z
        · exact absurd z n1
        · exact ⟨v, n2, z⟩
      | cons c0 c =>
        obtain ⟨rfl, rfl⟩ := List.cons.inj eb
        exact D.bl (fd ++ c) y b (by rw [List.append_assoc]; rfl) x (List.mem_append_left _ hf) hf
    · -- fd = a ++ c, y :: b = c ++ w :: rs
      cases c with
      | nil =>
        rw [List.nil_append] at eb
        obtain ⟨rfl, rfl⟩ := List.cons.inj eb
        refine .inr fun p hp => ?_
        obtain ⟨s, hs, v, hv, n1, n2⟩ := hp.out hf h1
        rcases D.dn s hs v hv with z | z
        · exact absurd z n1
        · exact ⟨v, n2, z⟩
      | cons c0 c =>
        obtain ⟨rfl, rfl⟩ := List.cons.inj eb
        rcases D.bl a y (c ++ rs) (by rw [ea, List.append_assoc]; rfl) x hx hf with z | z
        · exact .inl z
        · refine .inr fun p hp => ?_
          obtain ⟨v, h3, h4⟩ := z p hp
          refine ⟨v, h3, ?_⟩
          rcases List.mem_append.mp h4 with h4 | h4
          · exact List.mem_append_left _ h4
          · exact List.mem_append_right _ (List.mem_cons_of_mem _ h4)
/-- the last one is done -/
theorem Dfs.pop {E : Nat → List Nat} {fd rs : List Nat} {u : Nat} (D : Dfs E fd (u :: rs)) (h : ∀ w ∈ E u, w ∈ fd ∨ w ∈ u :: rs) : Dfs E (fd ++ [u]) rs := by
  have e0 : fd ++ [u] ++ rs = fd ++ u :: rs := by rw [List.append_assoc]; rfl
  have mv : ∀ {v}, v ∈ fd ∨ v ∈ u :: rs → v ∈ fd ++ [u] ∨ v ∈ rs := fun {v} z => by
    rcases z with z | z
    · exact .inl (List.mem_append_left _ z)
    · rcases List.mem_cons.mp z with rfl | z
      · exact .inl (List.mem_append_right _ List.mem_cons_self)
      · exact .inr z
  refine ⟨by rw [e0]; exact D.nd, fun x hx w hw => ?_, (List.pairwise_cons.mp D.tr).2, fun a y b e x hx hf => ?_⟩
  · rcases List.mem_append.mp hx with hx | hx
    · exact mv (D.dn x hx w hw)
    · rw [List.mem_singleton.mp hx] at hw
      exact mv (h w hw)
  · rw [e0] at e
    rcases List.mem_append.mp hf with hf | hf
    · exact D.bl a y b e x hx hf
    · -- x is the one that is done now: y stands behind it
      have hxu := List.mem_singleton.mp hf
      subst hxu
      have hnd := D.nd
      left
      obtain ⟨a1, a2, rfl⟩ := List.append_of_mem hx
      have e2 : fd ++ x :: rs = a1 ++ x :: (a2 ++ y :: b) := by rw [e, List.append_assoc]; rfl
      have hy : y ∈ rs := by
        have hsplit : fd = a1 ∧ rs = a2 ++ y :: b := by
          have n1 : x ∉ fd := fun z => by
            rw [List.nodup_append] at hnd
            exact hnd.2.2 x z x List.mem_cons_self rfl
          have n2 : x ∉ a1 := fun z => by
            rw [e2, List.nodup_append] at hnd
            exact hnd.2.2 x z x List.mem_cons_self rfl
          rcases List.append_eq_append_iff.mp e2 with ⟨c, ea, eb⟩ | ⟨c, ea, eb⟩
          · cases c with
            | nil => rw [List.append_nil] at ea; exact ⟨ea.symm, (List.cons.inj eb).2⟩
            | cons c0 c =>
              have := (List.cons.inj eb).1
              exact absurd (by rw [ea, this]; exact List.mem_append_right _ List.mem_cons_self) n2
          · cases c with
            | nil => rw [List.append_nil] at ea; exact ⟨ea, (List.cons.inj eb).2.symm⟩
            | cons c0 c =>
              have := (List.cons.inj eb).1
              exact absurd (by rw [ea, this]; exact List.mem_append_right _ List.mem_cons_self) n1
        rw [hsplit.2]
        exact List.mem_append_right _ List.mem_cons_self
      exact (List.pairwise_cons.mp D.tr).1 y hy
/-! ### the second search: A are those that have a number -/
structure Kos (E : Nat → List Nat) (A : List Nat) (num : Nat → Nat) (m : Nat) : Prop where
  /-- what leads to one with a number has one -/
  bk : ∀ y ∈ A, ∀ x, y ∈ E x → x ∈ A
  eq : ∀ x ∈ A, ∀ y ∈ A, num x = num y ↔ Gr E x y ∧ Gr E y x
  lt : ∀ x ∈ A, num x < m
  le : ∀ x ∈ A, ∀ y ∈ A, y ∈ E x → num x ≤ num y
theorem Kos.start {E : Nat → List Nat} {num : Nat → Nat} : Kos E [] num 0 := ⟨fun y hy => (by cases hy), fun x hx => (by cases hx), fun x hx => (by cases hx), fun x hx => (by cases hx)⟩
theorem Kos.back {E : Nat → List Nat} {A : List Nat} {num : Nat → Nat} {m : Nat} (K : Kos E A num m) {x z : Nat} (h : Gr E x z) (hz : z ∈ A) : x ∈ A := by
  obtain ⟨p, hp⟩ := h
  induction hp with
  | one x => exact hz
  | cons h t ih => exact K.bk _ (ih hz) _ h
open Classical in
/-- one class more -/
theorem Kos.more {E : Nat → List Nat} {A : List Nat} {num : Nat → Nat} {m : Nat} (K : Kos E A num m) {fd : List Nat} (D : Dfs E fd []) {a b B : List Nat} {r : Nat} (e : fd = a ++ r :: b) (hb : ∀ z ∈ b, z ∈ A)
    (hrB : r ∈ B) (hB : ∀ x ∈ B, x ∉ A ∧ x ∈ fd ∧ Gr E x r) (hcl : ∀ y ∈ B, ∀ x, y ∈ E x → x ∈ A ∨ x ∈ B) : Kos E (A ++ B) (fun x => if x ∈ B then m else num x) (m + 1) := by
  have to : ∀ x ∈ B, Gr E r x := fun x hx => by
    obtain ⟨h1, h2, p, hp⟩ := hB x hx
    rw [e] at h2
    rcases List.mem_append.mp h2 with h2 | h2
    · rcases D.bl a r b (by rw [List.append_nil]; exact e) x h2 (by rw [e]; exact List.mem_append_left _ h2) with z | z
      · exact z
      · obtain ⟨v, h3, h4⟩ := z p hp
        exact absurd (K.back (hp.mid v h3).1 (hb v h4)) h1
    · rcases List.mem_cons.mp h2 with rfl | h2
      · exact Gr.rf
      · exact absurd (hb x h2) h1
  have nB : ∀ x ∈ A, x ∉ B := fun x hx z => (hB x z).1 hx
  refine ⟨fun y hy x hx => ?_, fun x hx y hy => ?_, fun x hx => ?_, fun x hx y hy hxy => ?_⟩
  · rcases List.mem_append.mp hy with hy | hy
    · exact List.mem_append_left _ (K.bk y hy x hx)
    · rcases hcl y hy x hx with z | z
      · exact List.mem_append_left _ z
      · exact List.mem_append_right _ z
  · skip
    by_cases cx : x ∈ B <;> by_cases cy : y ∈ B
    · rw [if_pos cx, if_pos cy]
      exact ⟨fun _ => ⟨(hB x cx).2.2.trans (to y cy), (hB y cy).2.2.trans (to x cx)⟩, fun _ => rfl⟩
    · rw [if_pos cx, if_neg cy]
      have hyA : y ∈ A := (List.mem_append.mp hy).resolve_right cy
      exact ⟨fun z => by have := K.lt y hyA; omega, fun z => absurd (K.back z.1 hyA) (hB x cx).1⟩
    · rw [if_neg cx, if_pos cy]
      have hxA : x ∈ A := (List.mem_append.mp hx).resolve_right cx
      exact ⟨fun z => by have := K.lt x hxA; omega, fun z => absurd (K.back z.2 hxA) (hB y cy).1⟩
    · rw [if_neg cx, if_neg cy]
      exact K.eq x ((List.mem_append.mp hx).resolve_right cx) y ((List.mem_append.mp hy).resolve_right cy)
  · skip
    split
    · omega
    · rename_i cx
      have := K.lt x ((List.mem_append.mp hx).resolve_right cx)
      omega
  · skip
    by_cases cx : x ∈ B <;> by_cases cy : y ∈ B
    · rw [if_pos cx, if_pos cy]; exact Nat.le_refl _
    · have hyA : y ∈ A := (List.mem_append.mp hy).resolve_right cy
      exact absurd (K.bk y hyA x hxy) (hB x cx).1
    · rw [if_neg cx, if_pos cy]
      have := K.lt x ((List.mem_append.mp hx).resolve_right cx)
      omega
    · rw [if_neg cx, if_neg cy]
      exact K.le x ((List.mem_append.mp hx).resolve_right cx) y ((List.mem_append.mp hy).resolve_right cy) hxy
open PySem
/-! ### the program's defs -/
def d_forward_order : Fn := { name := "forward_order", arity := 1, slots := ["edges", "met", "found", "root", "trail", "node", "at", "target"], body :=
  [(.asgN 1 (.comp (.cst (.bl false)) (.nm 5) (.dyn (.var 0)) none)),
    (.asgN 2 (.disp .nil)),
    (.for_ (.nm 3) (.range (.blt .len (.cons (.var 0) .nil))) [(.ite (.v (.lidx (.own 1) (.var 3))) [.cnt] []),
    (.set 1 (.var 3) (.cst (.bl true))),
    (.asgM 4 (.disp (.cons (.mk (.disp (.cons (.var 3) (.cons (.cst (.int 0)) .nil)))) .nil))),
    (.whl (.v (.cmp .gt (.blt .len (.cons (.var 4) .nil)) (.cst (.int 0)))) [(.unl [5, 6] (.idx (.var 4) (.neg (.cst (.int 1))))),
    (.ite (.v (.cmp .eq (.var 6) (.blt .len (.cons (.idx (.var 0) (.var 5)) .nil)))) [(.app 2 (.var 5)),
    (.exp (.meth .pop (.var 4) .nil)),
    .cnt] []),
    (.mset (.idx (.var 4) (.neg (.cst (.int 1)))) (.cst (.int 1)) (.bin .add (.var 6) (.cst (.int 1)))),
    (.asg (.nm 7) (.idx (.idx (.var 0) (.var 5)) (.var 6))),
    (.ite (.not (.v (.lidx (.own 1) (.var 7)))) [(.set 1 (.var 7) (.cst (.bl true))),
    (.mapp (.var 4) (.mk (.disp (.cons (.var 7) (.cons (.cst (.int 0)) .nil)))))] [])])]),
    (.retO 2)] }
def d_turned : Fn := { name := "turned", arity := 1, slots := ["edges", "found", "node", "targets", "target"], body :=
  [(.asgN 1 (.comp (.mk (.disp .nil)) (.nm 2) (.dyn (.var 0)) none)),
    (.for_ (.tp [2, 3]) (.enum (.var 0)) [(.for_ (.nm 4) (.dyn (.var 3)) [(.mapp (.lidx (.own 1) (.var 4)) (.var 2))])]),
    (.retO 1)] }
def d_classes (f_turned : Nat) (f_forward_order : Nat) : Fn := { name := "classes", arity := 1, slots := ["edges", "against", "found", "many", "root", "queue", "node", "target"], body :=
  [(.asg (.nm 1) (.call f_turned (.cons (.var 0) .nil))),
    (.asgN 2 (.comp (.neg (.cst (.int 1))) (.nm 6) (.dyn (.var 0)) none)),
    (.asg (.nm 3) (.cst (.int 0))),
    (.for_ (.nm 4) (.rev (.call f_forward_order (.cons (.var 0) .nil))) [(.ite (.v (.cmp .ge (.lidx (.own 2) (.var 4)) (.cst (.int 0)))) [.cnt] []),
    (.set 2 (.var 4) (.var 3)),
    (.asgN 5 (.disp (.cons (.var 4) .nil))),
    (.whl (.v (.cmp .gt (.lk .len (.own 5)) (.cst (.int 0)))) [(.pop 6 5),
    (.for_ (.nm 7) (.dyn (.idx (.var 1) (.var 6))) [(.ite (.v (.cmp .lt (.lidx (.own 2) (.var 7)) (.cst (.int 0)))) [(.set 2 (.var 7) (.var 3)),
    (.app 5 (.var 7))] [])])]),
    (.aug 3 .add (.cst (.int 1)))]),
    (.retO 2)] }
variable {P : List Fn} {n f : Nat} {M : Mem} {Q : QE} {E : QX}
/-- a graph in the memory: a list of lists -/
structure Gm (M : Mem) (e : Nat) (as : List Nat) (G : Nat → List Nat) : Prop where
  at_ : M e = some (.lst (as.map .ref))
  nx : ∀ i (h : i < as.length), M as[i] = some (.lst ((G i).map fun (v : Nat) => .int (v : Int)))
  nil : ∀ i, as.length ≤ i → G i = []
  lt : ∀ i, ∀ v ∈ G i, v < as.length
  few : as.length ≤ 1000
  short : ∀ i, (G i).length ≤ 1000
theorem Gm.sub {M M' : Mem} {e : Nat} {as : List Nat} {G : Nat → List Nat} (g : Gm M e as G) (s : Sub M M') : Gm M' e as G := ⟨s _ _ g.at_, fun i h => s _ _ (g.nx i h), g.nil, g.lt, g.few, g.short⟩
/-- an entry of the trail: where it lies, its node, how many of its edges are gone -/
structure Te where
  c : Nat
  v : Nat
  i : Nat
def teD (l : Te) : List D := [.int (l.v : Int), .int (l.i : Int)]
structure Tr (M m : Mem) (G : Nat → List Nat) (N t : Nat) (fd : List Nat) (L : List Te) : Prop where
  sub : Sub M m
  t0 : M t = Option.none
  tt : m t = some (.lst (L.map fun l => .ref l.c))
  cs : ∀ l ∈ L, m l.c = some (.lst (teD l)) ∧ M l.c = Option.none ∧ l.c ≠ t
  nd : (L.map Te.c).Nodup
  ix : ∀ l ∈ L, l.i ≤ (G l.v).length ∧ ∀ j w, j < l.i → (G l.v)[j]? = some w → w ∈ fd ∨ w ∈ (L.map Te.v).reverse
  df : Dfs G fd (L.map Te.v).reverse
  lt : (∀ v ∈ fd, v < N) ∧ ∀ l ∈ L, l.v < N
def phi (G : Nat → List Nat) (fd : List Nat) (L : List Te) : Nat := fd.length + (fd.map fun v => (G v).length).sum + (L.map Te.i).sum
theorem nodup_few : ∀ {N : Nat} {l : List Nat}, l.Nodup → (∀ x ∈ l, x < N) → l.length ≤ N
  | 0, l, _, hl => by
    cases l with
    | nil => exact Nat.le_refl _
    | cons x l => exact absurd (hl x List.mem_cons_self) (Nat.not_lt_zero _)
  | N + 1, l, h, hl => by
    have h1 : (l.filter fun x => decide (x ≠ N)).length ≤ N := nodup_few (h.filter _) fun x hx => by
      obtain ⟨h2, h3⟩ := List.mem_filter.mp hx
      have := hl x h2
      have := of_decide_eq_true h3
      omega
    have h2 : (l.filter fun x => decide (x = N)).length ≤ 1 := by
      have h3 := h.filter fun x => decide (x = N)
      cases e : l.filter fun x => decide (x = N) with
      | nil => exact Nat.zero_le _
      | cons a t =>
        cases t with
        | nil => exact Nat.le_refl _
        | cons b t =>
          rw [e] at h3
          have ha : a = N := of_decide_eq_true (List.mem_filter.mp (e ▸ List.mem_cons_self : a ∈ l.filter fun x => decide (x = N))).2
          have hb : b = N := of_decide_eq_true (List.mem_filter.mp (e ▸ List.mem_cons_of_mem _ List.mem_cons_self : b ∈ l.filter fun x => decide (x = N))).2
          exact absurd (ha.trans hb.symm) ((List.nodup_cons.mp h3).1 |> fun z => fun y => z (y ▸ List.mem_cons_self))
    have h4 := List.length_eq_countP_add_countP (fun x => decide (x = N)) (l := l)
    rw [List.countP_eq_length_filter, List.countP_eq_length_filter] at h4
    have e5 : (l.filter fun a => decide ¬(fun x => decide (x = N)) a = true) = l.filter fun x => decide (x ≠ N) := List.filter_congr fun x _ => by simp
    rw [e5] at h4
    omega
theorem sum_le {l : List Nat} {b : Nat} (h : ∀ x ∈ l, x ≤ b) : l.sum ≤ l.length * b := by
  induction l with
  | nil => simp
  | cons x l ih =>
    have h1 := h x List.mem_cons_self
    have h2 := ih fun y hy => h y (List.mem_cons_of_mem _ hy)
    rw [List.sum_cons, List.length_cons, Nat.add_mul]
    omega
theorem Tr.phi_le {M m : Mem} {G : Nat → List Nat} {N t : Nat} {fd : List Nat} {L : List Te} (T : Tr M m G N t fd L) (hs : ∀ i, (G i).length ≤ 1000) : phi G fd L ≤ N + (N * 1000 + N * 1000) := by
  have hnd := T.df.nd
  rw [List.nodup_append] at hnd
  have h1 := nodup_few hnd.1 T.lt.1
  have h2 : L.length ≤ N := by
    have := nodup_few hnd.2.1 (N := N) fun x hx => by
      obtain ⟨l, hl, rfl⟩ := List.mem_map.mp (List.mem_reverse.mp hx)
      exact T.lt.2 l hl
    simpa using this
  have h3 := sum_le (l := fd.map fun v => (G v).length) (b := 1000) fun x hx => by
    obtain ⟨v, _, rfl⟩ := List.mem_map.mp hx
    exact hs v
  have h4 := sum_le (l := L.map Te.i) (b := 1000) fun x hx => by
    obtain ⟨l, hl, rfl⟩ := List.mem_map.mp hx
    exact Nat.le_trans (T.ix l hl).1 (hs _)
  rw [List.length_map] at h3 h4
  have h5 := Nat.mul_le_mul_right 1000 h1
  have h6 := Nat.mul_le_mul_right 1000 h2
  unfold phi
  omega
theorem sub_new {M m : Mem} {t : Nat} {o : MO} (s : Sub M m) (h : M t = Option.none) : Sub M (upd m t o) := fun b u hb => by
  have : b ≠ t := fun z => by rw [z, h] at hb; cases hb
  rw [upd_no this]; exact s b u hb
theorem rev_snoc {L : List Te} {l : Te} : ((L ++ [l]).map Te.v).reverse = l.v :: (L.map Te.v).reverse := by simp
theorem Tr.pop {M m : Mem} {G : Nat → List Nat} {N t : Nat} {fd : List Nat} {L : List Te} {l : Te} (T : Tr M m G N t fd (L ++ [l])) (h : l.i = (G l.v).length) : Tr M (upd m t (.lst (L.map fun l => .ref l.c))) G N t (fd ++ [l.v]) L := by
  have hlm : l ∈ L ++ [l] := List.mem_append_right _ List.mem_cons_self
  have mv : ∀ {w}, w ∈ fd ∨ w ∈ ((L ++ [l]).map Te.v).reverse → w ∈ fd ++ [l.v] ∨ w ∈ (L.map Te.v).reverse := fun {w} z => by
    rw [rev_snoc] at z
    rcases z with z | z
    · exact .inl (List.mem_append_left _ z)
    · rcases List.mem_cons.mp z with rfl | z
      · exact .inl (List.mem_append_right _ List.mem_cons_self)
      · exact .inr z
  have hnd := T.nd
  rw [List.map_append, List.nodup_append] at hnd
  have hdf := T.df
  rw [rev_snoc] at hdf
  refine ⟨sub_new T.sub T.t0, T.t0, upd_at, fun x hx => ?_, hnd.1, fun x hx => ?_, hdf.pop fun w hw => ?_, fun v hv => ?_, fun x hx => T.lt.2 x (List.mem_append_left _ hx)⟩
  · obtain ⟨h1, h2, h3⟩ := T.cs x (List.mem_append_left _ hx)
    exact ⟨by rw [upd_no h3]; exact h1, h2, h3⟩
  · obtain ⟨h1, h2⟩ := T.ix x (List.mem_append_left _ hx)
    exact ⟨h1, fun j w hj hw => mv (h2 j w hj hw)⟩
  · obtain ⟨j, hj, rfl⟩ := List.getElem_of_mem hw
    have := (T.ix l hlm).2 j _ (by omega) (List.getElem?_eq_getElem hj)
    rw [rev_snoc] at this
    exact this
  · rcases List.mem_append.mp hv with hv | hv
    · exact T.lt.1 v hv
    · rw [List.mem_singleton.mp hv]; exact T.lt.2 l hlm
theorem phi_pop {G : Nat → List Nat} {fd : List Nat} {L : List Te} {l : Te} (h : l.i = (G l.v).length) : phi G (fd ++ [l.v]) L = phi G fd (L ++ [l]) + 1 := by
  unfold phi
  simp only [List.length_append, List.length_cons, List.length_nil, List.map_append, List.map_cons, List.map_nil, List.sum_append, List.sum_cons, List.sum_nil]
  omega
/-- one edge more is gone, to one that is met -/
theorem Tr.adv {M m : Mem} {G : Nat → List Nat} {N t : Nat} {fd : List Nat} {L : List Te} {l : Te} (T : Tr M m G N t fd (L ++ [l])) {w : Nat} (hw : (G l.v)[l.i]? = some w) (hm : w ∈ fd ∨ w ∈ ((L ++ [l]).map Te.v).reverse) :
    Tr M (upd m l.c (.lst (teD ⟨l.c, l.v, l.i + 1⟩))) G N t fd (L ++ [(⟨l.c, l.v, l.i + 1⟩ : Te)]) := by
  have hlm : l ∈ L ++ [l] := List.mem_append_right _ List.mem_cons_self
  obtain ⟨h1, h2, h3⟩ := T.cs l hlm
  have hil : l.i < (G l.v).length := (List.getElem?_eq_some_iff.mp hw).1
  have hnd := T.nd
  have er : ((L ++ [(⟨l.c, l.v, l.i + 1⟩ : Te)]).map Te.v).reverse = ((L ++ [l]).map Te.v).reverse := by rw [rev_snoc, rev_snoc]
  refine ⟨sub_new T.sub h2, T.t0, ?_, fun x hx => ?_, ?_, fun x hx => ?_, by rw [er]; exact T.df, T.lt.1, fun x hx => ?_⟩
  · rw [upd_no h3.symm, T.tt, List.map_append, List.map_append]; rfl
  · rcases List.mem_append.mp hx with hx | hx
    · obtain ⟨g1, g2, g3⟩ := T.cs x (List.mem_append_left _ hx)
      have hne : x.c ≠ l.c := fun z => by
        rw [List.map_append, List.nodup_append] at hnd
        exact hnd.2.2 x.c (List.mem_map.mpr ⟨x, hx, rfl⟩) l.c (by simp) z
      exact ⟨by rw [upd_no hne]; exact g1, g2, g3⟩
    · rw [List.mem_singleton.mp hx]
      exact ⟨upd_at, h2, h3⟩
  · rw [List.map_append] at hnd ⊢; exact hnd
  · rw [er]
    rcases List.mem_append.mp hx with hx | hx
    · exact T.ix x (List.mem_append_left _ hx)
    · rw [List.mem_singleton.mp hx]
      refine ⟨hil, fun j v hj hv => ?_⟩
      have hj : j < l.i + 1 := hj
      rcases Nat.lt_or_ge j l.i with z | z
      · exact (T.ix l hlm).2 j v z hv
      · have : j = l.i := by omega
        subst this
        have e : some w = some v := hw.symm.trans hv
        cases e
        exact hm
  · rcases List.mem_append.mp hx with hx | hx
    · exact T.lt.2 x (List.mem_append_left _ hx)
    · rw [List.mem_singleton.mp hx]; exact T.lt.2 l hlm
theorem phi_adv {G : Nat → List Nat} {fd : List Nat} {L : List Te} {l : Te} : phi G fd (L ++ [(⟨l.c, l.v, l.i + 1⟩ : Te)]) = phi G fd (L ++ [l]) + 1 := by
  unfold phi
  simp only [List.map_append, List.map_cons, List.map_nil, List.sum_append, List.sum_cons, List.sum_nil]
  omega
/-- one edge more is gone, to a new one -/
theorem Tr.push {M m : Mem} {G : Nat → List Nat} {N t : Nat} {fd : List Nat} {L : List Te} {l : Te} (T : Tr M m G N t fd (L ++ [l])) {w c2 : Nat} (hw : (G l.v)[l.i]? = some w) (h1 : w ∉ fd) (h2 : w ∉ ((L ++ [l]).map Te.v).reverse) (hN : w < N)
    (hc : upd m l.c (.lst (teD ⟨l.c, l.v, l.i + 1⟩)) c2 = Option.none) :
    Tr M (upd (upd (upd m l.c (.lst (teD ⟨l.c, l.v, l.i + 1⟩))) c2 (.lst (teD ⟨c2, w, 0⟩))) t (.lst ((L ++ [(⟨l.c, l.v, l.i + 1⟩ : Te)] ++ [(⟨c2, w, 0⟩ : Te)]).map fun l => .ref l.c))) G N t fd (L ++ [(⟨l.c, l.v, l.i + 1⟩ : Te)] ++ [(⟨c2, w, 0⟩ : Te)]) := by
  have hlm : l ∈ L ++ [l] := List.mem_append_right _ List.mem_cons_self
  obtain ⟨g1, g2, g3⟩ := T.cs l hlm
  have n2 : c2 ≠ l.c := fun z => by rw [z, upd_at] at hc; cases hc
  rw [upd_no n2] at hc
  have nt : c2 ≠ t := fun z => by rw [z, T.tt] at hc; cases hc
  have hcM : M c2 = Option.none := T.sub.noneL hc
  have hil : l.i < (G l.v).length := (List.getElem?_eq_some_iff.mp hw).1
  have er : ((L ++ [(⟨l.c, l.v, l.i + 1⟩ : Te)]).map Te.v).reverse = ((L ++ [l]).map Te.v).reverse := by rw [rev_snoc, rev_snoc]
  have er2 : ((L ++ [(⟨l.c, l.v, l.i + 1⟩ : Te)] ++ [(⟨c2, w, 0⟩ : Te)]).map Te.v).reverse = w :: ((L ++ [l]).map Te.v).reverse := by rw [rev_snoc, er]
  have ncs : ∀ x ∈ L ++ [l], x.c ≠ c2 := fun x hx z => by
    have := (T.cs x hx).1
    rw [z, hc] at this; cases this
  have hnd := T.nd
  have hne : ∀ x ∈ L, x.c ≠ l.c := fun x hx z => by
    rw [List.map_append, List.nodup_append] at hnd
    exact hnd.2.2 x.c (List.mem_map.mpr ⟨x, hx, rfl⟩) l.c (by simp) z
  refine ⟨sub_new (sub_new (sub_new T.sub g2) hcM) T.t0, T.t0, upd_at, fun x hx => ?_, ?_, fun x hx => ?_, ?_, T.lt.1, fun x hx => ?_⟩
  · rcases List.mem_append.mp hx with hx | hx
    · rcases List.mem_append.mp hx with hx | hx
      · obtain ⟨q1, q2, q3⟩ := T.cs x (List.mem_append_left _ hx)
        exact ⟨by rw [upd_no q3, upd_no (ncs x (List.mem_append_left _ hx)), upd_no (hne x hx)]; exact q1, q2, q3⟩
      · rw [List.mem_singleton.mp hx]
        exact ⟨by show upd _ t _ l.c = _; rw [upd_no g3, upd_no n2.symm, upd_at], g2, g3⟩
    · rw [List.mem_singleton.mp hx]
      exact ⟨by show upd _ t _ c2 = _; rw [upd_no nt, upd_at], hcM, nt⟩
  · have e1 : (L ++ [(⟨l.c, l.v, l.i + 1⟩ : Te)] ++ [(⟨c2, w, 0⟩ : Te)]).map Te.c = (L ++ [l]).map Te.c ++ [c2] := by simp
    rw [e1, List.nodup_append]
    refine ⟨hnd, by simp, fun a ha b hb => ?_⟩
    obtain ⟨x, hx, rfl⟩ := List.mem_map.mp ha
    rw [List.mem_singleton.mp hb]
    exact ncs x hx
  · rw [er2]
    rcases List.mem_append.mp hx with hx | hx
    · rcases List.mem_append.mp hx with hx | hx
      · obtain ⟨q1, q2⟩ := T.ix x (List.mem_append_left _ hx)
        refine ⟨q1, fun j v hj hv => ?_⟩
        rcases q2 j v hj hv with z | z
        · exact .inl z
        · exact .inr (List.mem_cons_of_mem _ z)
      · rw [List.mem_singleton.mp hx]
        refine ⟨hil, fun j v hj hv => ?_⟩
        have hj : j < l.i + 1 := hj
        rcases Nat.lt_or_ge j l.i with z | z
        · rcases (T.ix l hlm).2 j v z hv with y | y
          · exact .inl y
          · exact .inr (List.mem_cons_of_mem _ y)
        · have : j = l.i := by omega
          subst this
          have e : some w = some v := hw.symm.trans hv
          cases e
          exact .inr List.mem_cons_self
    · rw [List.mem_singleton.mp hx]
      exact ⟨Nat.zero_le _, fun j v hj => absurd hj (Nat.not_lt_zero _)⟩
  · rw [er2]
    refine T.df.push h1 h2 fun b hb => ?_
    have hlw : Gr G l.v w := Gr.step (List.mem_of_getElem? hw) Gr.rf
    rw [rev_snoc] at hb
    rcases List.mem_cons.mp hb with rfl | hb
    · exact hlw
    · have htr := T.df.tr
      rw [rev_snoc, List.pairwise_cons] at htr
      exact (htr.1 b hb).trans hlw
  · rcases List.mem_append.mp hx with hx | hx
    · rcases List.mem_append.mp hx with hx | hx
      · exact T.lt.2 x (List.mem_append_left _ hx)
      · rw [List.mem_singleton.mp hx]; exact T.lt.2 l hlm
    · rw [List.mem_singleton.mp hx]; exact hN
theorem phi_push {G : Nat → List Nat} {fd : List Nat} {L : List Te} {l : Te} {c w : Nat} : phi G fd (L ++ [(⟨l.c, l.v, l.i + 1⟩ : Te)] ++ [(⟨c, w, 0⟩ : Te)]) = phi G fd (L ++ [l]) + 1 := by
  unfold phi
  simp only [List.map_append, List.map_cons, List.map_nil, List.sum_append, List.sum_cons, List.sum_nil]
  omega
def mtL (N : Nat) (S : List Nat) : List D := (List.range N).map fun v => .bl (decide (v ∈ S))
theorem mt_set {N w : Nat} {S S' : List Nat} (h : ∀ v, v ∈ S' ↔ v = w ∨ v ∈ S) : (mtL N S).set w (.bl true) = mtL N S' := by
  unfold mtL
  rw [set_range]
  refine List.map_congr_left fun v _ => ?_
  by_cases c : v = w
  · rw [if_pos c, decide_eq_true ((h v).mpr (.inl c))]
  · rw [if_neg c]
    congr 1
    exact decide_eq_decide.mpr ⟨fun z => (h v).mpr (.inr z), fun z => ((h v).mp z).resolve_left c⟩
theorem mt_at {N w : Nat} {S : List Nat} (h : w < N) : L2.atI (mtL N S) (w : Int) = some (.bl (decide (w ∈ S))) := atI_cast (by unfold mtL; simp [h])
theorem mt_len {N : Nat} {S : List Nat} : (mtL N S).length = N := by unfold mtL; simp
theorem forward_ok (hf : P[f]? = some d_forward_order) {e : Nat} {as : List Nat} {G : Nat → List Nat} (g : Gm M e as G) (q : ∀ fd p, Dfs G fd [] → (∀ v, v ∈ fd ↔ v < as.length) → M p = Option.none → Q (.ref p) (upd M p (.lst (fd.map fun (v : Nat) => .int (v : Int))))) : wFn P (n + 1) f [.ref e] M Q E := by
  have hN := g.few
  have hat := g.at_
  refine enter hf rfl ?_
  simp only [d_forward_order]
  rw [ss_cons]
  simp! only [hat]
  refine ⟨Nat.le_trans (show as.length ≤ 1000 from hN) (by decide), cmpr_mapG D.ref (fun _ => .bl false) hat (fun x hx R hR => hR) fun p1 hp1 => ?_⟩
  rw [show (as.map fun _ => D.bl false) = mtL as.length [] by
    unfold mtL
    rw [List.map_const', List.map_congr_left (g := fun _ => D.bl false) (fun v _ => by simp), List.map_const', List.length_range]]
  rw [ss_cons]
  walk_at "wp"
  refine ⟨by decide, fun p2 hp2 => ?_⟩
  rw [ss_cons]
  simp! only [hat]
  refine ⟨by omega, by omega, ?_⟩
  refine for_range (n := as.length) mF (fun k en m => Sub M m ∧ ∃ fd, Dfs G fd [] ∧ (∀ v ∈ fd, v < as.length) ∧ (∀ v, v < k → v ∈ fd) ∧ k ≤ as.length ∧ ∃ s3 s4 s5 s6 s7, en = [.val (.ref e), .own p1 (.lst (mtL as.length fd)), .own p2 (.lst (fd.map fun (v : Nat) => .int (v : Int))), s3, s4, s5, s6, s7])
    ⟨Sub.rf M, [], Dfs.start, (by simp), (by simp), Nat.zero_le _, _, _, _, _, _, rfl⟩ (fun _ _ _ _ => trivial) (fun en m hI => ?_) (fun k en m hk hI => ?_)
  · obtain ⟨sb, fd, hD, hl, hall, _, s3, s4, s5, s6, s7, rfl⟩ := hI
    (try walk_at "wp")
    rw [ss_cons]
    walk_at "wp"
    intro _
    refine ⟨upd M p2 (.lst (fd.map fun (v : Nat) => .int (v : Int))), fun b o hb => ?_, q fd p2 hD (fun v => ⟨hl v, hall v⟩) hp2⟩
    by_cases z : b = p2
    · subst z; rw [upd_at] at hb ⊢; exact hb
    · rw [upd_no z] at hb ⊢; exact sb b o hb
  · obtain ⟨sb, fd, hD, hl, hall, _, s3, s4, s5, s6, s7, rfl⟩ := hI
    (try walk_at "wp")
    rw [ss_cons]
    walk_at "wp"
    refine ⟨_, mt_at hk, ?_⟩
    walk_at "wp"
    by_cases ck : k ∈ fd
    · rw [if_pos ck]
      rw [ss_cons]
      walk_at "wp"
      refine ⟨sb, fd, hD, hl, fun v hv => ?_, hk, _, _, _, _, _, rfl⟩
      rcases Nat.lt_or_ge v k with z | z
      · exact hall v z
      · rw [show v = k by omega]; exact ck
    · rw [if_neg ck]
      (try walk_at "wp")
      rw [ss_cons]
      walk_at "wp"
      refine ⟨k, ixN_cast (by rw [mt_len]; exact hk), ?_⟩
      rw [mt_set (S' := fd ++ [k]) (fun v => by simp [or_comm])]
      rw [ss_cons]
      walk_at "wp"
      refine ⟨by decide, fun c hc => ⟨by decide, fun t ht => ?_⟩⟩
      rw [ss_cons]
      have hct : M c = Option.none := sb.noneL hc
      have htc : t ≠ c := fun z => by rw [z, upd_at] at ht; cases ht
      have hmt : m t = Option.none := by rw [upd_no htc] at ht; exact ht
      have T0 : Tr M (upd (upd m c (.lst [.int (k : Int), .int 0])) t (.lst [.ref c])) G as.length t fd [⟨c, k, 0⟩] := by
        refine ⟨(sb.upd' hc).upd' ht, sb.noneL hmt, upd_at, fun l hl => ?_, by simp, fun l hl => ?_, ?_, ⟨hl, fun l hl => ?_⟩⟩
        · rw [List.mem_singleton.mp hl]
          exact ⟨(upd_no htc.symm).trans upd_at, hct, htc.symm⟩
        · rw [List.mem_singleton.mp hl]
          exact ⟨Nat.zero_le _, fun j w hj => absurd hj (Nat.not_lt_zero _)⟩
        · exact hD.push (w := k) ck (by simp) (by simp)
        · rw [List.mem_singleton.mp hl]; exact hk
      generalize upd (upd m c (.lst [.int (k : Int), .int 0])) t (.lst [.ref c]) = m0 at T0 ⊢
      clear hc ht hmt hct htc
      refine whl_at mF (fun j en m => ∃ fd' L, Tr M m G as.length t fd' L ∧ j + phi G fd [⟨c, k, 0⟩] = phi G fd' L ∧ (∀ v, v < k + 1 → v ∈ fd' ∨ v ∈ (L.map Te.v).reverse) ∧ ∃ s5 s6 s7, en = [.val (.ref e), .own p1 (.lst (mtL as.length (fd' ++ (L.map Te.v).reverse))), .own p2 (.lst (fd'.map fun (v : Nat) => .int (v : Int))), .val (.int (k : Int)), .val (.ref t), s5, s6, s7]) (as.length + (as.length * 1000 + as.length * 1000)) ⟨fd, [⟨c, k, 0⟩], T0, Nat.zero_add _, fun v hv => ?_, s5, s6, s7, rfl⟩ (fun j en m hI => ?_) fun j en m hI => ?_
      · rcases Nat.lt_or_ge v k with z | z
        · exact .inl (hall v z)
        · rw [show v = k by omega]; exact .inr (by simp)
      · obtain ⟨fd', L, T, ej, _, _⟩ := hI
        have := T.phi_le g.short
        omega
      · obtain ⟨fd', L, T, ej, hall', t5, t6, t7, rfl⟩ := hI
        have hlL : L.length ≤ 1000 := by
          have := nodup_few (List.nodup_append.mp T.df.nd).2.1 (N := as.length) fun x hx => by
            obtain ⟨l, hl, rfl⟩ := List.mem_map.mp (List.mem_reverse.mp hx)
            exact T.lt.2 l hl
          simp at this
          omega
        have ht := T.tt
        simp! only [ht]
        rcases List.eq_nil_or_concat L with rfl | ⟨L', l, rfl⟩
        · rw [if_neg (by simp)]
          have hd0 : Dfs G fd' [] := by simpa using T.df
          refine ⟨T.sub, fd', hd0, T.lt.1, fun v hv => ?_, hk, .val (.int (k : Int)), .val (.ref t), t5, t6, t7, ?_⟩
          · rcases hall' v hv with z | z
            · exact z
            · simp at z
          · simp
        · rw [List.concat_eq_append] at *
          have hlm : l ∈ L' ++ [l] := List.mem_append_right _ List.mem_cons_self
          obtain ⟨hcm, hcM, hct⟩ := T.cs l hlm
          have hlv := T.lt.2 l hlm
          rw [if_pos (by simp)]
          have ei : L2.atI ((L' ++ [l]).map fun l => D.ref l.c) (-1) = some (.ref l.c) := atI_neg1 (by simp)
          have gm := g.sub T.sub
          have he := gm.at_
          have hnx := gm.nx l.v hlv
          have ea : L2.atI (as.map D.ref) (l.v : Int) = some (.ref as[l.v]) := atI_cast (by simp [hlv])
          obtain ⟨hil, hix⟩ := T.ix l hlm
          rw [ss_cons]
          simp! only [ht]
          refine ⟨_, ei, l.c, rfl, _, hcm, rfl, ?_⟩
          unfold teD
          (try walk_at "wp")
          rw [ss_cons]
          simp! only [he]
          refine ⟨_, ea, ?_⟩
          simp! only [hnx]
          by_cases cf : (l.i : Int) = ((G l.v).length : Int)
          · rw [if_pos cf]
            rw [ss_cons]
            walk_at "wp"
            have hfd : fd'.length ≤ 1000 := Nat.le_trans (nodup_few (List.nodup_append.mp T.df.nd).1 T.lt.1) hN
            refine ⟨Nat.lt_of_le_of_lt hfd (by decide), ?_⟩
            rw [ss_cons]
            simp! only [ht]
            have hcf : l.i = (G l.v).length := by omega
            refine ⟨⟨_, rfl⟩, ⟨.ref l.c, by simp⟩, ?_⟩
            rw [show ((L' ++ [l]).map fun l => D.ref l.c).dropLast = L'.map fun l => D.ref l.c by simp]
            rw [ss_cons]
            walk_at "wp"
            refine ⟨fd' ++ [l.v], L', T.pop hcf, by rw [phi_pop hcf]; omega, fun v hv => ?_, .val (.int (l.v : Int)), .val (.int (l.i : Int)), t7, ?_⟩
            · rcases hall' v hv with z | z
              · exact .inl (List.mem_append_left _ z)
              · rw [rev_snoc] at z
                rcases List.mem_cons.mp z with rfl | z
                · exact .inl (List.mem_append_right _ List.mem_cons_self)
                · exact .inr z
            · rw [rev_snoc, List.map_append (l₂ := [l.v]), List.append_assoc fd' [l.v]]
              rfl
          · rw [if_neg cf]
            have hlt : l.i < (G l.v).length := by omega
            have hw : (G l.v)[l.i]? = some (G l.v)[l.i] := List.getElem?_eq_getElem hlt
            generalize (G l.v)[l.i] = w at hw
            (try walk_at "wp")
            rw [ss_cons]
            simp! only [ht]
            refine ⟨_, ei, ?_⟩
            refine ⟨l.c, rfl, _, hcm, 1, rfl, ?_⟩
            have em : (teD l).set 1 (.int ((l.i : Int) + 1)) = teD ⟨l.c, l.v, l.i + 1⟩ := rfl
            rw [em]
            have sb1 : Sub M (upd m l.c (.lst (teD ⟨l.c, l.v, l.i + 1⟩))) := sub_new T.sub hcM
            have gm1 := g.sub sb1
            have he1 := gm1.at_
            have hnx1 := gm1.nx l.v hlv
            have ht1 : upd m l.c (.lst (teD ⟨l.c, l.v, l.i + 1⟩)) t = some (.lst ((L' ++ [l]).map fun l => .ref l.c)) := (upd_no hct.symm).trans ht
            rw [ss_cons]
            simp! only [he1]
            refine ⟨_, ea, ?_⟩
            simp! only [hnx1]
            refine ⟨_, atI_cast (show _ = some (D.int (w : Int)) by rw [List.getElem?_map, hw]; rfl), ?_⟩
            have hwN : w < as.length := g.lt l.v w (List.mem_of_getElem? hw)
            (try walk_at "wp")
            rw [ss_cons]
            walk_at "wp"
            refine ⟨_, mt_at hwN, ?_⟩
            walk_at "wp"
            by_cases cw : w ∈ fd' ++ ((L' ++ [l]).map Te.v).reverse
            · rw [decide_eq_true cw, if_neg (by decide)]
              (try walk_at "wp")
              refine ⟨fd', L' ++ [⟨l.c, l.v, l.i + 1⟩], T.adv hw (List.mem_append.mp cw), by rw [phi_adv]; omega, fun v hv => ?_, .val (.int (l.v : Int)), .val (.int (l.i : Int)), .val (.int (w : Int)), ?_⟩
              · rw [rev_snoc]
                have := hall' v hv
                rw [rev_snoc] at this
                exact this
              · rw [rev_snoc, rev_snoc]
            · rw [decide_eq_false cw, if_pos (by decide)]
              rw [ss_cons]
              walk_at "wp"
              refine ⟨w, ixN_cast (by rw [mt_len]; exact hwN), ?_⟩
              rw [ss_cons]
              simp! only [ht1]
              refine ⟨⟨_, rfl⟩, by decide, fun c2 hc2 => ?_⟩
              have n2t : c2 ≠ t := fun z => by rw [z, ht1] at hc2; cases hc2
              have hw1 : w ∉ fd' := fun z => cw (List.mem_append_left _ z)
              have hw2 : w ∉ ((L' ++ [l]).map Te.v).reverse := fun z => cw (List.mem_append_right _ z)
              have TP := T.push hw hw1 hw2 hwN hc2
              have eL : ((L' ++ [(⟨l.c, l.v, l.i + 1⟩ : Te)] ++ [(⟨c2, w, 0⟩ : Te)]).map fun l => D.ref l.c) = ((L' ++ [l]).map fun l => D.ref l.c) ++ [.ref c2] := by simp
              rw [eL] at TP
              refine ⟨_, (upd_no n2t.symm).trans ht1, ?_, fd', L' ++ [(⟨l.c, l.v, l.i + 1⟩ : Te)] ++ [(⟨c2, w, 0⟩ : Te)], TP, by rw [phi_push]; omega, fun v hv => ?_, .val (.int (l.v : Int)), .val (.int (l.i : Int)), .val (.int (w : Int)), ?_⟩
              · rw [List.length_map]
                exact Nat.lt_of_le_of_lt hlL (by decide)
              · rw [rev_snoc, rev_snoc]
                have := hall' v hv
                rw [rev_snoc] at this
                rcases this with z | z
                · exact .inl z
                · exact .inr (List.mem_cons_of_mem _ z)
              · rw [mt_set (S' := fd' ++ ((L' ++ [(⟨l.c, l.v, l.i + 1⟩ : Te)] ++ [(⟨c2, w, 0⟩ : Te)]).map Te.v).reverse) (fun v => by
                  rw [rev_snoc, rev_snoc, rev_snoc]
                  simp only [List.mem_append, List.mem_cons]
                  constructor
                  · rintro (z | z | z | z)
                    · exact .inr (.inl z)
                    · exact .inl z
                    · exact .inr (.inr (.inl z))
                    · exact .inr (.inr (.inr z))
                  · rintro (z | z | z | z)
                    · exact .inr (.inl z)
                    · exact .inl z
                    · exact .inr (.inr (.inl z))
                    · exact .inr (.inr (.inr z)))]
/-- the turned graph in the memory -/
structure Tn (M m : Mem) (G : Nat → List Nat) (bs : List Nat) (R : Nat → List Nat) : Prop where
  sub : Sub M m
  nd : bs.Nodup
  at_ : ∀ i (h : i < bs.length), m bs[i] = some (.lst ((R i).map fun (v : Nat) => .int (v : Int))) ∧ M bs[i] = Option.none
theorem turned_ok (hf : P[f]? = some d_turned) {e : Nat} {as : List Nat} {G : Nat → List Nat} (g : Gm M e as G) (q : ∀ p m bs R, Tn M m G bs R → bs.length = as.length → (∀ w, w < as.length → ∀ v, v ∈ R w ↔ w ∈ G v) → M p = Option.none → m p = Option.none → Q (.ref p) (upd m p (.lst (bs.map .ref)))) : wFn P (n + 1) f [.ref e] M Q E := by
  have hN := g.few
  have hat := g.at_
  refine enter hf rfl ?_
  simp only [d_turned]
  rw [ss_cons]
  simp! only [hat]
  refine ⟨Nat.le_trans (show as.length ≤ 1000 from hN) (by decide), cmpr_acc (fun i ys m => ∃ bs : List Nat, ys = bs.map .ref ∧ bs.length = i ∧ Tn M m G bs fun _ => []) (fun i ys m hI => ?_) (fun i x ys m hx hI R hR => ?_) ⟨[], rfl, rfl, Sub.rf M, List.nodup_nil, fun i h => absurd h (Nat.not_lt_zero _)⟩ fun ys m hI => ?_⟩
  · obtain ⟨bs, _, _, T⟩ := hI
    exact T.sub _ _ hat
  · obtain ⟨bs, rfl, hl, T⟩ := hI
    refine ⟨by decide, fun b hb => hR _ _ ⟨bs ++ [b], by rw [List.map_append]; rfl, by rw [List.length_append, hl]; rfl, sub_new T.sub (T.sub.noneL hb), ?_, fun i h => ?_⟩⟩
    · rw [List.nodup_append]
      refine ⟨T.nd, by simp, fun x hx y hy z => ?_⟩
      obtain ⟨i, hi, rfl⟩ := List.getElem_of_mem hx
      have h1 := (T.at_ i hi).1
      rw [z, List.mem_singleton.mp hy, hb] at h1
      cases h1
    · by_cases c : i < bs.length
      · rw [List.getElem_append_left c]
        obtain ⟨h1, h2⟩ := T.at_ i c
        exact ⟨by rw [upd_no (ne_of_mem h1 hb)]; exact h1, h2⟩
      · have : i = bs.length := by rw [List.length_append] at h; simp at h; omega
        subst this
        rw [List.getElem_concat_length rfl]
        exact ⟨upd_at, T.sub.noneL hb⟩
  · obtain ⟨bs, rfl, hl, T⟩ := hI
    intro p1 hp1
    rw [List.length_map] at hl
    rw [ss_cons]
    simp! only [T.sub _ _ hat]
    have en : List.mapIdx (fun i x => D.tup [.int (i : Nat), x]) (as.map D.ref) = (List.range as.length).map fun (k : Nat) => .tup [.int (k : Int), .ref (as.getD k 0)] := by
      refine List.ext_getElem (by simp) fun i h1 h2 => ?_
      simp at h1
      simp [List.getD, h1]
    rw [en]
    refine for_rangeT mF (fun k e' m => m e = some (.lst (as.map .ref)) ∧ k ≤ as.length ∧ ∃ R : Nat → List Nat, Tn M m G bs R ∧ (∀ w, w < as.length → ∀ v, v ∈ R w ↔ v < k ∧ w ∈ G v) ∧ (∀ w, (R w).length ≤ 1000 * k) ∧ ∃ s2 s3 s4, e' = [.val (.ref e), .own p1 (.lst (bs.map .ref)), s2, s3, s4]) ⟨T.sub _ _ hat, Nat.zero_le _, fun _ => [], T, (fun w _ v => ⟨fun h => (by cases h), fun h => absurd h.1 (Nat.not_lt_zero _)⟩), (fun w => Nat.zero_le _), .no, .no, .no, rfl⟩ (fun k e' m hI => hI.1) (fun e' m hI => ?_) (fun k e' m hk hI => ?_)
    · obtain ⟨_, _, R, T, hR, _, s2, s3, s4, rfl⟩ := hI
      (try walk_at "wp")
      rw [ss_cons]
      walk_at "wp"
      intro hm1
      exact leave (q p1 m bs R T hl (fun w hw v => ⟨fun h => ((hR w hw v).mp h).2, fun h => (hR w hw v).mpr ⟨by
        rcases Nat.lt_or_ge v as.length with z | z
        · exact z
        · rw [g.nil v z] at h; exact absurd h (by simp), h⟩⟩) (T.sub.noneL hm1) hm1)
    · obtain ⟨he, _, R, T, hR, hlen, s2, s3, s4, rfl⟩ := hI
      have gm := g.sub T.sub
      have hnx := gm.nx k hk
      have ek : as.getD k 0 = as[k] := by simp [List.getD, hk]
      rw [ek]
      (try walk_at "wp")
      rw [ss_cons]
      simp! only [hnx]
      refine for_at mF (fun j e' m => ∃ R : Nat → List Nat, Tn M m G bs R ∧ (∀ w, w < as.length → ∀ v, v ∈ R w ↔ (v < k ∧ w ∈ G v) ∨ (v = k ∧ w ∈ (G k).take j)) ∧ (∀ w, (R w).length ≤ 1000 * k + j) ∧ ∃ s4, e' = [.val (.ref e), .own p1 (.lst (bs.map .ref)), .val (.int (k : Int)), .val (.ref as[k]), s4]) ⟨R, T, (fun w hw v => by rw [hR w hw v]; simp), hlen, s4, rfl⟩ (fun j e' m hI => by
        obtain ⟨R, T, _⟩ := hI
        exact (g.sub T.sub).nx k hk) (fun e' m hI => ?_) (fun j x e' m hx hI => ?_)
      · obtain ⟨R, T, hR, hlen, s4, rfl⟩ := hI
        rw [List.length_map, List.take_length] at hR
        rw [List.length_map] at hlen
        (try walk_at "wp")
        refine ⟨T.sub _ _ hat, hk, R, T, fun w hw v => ?_, fun w => ?_, _, _, _, rfl⟩
        · rw [hR w hw v]
          constructor
          · rintro (⟨h1, h2⟩ | ⟨h1, h2⟩)
            · exact ⟨by omega, h2⟩
            · exact ⟨by omega, by rw [h1]; exact h2⟩
          · rintro ⟨h1, h2⟩
            rcases Nat.lt_or_ge v k with z | z
            · exact .inl ⟨z, h2⟩
            · have : v = k := by omega
              exact .inr ⟨this, by rw [← this]; exact h2⟩
        · have h1 := hlen w
          have h2 := g.short k
          omega
      · obtain ⟨R, T, hR, hlen, s4, rfl⟩ := hI
        rw [List.getElem?_map] at hx
        obtain ⟨w, hw, rfl⟩ := Option.map_eq_some_iff.mp hx
        have hwN : w < as.length := g.lt k w (List.mem_of_getElem? hw)
        have hwb : w < bs.length := by omega
        obtain ⟨hb1, hb2⟩ := T.at_ w hwb
        (try walk_at "wp")
        rw [ss_cons]
        walk_at "wp"
        refine ⟨_, atI_cast (show _ = some (D.ref bs[w]) by simp [hwb]), ?_⟩
        simp only [D.ref.injEq, exists_eq_left']
        have hlw := hlen w
        have hgk := g.short k
        have hjl : j < (G k).length := (List.getElem?_eq_some_iff.mp hw).1
        refine ⟨⟨_, hb1⟩, _, hb1, Nat.lt_of_le_of_lt (show _ ≤ 2000000 by rw [List.length_map]; omega) (by decide), fun i => if i = w then R w ++ [k] else R i, ⟨sub_new T.sub hb2, T.nd, fun i hi => ?_⟩, fun u hu v => ?_, fun u => ?_, _, rfl⟩
        · obtain ⟨h1, h2⟩ := T.at_ i hi
          by_cases c : i = w
          · subst c
            rw [if_pos rfl]
            exact ⟨by rw [upd_at, List.map_append]; rfl, h2⟩
          · rw [if_neg c]
            have hne : bs[i] ≠ bs[w] := fun z => c ((List.getElem_inj T.nd).mp z)
            exact ⟨by rw [upd_no hne]; exact h1, h2⟩
        · dsimp only
          rw [List.take_add_one, hw, Option.toList_some, List.mem_append, List.mem_singleton]
          by_cases c : u = w
          · rw [if_pos c, List.mem_append, List.mem_singleton, c, hR w hwN v]
            constructor
            · rintro ((z | z) | z)
              · exact .inl z
              · exact .inr ⟨z.1, .inl z.2⟩
              · exact .inr ⟨z, .inr rfl⟩
            · rintro (z | ⟨z1, z2 | z2⟩)
              · exact .inl (.inl z)
              · exact .inl (.inr ⟨z1, z2⟩)
              · exact .inr z1
          · rw [if_neg c, hR u hu v]
            constructor
            · rintro (z | z)
              · exact .inl z
              · exact .inr ⟨z.1, .inl z.2⟩
            · rintro (z | ⟨z1, z2 | z2⟩)
              · exact .inl z
              · exact .inr ⟨z1, z2⟩
              · exact absurd z2 c
        · dsimp only
          have := hlen u
          split
          · rw [List.length_append, List.length_singleton]; omega
          · omega
/-- numbers of classes -/
structure Scc (G : Nat → List Nat) (N : Nat) (num : Nat → Nat) : Prop where
  eq : ∀ x y, x < N → y < N → (num x = num y ↔ Gr G x y ∧ Gr G y x)
  le : ∀ x y, x < N → y ∈ G x → num x ≤ num y
open Classical in
noncomputable def fvL (N : Nat) (A B : List Nat) (num : Nat → Nat) (m : Nat) : List D := (List.range N).map fun v => .int (if v ∈ A then (num v : Int) else if v ∈ B then (m : Int) else -1)
theorem fv_len {N : Nat} {A B : List Nat} {num : Nat → Nat} {m : Nat} : (fvL N A B num m).length = N := by unfold fvL; simp
open Classical in
theorem fv_at {N : Nat} {A B : List Nat} {num : Nat → Nat} {m v : Nat} (h : v < N) : L2.atI (fvL N A B num m) (v : Int) = some (.int (if v ∈ A then (num v : Int) else if v ∈ B then (m : Int) else -1)) := atI_cast (by unfold fvL; simp [h])
theorem fv_set {N : Nat} {A B : List Nat} {num : Nat → Nat} {m w : Nat} (hw : w ∉ A) : (fvL N A B num m).set w (.int (m : Int)) = fvL N A (B ++ [w]) num m := by
  unfold fvL
  rw [set_range]
  refine List.map_congr_left fun v _ => ?_
  by_cases c : v = w
  · rw [if_pos c, c, if_neg hw, if_pos (List.mem_append_right _ List.mem_cons_self)]
  · rw [if_neg c]
    have : v ∈ B ++ [w] ↔ v ∈ B := by simp [c]
    simp only [this]
theorem classes_ok {ft ff : Nat} (hf : P[f]? = some (d_classes ft ff)) (hft : P[ft]? = some d_turned) (hff : P[ff]? = some d_forward_order) {e : Nat} {as : List Nat} {G : Nat → List Nat} (g : Gm M e as G) (q : ∀ p num, Scc G as.length num → M p = Option.none → Q (.ref p) (upd M p (.lst ((List.range as.length).map fun v => .int (num v : Nat))))) : wFn P (n + 2) f [.ref e] M Q E := by
  have hN := g.few
  refine enter hf rfl ?_
  simp only [d_classes]
  rw [ss_cons]
  walk_at "wp"
  refine turned_ok hft g fun p1 m1 bs R T hbl hR hMp1 hmp1 => ?_
  have sb1 : Sub M (upd m1 p1 (.lst (bs.map .ref))) := sub_new T.sub hMp1
  have k1 : upd m1 p1 (.lst (bs.map .ref)) p1 = some (.lst (bs.map .ref)) := upd_at
  have kb : ∀ i (h : i < bs.length), upd m1 p1 (.lst (bs.map .ref)) bs[i] = some (.lst ((R i).map fun (v : Nat) => .int (v : Int))) := fun i h => by
    have h1 := (T.at_ i h).1
    rw [upd_no (ne_of_mem h1 hmp1)]; exact h1
  generalize upd m1 p1 (.lst (bs.map .ref)) = m2 at sb1 k1 kb ⊢
  have g2 := g.sub sb1
  (try walk_at "wp")
  rw [ss_cons]
  simp! only [g2.at_]
  refine ⟨Nat.le_trans (show as.length ≤ 1000 from hN) (by decide), cmpr_mapG D.ref (fun _ => .int (-1)) g2.at_ (fun x hx R hR => hR) fun p2 hp2 => ?_⟩
  rw [show (as.map fun _ => D.int (-1)) = fvL as.length [] [] (fun _ => 0) 0 by
    unfold fvL
    rw [List.map_const', List.map_congr_left (g := fun _ => D.int (-1)) (fun v _ => by simp), List.map_const', List.length_range]]
  rw [ss_cons]
  walk_at "wp"
  rw [ss_cons]
  walk_at "wp"
  refine forward_ok hff g2 fun fd p4 hD hfd hp4 => ?_
  have k14 := hp4
  have sb3 : Sub m2 (upd m2 p4 (.lst (fd.map fun (v : Nat) => .int (v : Int)))) := sub_new (Sub.rf m2) hp4
  have k4 : upd m2 p4 (.lst (fd.map fun (v : Nat) => .int (v : Int))) p4 = some (.lst (fd.map fun (v : Nat) => .int (v : Int))) := upd_at
  generalize upd m2 p4 (.lst (fd.map fun (v : Nat) => .int (v : Int))) = m3 at sb3 k4 ⊢
  have sb : Sub M m3 := fun b o h => sb3 b o (sb1 b o h)
  have k13 := sb3 _ _ k1
  have kb3 : ∀ i (h : i < bs.length), m3 bs[i] = some (.lst ((R i).map fun (v : Nat) => .int (v : Int))) := fun i h => sb3 _ _ (kb i h)
  clear k14 sb1 k1 kb g2 sb3
  simp! only [k4]
  rw [← List.map_reverse]
  refine for_at mF (fun i en m => m = m3 ∧ ∃ (A : List Nat) (num : Nat → Nat) (mny : Nat), Kos G A num mny ∧ (∀ v ∈ A, v < as.length) ∧ (∀ z ∈ fd.reverse.take i, z ∈ A) ∧ ∃ s4 s5 s6 s7, en = [.val (.ref e), .val (.ref p1), .own p2 (.lst (fvL as.length A [] num mny)), .val (.int (mny : Int)), s4, s5, s6, s7]) ⟨rfl, [], fun _ => 0, 0, Kos.start, (by simp), (by simp), .no, .no, .no, .no, rfl⟩ (fun i en m hI => by rw [hI.1]; exact k4) (fun en m hI => ?_) (fun i x en m hx hI => ?_)
  · obtain ⟨rfl, A, num, mny, K, hA, hall, s4, s5, s6, s7, rfl⟩ := hI
    rw [List.length_map, List.take_length] at hall
    (try walk_at "wp")
    rw [ss_cons]
    walk_at "wp"
    intro hmp
    have hAll : ∀ v, v < as.length → v ∈ A := fun v hv => hall v (List.mem_reverse.mpr ((hfd v).mpr hv))
    have eF : fvL as.length A [] num mny = (List.range as.length).map fun v => .int (num v : Nat) := List.map_congr_left fun v hv => by
      rw [if_pos (hAll v (List.mem_range.mp hv))]
    rw [eF]
    have hMp : M p2 = Option.none := sb.noneL hmp
    refine ⟨upd M p2 (.lst ((List.range as.length).map fun v => .int (num v : Nat))), fun b o hb => ?_, q p2 num ⟨fun x y hx hy => K.eq x (hAll x hx) y (hAll y hy), fun x y hx hy => K.le x (hAll x hx) y (hAll y (g.lt x y hy)) hy⟩ hMp⟩
    by_cases z : b = p2
    · subst z; rw [upd_at] at hb ⊢; exact hb
    · rw [upd_no z] at hb ⊢; exact sb b o hb
  · obtain ⟨rfl, A, num, mny, K, hA, hall, s4, s5, s6, s7, rfl⟩ := hI
    rw [List.getElem?_map] at hx
    obtain ⟨r, hr, rfl⟩ := Option.map_eq_some_iff.mp hx
    have hrN : r < as.length := (hfd r).mp (List.mem_reverse.mp (List.mem_of_getElem? hr))
    have htk : fd.reverse.take (i + 1) = fd.reverse.take i ++ [r] := by rw [List.take_add_one, hr]; rfl
    (try walk_at "wp")
    rw [ss_cons]
    walk_at "wp"
    refine ⟨_, fv_at hrN, ?_⟩
    walk_at "wp"
    by_cases cr : r ∈ A
    · rw [if_pos cr]
      rw [if_pos (by omega)]
      rw [ss_cons]
      walk_at "wp"
      refine ⟨A, num, mny, K, hA, fun z hz => ?_, _, _, _, _, rfl⟩
      rw [htk] at hz
      rcases List.mem_append.mp hz with hz | hz
      · exact hall z hz
      · rw [List.mem_singleton.mp hz]; exact cr
    · rw [if_neg cr, if_neg (show ¬ r ∈ ([] : List Nat) by simp), if_neg (by decide)]
      (try walk_at "wp")
      rw [ss_cons]
      walk_at "wp"
      refine ⟨r, ixN_cast (by rw [fv_len]; exact hrN), ?_⟩
      rw [fv_set cr, List.nil_append]
      rw [ss_cons]
      walk_at "wp"
      refine ⟨by decide, fun p5 hp5 => ?_⟩
      rw [ss_cons]
      refine whl_at mF (fun j en m' => m' = m ∧ ∃ B Qs : List Nat, r ∈ B ∧ B.Nodup ∧ (∀ x ∈ B, x ∉ A ∧ x < as.length ∧ Gr G x r) ∧ (∀ y ∈ B, y ∉ Qs → ∀ x, y ∈ G x → x ∈ A ∨ x ∈ B) ∧ j + Qs.length = B.length ∧ (∀ y ∈ Qs, y ∈ B) ∧ ∃ s6 s7, en = [.val (.ref e), .val (.ref p1), .own p2 (.lst (fvL as.length A B num mny)), .val (.int (mny : Int)), .val (.int (r : Int)), .own p5 (.lst (Qs.map fun (v : Nat) => .int (v : Int))), s6, s7]) as.length ⟨rfl, [r], [r], by simp, by simp, (fun x hx => by rw [List.mem_singleton.mp hx]; exact ⟨cr, hrN, Gr.rf⟩), (fun y hy hn => absurd hy hn), rfl, (fun y hy => hy), s6, s7, rfl⟩ (fun j en m' hI => ?_) fun j en m' hI => ?_
      · obtain ⟨_, B, Qs, _, hnd, hB, _, hj, _⟩ := hI
        have := nodup_few hnd fun x hx => (hB x hx).2.1
        omega
      · obtain ⟨rfl, B, Qs, hrB, hnd, hB, hcl, hj, hQ, t6, t7, rfl⟩ := hI
        walk_at "wp"
        rcases List.eq_nil_or_concat Qs with rfl | ⟨Q', y, rfl⟩
        · rw [if_neg (by simp)]
          (try walk_at "wp")
          rw [ss_cons]
          walk_at "wp"
          have hil : i < fd.reverse.length := (List.getElem?_eq_some_iff.mp hr).1
          have hri : fd.reverse[i] = r := (List.getElem?_eq_some_iff.mp hr).2
          have efd : fd = (fd.reverse.drop (i + 1)).reverse ++ r :: (fd.reverse.take i).reverse := by
            have e1 : fd.reverse = fd.reverse.take i ++ r :: fd.reverse.drop (i + 1) := by
              rw [← hri, ← List.drop_eq_getElem_cons hil, List.take_append_drop]
            have e2 := congrArg List.reverse e1
            rw [List.reverse_reverse, List.reverse_append, List.reverse_cons, List.append_assoc] at e2
            exact e2
          have K2 := K.more hD efd (fun z hz => hall z (List.mem_reverse.mp hz)) hrB (fun x hx => ⟨(hB x hx).1, (hfd x).mpr (hB x hx).2.1, (hB x hx).2.2⟩) (fun y hy x hx => hcl y hy (by simp) x hx)
          rw [show (mny : Int) + 1 = ((mny + 1 : Nat) : Int) by omega]
          refine ⟨A ++ B, _, mny + 1, K2, fun v hv => ?_, fun z hz => ?_, .val (.int (r : Int)), .own p5 (.lst []), t6, t7, ?_⟩
          · rcases List.mem_append.mp hv with hv | hv
            · exact hA v hv
            · exact (hB v hv).2.1
          · rw [htk] at hz
            rcases List.mem_append.mp hz with hz | hz
            · exact List.mem_append_left _ (hall z hz)
            · rw [List.mem_singleton.mp hz]; exact List.mem_append_right _ hrB
          · have eF : fvL as.length A B num mny = fvL as.length (A ++ B) [] (fun x => if x ∈ B then mny else num x) (mny + 1) := List.map_congr_left fun v _ => by
              by_cases ca : v ∈ A
              · have cb : v ∉ B := fun z => (hB v z).1 ca
                rw [if_pos ca, if_pos (List.mem_append_left _ ca)]
                dsimp only
                rw [if_neg cb]
              · by_cases cb : v ∈ B
                · rw [if_neg ca, if_pos cb, if_pos (List.mem_append_right _ cb)]
                  dsimp only
                  rw [if_pos cb]
                · rw [if_neg ca, if_neg cb, if_neg (fun z => (List.mem_append.mp z).elim ca cb), if_neg (by simp)]
            rw [eF]
        · rw [List.concat_eq_append] at *
          rw [if_pos (by simp)]
          rw [ss_cons]
          walk_at "wp"
          have hyB : y ∈ B := hQ y (List.mem_append_right _ List.mem_cons_self)
          have hyN := (hB y hyB).2.1
          have hyr := (hB y hyB).2.2
          have hyb : y < bs.length := by omega
          refine ⟨.int (y : Int), by simp, by decide, ?_⟩
          rw [show ((Q' ++ [y]).map fun (v : Nat) => D.int (v : Int)).dropLast = Q'.map fun (v : Nat) => D.int (v : Int) by simp]
          rw [ss_cons]
          simp! only [k13]
          refine ⟨_, atI_cast (show _ = some (D.ref bs[y]) by simp [hyb]), ?_⟩
          have hkb := kb3 y hyb
          simp! only [hkb]
          refine for_at mF (fun t en m'' => m'' = m' ∧ ∃ B Qs : List Nat, r ∈ B ∧ y ∈ B ∧ B.Nodup ∧ (∀ x ∈ B, x ∉ A ∧ x < as.length ∧ Gr G x r) ∧ (∀ z ∈ B, z ∉ Qs → z ≠ y → ∀ x, z ∈ G x → x ∈ A ∨ x ∈ B) ∧ (∀ x ∈ (R y).take t, x ∈ A ∨ x ∈ B) ∧ j + 1 + Qs.length = B.length ∧ (∀ z ∈ Qs, z ∈ B) ∧ ∃ s7, en = [.val (.ref e), .val (.ref p1), .own p2 (.lst (fvL as.length A B num mny)), .val (.int (mny : Int)), .val (.int (r : Int)), .own p5 (.lst (Qs.map fun (v : Nat) => .int (v : Int))), .val (.int (y : Int)), s7]) ⟨rfl, B, Q', hrB, hyB, hnd, hB, (fun z hz hn hne => hcl z hz fun h => by
              rcases List.mem_append.mp h with h | h
              · exact hn h
              · exact hne (List.mem_singleton.mp h)), (by simp), by rw [List.length_append, List.length_singleton] at hj; omega, (fun z hz => hQ z (List.mem_append_left _ hz)), t7, rfl⟩ (fun t en m'' hI => by rw [hI.1]; exact hkb) (fun en m'' hI => ?_) (fun t x en m'' hx hI => ?_)
          · obtain ⟨rfl, B, Qs, hrB, hyB, hnd, hB, hcl, htk2, hj, hQ, s7, rfl⟩ := hI
            rw [List.length_map, List.take_length] at htk2
            (try walk_at "wp")
            refine ⟨B, hrB, hnd, hB, Qs, fun z hz hn x hx => ?_, hj, hQ, .val (.int (y : Int)), s7, rfl⟩
            by_cases c : z = y
            · subst c
              exact htk2 x ((hR z hyN x).mpr hx)
            · exact hcl z hz hn c x hx
          · obtain ⟨rfl, B, Qs, hrB, hyB, hnd, hB, hcl, htk2, hj, hQ, s7, rfl⟩ := hI
            rw [List.getElem?_map] at hx
            obtain ⟨v, hv, rfl⟩ := Option.map_eq_some_iff.mp hx
            have hvy : y ∈ G v := (hR y hyN v).mp (List.mem_of_getElem? hv)
            have hvN : v < as.length := by
              rcases Nat.lt_or_ge v as.length with z | z
              · exact z
              · rw [g.nil v z] at hvy; exact absurd hvy (by simp)
            have htn : (R y).take (t + 1) = (R y).take t ++ [v] := by rw [List.take_add_one, hv]; rfl
            (try walk_at "wp")
            rw [ss_cons]
            walk_at "wp"
            refine ⟨_, fv_at hvN, ?_⟩
            walk_at "wp"
            by_cases ca : v ∈ A
            · rw [if_pos ca, if_neg (by omega)]
              (try walk_at "wp")
              refine ⟨B, hrB, hyB, hnd, hB, Qs, hcl, fun x hx => ?_, hj, hQ, _, rfl⟩
              rw [htn] at hx
              rcases List.mem_append.mp hx with hx | hx
              · exact htk2 x hx
              · rw [List.mem_singleton.mp hx]; exact .inl ca
            · by_cases cb : v ∈ B
              · rw [if_neg ca, if_pos cb, if_neg (by omega)]
                (try walk_at "wp")
                refine ⟨B, hrB, hyB, hnd, hB, Qs, hcl, fun x hx => ?_, hj, hQ, _, rfl⟩
                rw [htn] at hx
                rcases List.mem_append.mp hx with hx | hx
                · exact htk2 x hx
                · rw [List.mem_singleton.mp hx]; exact .inr cb
              · rw [if_neg ca, if_neg cb, if_pos (by decide)]
                rw [ss_cons]
                walk_at "wp"
                refine ⟨v, ixN_cast (by rw [fv_len]; exact hvN), ?_⟩
                rw [fv_set ca]
                rw [ss_cons]
                walk_at "wp"
                have hQl : Qs.length < 100000 := by
                  have := nodup_few hnd fun x hx => (hB x hx).2.1
                  omega
                refine ⟨Nat.lt_of_lt_of_le hQl (by decide), B ++ [v], List.mem_append_left _ hrB, List.mem_append_left _ hyB, ?_, fun x hx => ?_, Qs ++ [v], fun z hz hn hne x hx => ?_, fun x hx => ?_, by rw [List.length_append, List.length_append, List.length_singleton]; omega, fun z hz => ?_, .val (.int (v : Int)), ?_⟩
                · rw [List.nodup_append]
                  exact ⟨hnd, by simp, fun a ha b hb => by rw [List.mem_singleton.mp hb]; exact fun z => cb (z ▸ ha)⟩
                · rcases List.mem_append.mp hx with hx | hx
                  · exact hB x hx
                  · rw [List.mem_singleton.mp hx]; exact ⟨ca, hvN, Gr.step hvy hyr⟩
                · rcases List.mem_append.mp hz with hz | hz
                  · rcases hcl z hz (fun w => hn (List.mem_append_left _ w)) hne x hx with w | w
                    · exact .inl w
                    · exact .inr (List.mem_append_left _ w)
                  · exact absurd (List.mem_append_right _ hz) hn
                · rw [htn] at hx
                  rcases List.mem_append.mp hx with hx | hx
                  · rcases htk2 x hx with w | w
                    · exact .inl w
                    · exact .inr (List.mem_append_left _ w)
                  · exact .inr (List.mem_append_right _ hx)
                · rcases List.mem_append.mp hz with hz | hz
                  · exact List.mem_append_left _ (hQ z hz)
                  · exact List.mem_append_right _ hz
                · rw [List.map_append (l₂ := [v])]; rfl
end DL
/-! Stands of the trackers' graph: edges from a least code, bad rounds. -/
namespace DL
local macro_rules | `(tactic| walk_at "wp") => `(tactic| simp only [wS, wE, wEs, wO, wAs, wL, wN, wI, wT, wTs, setAll, Tg.slots, wipeE, cmp_eq_int, cmp_ne_int, cmp_eq_str, cmp_ne_str, cmp_eq_tup, cmp_ne_tup, cmp_eq_bl, cmp_lt, cmp_le, cmp_gt, cmp_ge, Kt0_rt, Kt0_nx, List.getElem?_cons_zero, List.getElem?_cons_succ, List.set_cons_zero, List.set_cons_succ, Option.some.injEq, Slot.val.injEq, Slot.own.injEq, MO.lst.injEq, D.int.injEq, D.ref.injEq, D.bl.injEq, D.tup.injEq, D.str.injEq, exists_eq_left', exists_eq_left, exists_and_left, exists_and_right, and_assoc, true_and, and_true, atI_0, atI_1, atI_2, atI_3, atI_4, backs, drps, List.map_cons, List.map_nil, List.length_cons, List.length_nil, List.cons_append, List.nil_append, List.replicate, Nat.reduceAdd, Nat.reduceSub, decide_eq_true_eq, upd_at, aug_add_int, aug_sub_int, aug_mul_int, aug_add_str, ixN5_1, ixN5_2, ixN5_3, Int.toNat_natCast, List.length_map, List.length_range, tg_nm, tg_tp, tru_non, tru_bl, tru_int, tru_str, tru_tup, tru_ref, bin_add_int, bin_add_str, bin_add_tup, bin_sub, bin_mul, bin_fdiv, bin_mod, bin_pow, bin_shl, bin_shr, bin_band, bin_bor, idx_tup, idx_ref, idx_str, blt_len_tup, blt_len_str, blt_len_ref, blt_int_int, blt_int_bl, blt_bool_bl, blt_bool_int, blt_abs, blt_max2, blt_max3, blt_min2, blt_tuple_tup, blt_tuple_ref, blt_isa_non, blt_isa_bl, blt_isa_int, blt_isa_str, blt_isa_tup, isa_int_int, isa_int_bool, isa_bl_bool, isa_tup, isa_str, lk_tuple, lk_len, lk_all, lk_any, lk_sum, it_tup, it_rl, it_ref, zip_tup, enum_tup, enum_ref, eq_self_iff_true, if_true, Bool.false_eq_true, if_false, reduceIte, ss_nil, rev_tup, rev_ref, ty_split, ty_join, ty_append, ty_pop, ty_popAt, ty_reverse, ty_extend, ty_insert, mth_append, mth_pop, mth_popAt, mth_reverse, mth_extend, mth_insert, mth_split, mth_join, cmp_eq_ref, cmp_ne_ref, slc_tup, slc_str, slc_ref, lk_max, lk_min, cmp_lt_str, cmp_is_bl, cmp_not_bl, cmp_is_non, cmp_not_non, cmp_is_tup, cmp_not_tup, cmp_is_int, cmp_not_int, blt_str, blt_maxt, blt_mint, tg_np])
local macro_rules | `(tactic| simp! only [$xs:simpLemma,*]) => `(tactic| simp only [wS, wE, wEs, wO, wAs, wL, wN, wI, wT, wTs, setAll, Tg.slots, wipeE, cmp_eq_int, cmp_ne_int, cmp_eq_str, cmp_ne_str, cmp_eq_tup, cmp_ne_tup, cmp_eq_bl, cmp_lt, cmp_le, cmp_gt, cmp_ge, Kt0_rt, Kt0_nx, List.getElem?_cons_zero, List.getElem?_cons_succ, List.set_cons_zero, List.set_cons_succ, Option.some.injEq, Slot.val.injEq, Slot.own.injEq, MO.lst.injEq, D.int.injEq, D.ref.injEq, D.bl.injEq, D.tup.injEq, D.str.injEq, exists_eq_left', exists_eq_left, exists_and_left, exists_and_right, and_assoc, true_and, and_true, atI_0, atI_1, atI_2, atI_3, atI_4, backs, drps, List.map_cons, List.map_nil, List.length_cons, List.length_nil, List.cons_append, List.nil_append, List.replicate, Nat.reduceAdd, Nat.reduceSub, decide_eq_true_eq, upd_at, aug_add_int, aug_sub_int, aug_mul_int, aug_add_str, ixN5_1, ixN5_2, ixN5_3, Int.toNat_natCast, List.length_map, List.length_range, tg_nm, tg_tp, tru_non, tru_bl, tru_int, tru_str, tru_tup, tru_ref, bin_add_int, bin_add_str, bin_add_tup, bin_sub, bin_mul, bin_fdiv, bin_mod, bin_pow, bin_shl, bin_shr, bin_band, bin_bor, idx_tup, idx_ref, idx_str, blt_len_tup, blt_len_str, blt_len_ref, blt_int_int, blt_int_bl, blt_bool_bl, blt_bool_int, blt_abs, blt_max2, blt_max3, blt_min2, blt_tuple_tup, blt_tuple_ref, blt_isa_non, blt_isa_bl, blt_isa_int, blt_isa_str, blt_isa_tup, isa_int_int, isa_int_bool, isa_bl_bool, isa_tup, isa_str, lk_tuple, lk_len, lk_all, lk_any, lk_sum, it_tup, it_rl, it_ref, zip_tup, enum_tup, enum_ref, eq_self_iff_true, if_true, Bool.false_eq_true, if_false, reduceIte, ss_nil, rev_tup, rev_ref, ty_split, ty_join, ty_append, ty_pop, ty_popAt, ty_reverse, ty_extend, ty_insert, mth_append, mth_pop, mth_popAt, mth_reverse, mth_extend, mth_insert, mth_split, mth_join, cmp_eq_ref, cmp_ne_ref, slc_tup, slc_str, slc_ref, lk_max, lk_min, cmp_lt_str, cmp_is_bl, cmp_not_bl, cmp_is_non, cmp_not_non, cmp_is_tup, cmp_not_tup, cmp_is_int, cmp_not_int, blt_str, blt_maxt, blt_mint, tg_np, $xs,*])
open PySem
def d_edges_from : Fn := { name := "edges_from", arity := 2, slots := ["stands", "least", "move", "target", "code", "stand"], body :=
  [(.ret (.mk (.comp (.mk (.comp (.var 3) (.tp [2, 3, 4]) (.dyn (.idx (.var 5) (.cst (.int 2)))) (some (.v (.cmp .ge (.var 4) (.var 1)))))) (.nm 5) (.dyn (.var 0)) none)))] }
def d_has_bad_round (f_classes : Nat) (f_edges_from : Nat) : Fn := { name := "has_bad_round", arity := 2, slots := ["stands", "code", "numbers", "k", "stand", "move", "target", "told"], body :=
  [(.asg (.nm 2) (.call f_classes (.cons (.call f_edges_from (.cons (.var 0) (.cons (.var 1) .nil))) .nil))),
    (.for_ (.tp [3, 4]) (.enum (.var 0)) [(.for_ (.tp [5, 6, 7]) (.dyn (.idx (.var 4) (.cst (.int 2)))) [(.ite (.and (.v (.cmp .eq (.var 7) (.var 1))) (.v (.cmp .eq (.idx (.var 2) (.var 3)) (.idx (.var 2) (.var 6))))) [(.ret (.cst (.bl true)))] [])])]),
    (.ret (.cst (.bl false)))] }
variable {P : List Fn} {n f : Nat} {M : Mem} {Q : QE} {E : QX}
/-- a stand: its place, its tree, its steps (move, target, code) -/
structure Sd where
  pl : D
  tr : D
  nx : List (Int × Nat × Int)
def nxD (x : Int × Nat × Int) : D := .tup [.int x.1, .int (x.2.1 : Int), .int x.2.2]
def SdD (s : Sd) : D := .tup [s.pl, s.tr, .tup (s.nx.map nxD)]
def SsD (ss : List Sd) : D := .tup (ss.map SdD)
def edS (least : Int) (s : Sd) : List Nat := (s.nx.filter fun x => decide (least ≤ x.2.2)).map fun x => x.2.1
def edG (ss : List Sd) (least : Int) (i : Nat) : List Nat := edS least (ss.getD i ⟨.non, .non, []⟩)
structure SsOk (ss : List Sd) : Prop where
  few : ss.length ≤ 1000
  nx : ∀ s ∈ ss, s.nx.length ≤ 1000 ∧ ∀ x ∈ s.nx, x.2.1 < ss.length
theorem edges_from_ok (hf : P[f]? = some d_edges_from) {ss : List Sd} (h : SsOk ss) {least : Int} (q : ∀ e as M', Sub M M' → Gm M' e as (edG ss least) → as.length = ss.length → Q (.ref e) M') : wFn P (n + 1) f [SsD ss, .int least] M Q E := by
  have hN := h.few
  refine enter hf rfl ?_
  simp only [d_edges_from]
  rw [ss_cons]
  unfold SsD
  walk_at "wp"
  refine ⟨Nat.le_trans (show ss.length ≤ 1000 from hN) (by decide), cmpr_acc (fun i ys m => Sub M m ∧ ∃ as : List Nat, ys = as.map .ref ∧ as.length = i ∧ ∀ j (h : j < as.length), m as[j] = some (.lst ((edG ss least j).map fun (v : Nat) => .int (v : Int)))) (fun i ys m hI => trivial) (fun i x ys m hx hI R hR => ?_) ⟨Sub.rf M, [], rfl, rfl, fun j h => absurd h (Nat.not_lt_zero _)⟩ fun ys m hI p hp => ?_⟩
  · obtain ⟨sb, as, rfl, hl, hat⟩ := hI
    rw [List.getElem?_map] at hx
    obtain ⟨s, hs, rfl⟩ := Option.map_eq_some_iff.mp hx
    have hmem := List.mem_of_getElem? hs
    obtain ⟨h1, h2⟩ := h.nx s hmem
    unfold SdD
    walk_at "wp"
    refine ⟨Nat.le_trans h1 (by decide), cmpr_filtG (fun x => decide (least ≤ x.2.2)) nxD (fun x => .int (x.2.1 : Int)) trivial (fun x hx R hR => ?_) fun p hp => ?_⟩
    · unfold nxD
      (try walk_at "wp")
      by_cases c : least ≤ x.2.2
      · rw [if_pos c]
        rw [if_pos (decide_eq_true c)] at hR
        exact hR
      · rw [if_neg c]
        rw [if_neg (by simpa using c)] at hR
        exact hR
    · refine hR _ _ ⟨sub_new sb (sb.noneL hp), as ++ [p], by rw [List.map_append]; rfl, by rw [List.length_append, hl]; rfl, fun j hj => ?_⟩
      have eg : edG ss least i = edS least s := by unfold edG; rw [List.getD_eq_getElem?_getD, hs]; rfl
      by_cases c : j < as.length
      · rw [List.getElem_append_left c]
        have := hat j c
        rw [upd_no (ne_of_mem this hp)]; exact this
      · have : j = as.length := by rw [List.length_append] at hj; simp at hj; omega
        subst this
        rw [List.getElem_concat_length rfl, upd_at, hl, eg]
        unfold edS
        rw [List.map_map]; rfl
  · obtain ⟨sb, as, rfl, hl, hat⟩ := hI
    rw [List.length_map] at hl
    have hk : ∀ i, (edG ss least i).length ≤ 1000 ∧ ∀ v ∈ edG ss least i, v < ss.length := fun i => by
      unfold edG edS
      rcases Nat.lt_or_ge i ss.length with z | z
      · rw [List.getD_eq_getElem?_getD, List.getElem?_eq_getElem z, Option.getD_some]
        obtain ⟨h1, h2⟩ := h.nx ss[i] (List.getElem_mem z)
        refine ⟨by rw [List.length_map]; exact Nat.le_trans (List.length_filter_le _ _) h1, fun v hv => ?_⟩
        obtain ⟨x, hx, rfl⟩ := List.mem_map.mp hv
        exact h2 x (List.mem_filter.mp hx).1
      · rw [List.getD_eq_getElem?_getD, List.getElem?_eq_none z]
        exact ⟨Nat.zero_le _, fun v hv => by cases hv⟩
    refine leave (q p as _ (sub_new sb (sb.noneL hp)) ⟨upd_at, fun i hi => ?_, fun i hi => ?_, fun i v hv => by rw [hl]; exact (hk i).2 v hv, by omega, fun i => (hk i).1⟩ hl)
    · have := hat i hi
      rw [upd_no (ne_of_mem this hp)]; exact this
    · unfold edG edS
      rw [List.getD_eq_getElem?_getD, List.getElem?_eq_none (by omega)]
      rfl
/-- some round has this code as its least one -/
def BadC (ss : List Sd) (code : Int) : Prop := ∃ k, ∃ h : k < ss.length, ∃ x ∈ ss[k].nx, x.2.2 = code ∧ Gr (edG ss code) k x.2.1 ∧ Gr (edG ss code) x.2.1 k
theorem enum_Ss {ss : List Sd} {R : List D → (Env → Mem → Prop) → Prop} : wEnum (SsD ss) M R = R ((List.range ss.length).map fun (i : Nat) => .tup [.int (i : Int), SdD (ss.getD i ⟨.non, .non, []⟩)]) fun _ _ => True := by
  unfold SsD
  rw [enum_tup]
  congr 1
  refine List.ext_getElem (by simp) fun i h1 h2 => ?_
  simp at h1
  simp [List.getD, h1]
open Classical in
theorem has_bad_ok {fc fe ft ff : Nat} (hf : P[f]? = some (d_has_bad_round fc fe)) (hfc : P[fc]? = some (d_classes ft ff)) (hfe : P[fe]? = some d_edges_from) (hft : P[ft]? = some d_turned) (hff : P[ff]? = some d_forward_order) {ss : List Sd} (h : SsOk ss) {code : Int} (q : Q (.bl (decide (BadC ss code))) M) : wFn P (n + 3) f [SsD ss, .int code] M Q E := by
  have hN := h.few
  refine enter hf rfl ?_
  simp only [d_has_bad_round]
  rw [ss_cons]
  walk_at "wp"
  refine edges_from_ok hfe h fun e as M1 sb1 g hl => ?_
  (try walk_at "wp")
  refine classes_ok hfc hft hff g fun p num S hp => ?_
  have sb2 : Sub M (upd M1 p (.lst ((List.range as.length).map fun v => .int (num v : Nat)))) := sub_new sb1 (sb1.noneL hp)
  have kp : upd M1 p (.lst ((List.range as.length).map fun v => .int (num v : Nat))) p = some (.lst ((List.range as.length).map fun v => .int (num v : Nat))) := upd_at
  generalize upd M1 p (.lst ((List.range as.length).map fun v => .int (num v : Nat))) = m at sb2 kp ⊢
  rw [hl] at kp S
  (try walk_at "wp")
  rw [ss_cons]
  simp! only [enum_Ss]
  let bad : Nat → Int × Nat × Int → Prop := fun k x => x.2.2 = code ∧ num k = num x.2.1
  have hbad : ∀ k (hk : k < ss.length) x, x ∈ ss[k].nx → (bad k x ↔ x.2.2 = code ∧ Gr (edG ss code) k x.2.1 ∧ Gr (edG ss code) x.2.1 k) := fun k hk x hx => by
    have hx2 := (h.nx ss[k] (List.getElem_mem hk)).2 x hx
    exact ⟨fun z => ⟨z.1, (S.eq k x.2.1 hk hx2).mp z.2⟩, fun z => ⟨z.1, (S.eq k x.2.1 hk hx2).mpr z.2⟩⟩
  refine for_rangeT mF (fun k e' m' => m' = m ∧ (∀ i (hi : i < ss.length), i < k → ∀ x ∈ ss[i].nx, ¬ bad i x) ∧ ∃ s3 s4 s5 s6 s7, e' = [.val (SsD ss), .val (.int code), .val (.ref p), s3, s4, s5, s6, s7]) ⟨rfl, (fun i hi hk => absurd hk (Nat.not_lt_zero _)), .no, .no, .no, .no, .no, rfl⟩ (fun _ _ _ _ => trivial) (fun e' m' hI => ?_) (fun k e' m' hk hI => ?_)
  · obtain ⟨rfl, hno, s3, s4, s5, s6, s7, rfl⟩ := hI
    (try walk_at "wp")
    rw [ss_cons]
    walk_at "wp"
    rw [decide_eq_false (fun ⟨i, hi, x, hx, hb⟩ => hno i hi hi x hx ((hbad i hi x hx).mpr hb))] at q
    exact ⟨M, sb2, q⟩
  · obtain ⟨rfl, hno, s3, s4, s5, s6, s7, rfl⟩ := hI
    have es : ss.getD k ⟨.non, .non, []⟩ = ss[k] := by simp [List.getD, hk]
    rw [es]
    (try walk_at "wp")
    rw [ss_cons]
    unfold SdD
    walk_at "wp"
    refine for_idx (t := .tp [5, 6, 7]) mF (fun j e' m'' => m'' = m' ∧ (∀ x ∈ ss[k].nx.take j, ¬ bad k x) ∧ ∃ s4 s5 s6 s7, e' = [.val (SsD ss), .val (.int code), .val (.ref p), .val (.int (k : Int)), s4, s5, s6, s7]) ⟨rfl, (by simp), _, s5, s6, s7, rfl⟩ (fun _ _ _ _ => trivial) (fun e' m'' hI => ?_) (fun j x e' m'' hx hI => ?_)
    · obtain ⟨rfl, hno2, t4, t5, t6, t7, rfl⟩ := hI
      rw [List.length_map, List.take_length] at hno2
      (try walk_at "wp")
      refine ⟨fun i hi hik x hx => ?_, _, _, _, _, _, rfl⟩
      rcases Nat.lt_or_ge i k with z | z
      · exact hno i hi z x hx
      · obtain rfl : i = k := by omega
        exact hno2 x hx
    · obtain ⟨rfl, hno2, t4, t5, t6, t7, rfl⟩ := hI
      rw [List.getElem?_map] at hx
      obtain ⟨x, hxe, rfl⟩ := Option.map_eq_some_iff.mp hx
      have hxm : x ∈ ss[k].nx := List.mem_of_getElem? hxe
      have hx2 := (h.nx ss[k] (List.getElem_mem hk)).2 x hxm
      have htk : ss[k].nx.take (j + 1) = ss[k].nx.take j ++ [x] := by rw [List.take_add_one, hxe]; rfl
      have go : ¬ bad k x → ∀ y ∈ ss[k].nx.take (j + 1), ¬ bad k y := fun z y hy => by
        rw [htk] at hy
        rcases List.mem_append.mp hy with hy | hy
        · exact hno2 y hy
        · rw [List.mem_singleton.mp hy]; exact z
      unfold nxD
      (try walk_at "wp")
      rw [ss_cons]
      simp! only [kp]
      by_cases c1 : x.2.2 = code
      · rw [if_pos c1]
        refine ⟨_, atI_range hk, _, atI_range hx2, ?_⟩
        walk_at "wp"
        by_cases c2 : num k = num x.2.1
        · rw [if_pos (by omega)]
          rw [ss_cons]
          walk_at "wp"
          rw [decide_eq_true (show BadC ss code from ⟨k, hk, x, hxm, (hbad k hk x hxm).mp ⟨c1, c2⟩⟩)] at q
          exact ⟨M, sb2, q⟩
        · rw [if_neg (by omega)]
          (try walk_at "wp")
          exact ⟨go fun z => c2 z.2, _, _, _, _, rfl⟩
      · rw [if_neg c1]
        (try walk_at "wp")
        exact ⟨go fun z => c1 z.1, _, _, _, _, rfl⟩
def d__law_goes : Fn := { name := "_law_goes", arity := 4, slots := ["stands", "source", "goal", "least", "met", "queue", "at", "here", "move", "target", "code", "stand"], body :=
  [(.asgN 4 (.comp (.cst (.bl false)) (.nm 11) (.dyn (.var 0)) none)),
    (.set 4 (.var 1) (.cst (.bl true))),
    (.asgN 5 (.disp (.cons (.var 1) .nil))),
    (.asg (.nm 6) (.cst (.int 0))),
    (.whl (.v (.cmp .lt (.var 6) (.lk .len (.own 5)))) [(.asg (.nm 7) (.lidx (.own 5) (.var 6))),
    (.aug 6 .add (.cst (.int 1))),
    (.for_ (.tp [8, 9, 10]) (.dyn (.idx (.idx (.var 0) (.var 7)) (.cst (.int 2)))) [(.ite (.and (.v (.cmp .ge (.var 10) (.var 3))) (.not (.v (.lidx (.own 4) (.var 9))))) [(.set 4 (.var 9) (.cst (.bl true))),
    (.app 5 (.var 9))] [])])]),
    (.ret (.lidx (.own 4) (.var 2)))] }
theorem gr_in {G : Nat → List Nat} {B : List Nat} (hc : ∀ x ∈ B, ∀ w ∈ G x, w ∈ B) {x y : Nat} (h : Gr G x y) (hx : x ∈ B) : y ∈ B := by
  obtain ⟨p, hp⟩ := h
  induction hp with
  | one x => exact hx
  | cons h t ih => exact ih (hc _ hx _ h)
open Classical in
theorem goes_ok (hf : P[f]? = some d__law_goes) {ss : List Sd} (h : SsOk ss) {src goal : Nat} (hs : src < ss.length) (hg : goal < ss.length) {least : Int} (q : Q (.bl (decide (Gr (edG ss least) src goal))) M) : wFn P (n + 1) f [SsD ss, .int (src : Int), .int (goal : Int), .int least] M Q E := by
  have hN := h.few
  refine enter hf rfl ?_
  simp only [d__law_goes]
  rw [ss_cons]
  unfold SsD
  walk_at "wp"
  refine ⟨Nat.le_trans (show ss.length ≤ 1000 from hN) (by decide), cmpr_mapG SdD (fun _ => .bl false) trivial (fun x hx R hR => hR) fun p4 hp4 => ?_⟩
  rw [show (ss.map fun _ => D.bl false) = mtL ss.length [] by
    unfold mtL
    rw [List.map_const', List.map_congr_left (g := fun _ => D.bl false) (fun v _ => by simp), List.map_const', List.length_range]]
  rw [ss_cons]
  walk_at "wp"
  refine ⟨src, ixN_cast (by rw [mt_len]; exact hs), ?_⟩
  rw [mt_set (S' := [src]) (fun v => by simp)]
  rw [ss_cons]
  walk_at "wp"
  refine ⟨by decide, fun p5 hp5 => ?_⟩
  rw [ss_cons]
  walk_at "wp"
  rw [ss_cons]
  refine whl_at mF (fun a e m => m = M ∧ ∃ B : List Nat, src ∈ B ∧ B.Nodup ∧ (∀ x ∈ B, Gr (edG ss least) src x ∧ x < ss.length) ∧ (∀ i x, i < a → B[i]? = some x → ∀ w ∈ edG ss least x, w ∈ B) ∧ a ≤ B.length ∧ ∃ s7 s8 s9 s10, e = [.val (.tup (ss.map SdD)), .val (.int (src : Int)), .val (.int (goal : Int)), .val (.int least), .own p4 (.lst (mtL ss.length B)), .own p5 (.lst (B.map fun (v : Nat) => .int (v : Int))), .val (.int (a : Int)), s7, s8, s9, s10, .no]) ss.length ⟨rfl, [src], by simp, by simp, (fun x hx => by rw [List.mem_singleton.mp hx]; exact ⟨Gr.rf, hs⟩), (fun i x hi => absurd hi (Nat.not_lt_zero _)), Nat.zero_le _, .no, .no, .no, .no, rfl⟩ (fun a e m hI => ?_) fun a e m hI => ?_
  · obtain ⟨_, B, _, hnd, hB, _, ha, _⟩ := hI
    exact Nat.le_trans ha (nodup_few hnd fun x hx => (hB x hx).2)
  · obtain ⟨rfl, B, hsB, hnd, hB, hcl, ha, s7, s8, s9, s10, rfl⟩ := hI
    walk_at "wp"
    by_cases c : (a : Int) < (B.length : Int)
    · rw [if_pos c]
      have hab : a < B.length := by omega
      have hyB : B[a] ∈ B := List.getElem_mem hab
      obtain ⟨hy1, hy2⟩ := hB _ hyB
      rw [ss_cons]
      walk_at "wp"
      refine ⟨_, atI_cast (show _ = some (D.int (B[a] : Nat)) by simp [hab]), ?_⟩
      rw [ss_cons]
      walk_at "wp"
      rw [ss_cons]
      walk_at "wp"
      obtain ⟨y, hy⟩ : ∃ y, y = B[a] := ⟨_, rfl⟩
      have hBa : B[a]? = some y := by rw [hy]; exact List.getElem?_eq_getElem hab
      rw [← hy] at hyB hy1 hy2 ⊢
      refine ⟨SdD ss[y], atI_cast (by simp [hy2]), ?_⟩
      unfold SdD
      walk_at "wp"
      have edE : edG ss least y = edS least ss[y] := by unfold edG; rw [List.getD_eq_getElem?_getD, List.getElem?_eq_getElem hy2]; rfl
      rw [show (a : Int) + 1 = ((a + 1 : Nat) : Int) by omega]
      refine for_idx (t := .tp [8, 9, 10]) mF (fun j e m' => m' = m ∧ ∃ B : List Nat, src ∈ B ∧ B.Nodup ∧ (∀ x ∈ B, Gr (edG ss least) src x ∧ x < ss.length) ∧ (∀ i x, i < a → B[i]? = some x → ∀ w ∈ edG ss least x, w ∈ B) ∧ B[a]? = some y ∧ (∀ x ∈ ss[y].nx.take j, least ≤ x.2.2 → x.2.1 ∈ B) ∧ ∃ s8 s9 s10, e = [.val (.tup (ss.map fun s => .tup [s.pl, s.tr, .tup (s.nx.map nxD)])), .val (.int (src : Int)), .val (.int (goal : Int)), .val (.int least), .own p4 (.lst (mtL ss.length B)), .own p5 (.lst (B.map fun (v : Nat) => .int (v : Int))), .val (.int ((a + 1 : Nat) : Int)), .val (.int (y : Int)), s8, s9, s10, .no]) ⟨rfl, B, hsB, hnd, hB, hcl, hBa, (by simp), s8, s9, s10, rfl⟩ (fun _ _ _ _ => trivial) (fun e m' hI => ?_) (fun j x e m' hx hI => ?_)
      · obtain ⟨rfl, B, hsB, hnd, hB, hcl, hBa, hj, t8, t9, t10, rfl⟩ := hI
        rw [List.length_map, List.take_length] at hj
        (try walk_at "wp")
        refine ⟨B, hsB, hnd, hB, fun i x hi hx w hw => ?_, (List.getElem?_eq_some_iff.mp hBa).1, .val (.int (y : Int)), t8, t9, t10, rfl⟩
        rcases Nat.lt_or_ge i a with z | z
        · exact hcl i x z hx w hw
        · obtain rfl : i = a := by omega
          have : some x = some y := hx.symm.trans hBa
          cases this
          rw [edE] at hw
          obtain ⟨u, hu, rfl⟩ := List.mem_map.mp hw
          obtain ⟨h1, h2⟩ := List.mem_filter.mp hu
          exact hj u h1 (of_decide_eq_true h2)
      · obtain ⟨rfl, B, hsB, hnd, hB, hcl, hBa, hj, t8, t9, t10, rfl⟩ := hI
        rw [List.getElem?_map] at hx
        obtain ⟨u, hu, rfl⟩ := Option.map_eq_some_iff.mp hx
        have hum : u ∈ ss[y].nx := List.mem_of_getElem? hu
        have hu2 := (h.nx ss[y] (List.getElem_mem hy2)).2 u hum
        have htk : ss[y].nx.take (j + 1) = ss[y].nx.take j ++ [u] := by rw [List.take_add_one, hu]; rfl
        unfold nxD
        (try walk_at "wp")
        rw [ss_cons]
        walk_at "wp"
        have ext : ∀ B : List Nat, (∀ x ∈ ss[y].nx.take j, least ≤ x.2.2 → x.2.1 ∈ B) → (least ≤ u.2.2 → u.2.1 ∈ B) → ∀ x ∈ ss[y].nx.take (j + 1), least ≤ x.2.2 → x.2.1 ∈ B := fun B h1 h2 x hx hl => by
          rw [htk] at hx
          rcases List.mem_append.mp hx with hx | hx
          · exact h1 x hx hl
          · rw [List.mem_singleton.mp hx] at hl ⊢; exact h2 hl
        by_cases cl : least ≤ u.2.2
        · rw [if_pos cl]
          refine ⟨_, mt_at hu2, ?_⟩
          walk_at "wp"
          by_cases cb : u.2.1 ∈ B
          · rw [decide_eq_true cb, if_neg (by decide)]
            (try walk_at "wp")
            exact ⟨B, hsB, hnd, hB, hcl, hBa, ext B hj fun _ => cb, _, _, _, rfl⟩
          · rw [decide_eq_false cb, if_pos (by decide)]
            rw [ss_cons]
            walk_at "wp"
            refine ⟨u.2.1, ixN_cast (by rw [mt_len]; exact hu2), ?_⟩
            rw [mt_set (S' := B ++ [u.2.1]) (fun v => by simp [or_comm])]
            rw [ss_cons]
            walk_at "wp"
            have hBl := nodup_few hnd fun x hx => (hB x hx).2
            have hab2 : a < B.length := (List.getElem?_eq_some_iff.mp hBa).1
            refine ⟨Nat.lt_of_le_of_lt (show B.length ≤ 1000 by omega) (by decide), B ++ [u.2.1], List.mem_append_left _ hsB, ?_, fun x hx => ?_, fun i x hi hx w hw => ?_, by rw [List.getElem?_append_left hab2]; exact hBa, ext _ (fun x hx hl => List.mem_append_left _ (hj x hx hl)) fun _ => List.mem_append_right _ List.mem_cons_self, .val (.int u.1), .val (.int (u.2.1 : Int)), .val (.int u.2.2), ?_⟩
            · rw [List.nodup_append]
              exact ⟨hnd, by simp, fun a ha b hb => by rw [List.mem_singleton.mp hb]; exact fun z => cb (z ▸ ha)⟩
            · rcases List.mem_append.mp hx with hx | hx
              · exact hB x hx
              · rw [List.mem_singleton.mp hx]
                refine ⟨hy1.trans (Gr.step ?_ Gr.rf), hu2⟩
                rw [edE]
                exact List.mem_map.mpr ⟨u, List.mem_filter.mpr ⟨hum, decide_eq_true cl⟩, rfl⟩
            · rw [List.getElem?_append_left (by omega)] at hx
              exact List.mem_append_left _ (hcl i x hi hx w hw)
            · rw [List.map_append (l₂ := [u.2.1])]; rfl
        · rw [if_neg cl]
          (try walk_at "wp")
          exact ⟨B, hsB, hnd, hB, hcl, hBa, ext B hj fun z => absurd z cl, _, _, _, rfl⟩
    · rw [if_neg c]
      (try walk_at "wp")
      rw [ss_cons]
      walk_at "wp"
      refine ⟨_, mt_at hg, ?_⟩
      have hall : ∀ x ∈ B, ∀ w ∈ edG ss least x, w ∈ B := fun x hx w hw => by
        obtain ⟨i, hi, rfl⟩ := List.getElem_of_mem hx
        exact hcl i _ (by omega) (List.getElem?_eq_getElem hi) w hw
      have e1 : decide (goal ∈ B) = decide (Gr (edG ss least) src goal) := decide_eq_decide.mpr ⟨fun z => (hB goal z).1, fun z => gr_in hall z hsB⟩
      rw [e1]
      exact leave q
def d__law_worst (f__law_goes : Nat) : Fn := { name := "_law_worst", arity := 1, slots := ["stands", "best", "k", "move", "target", "code"], body :=
  [(.asg (.nm 1) (.cst .non)),
    (.for_ (.nm 2) (.range (.blt .len (.cons (.var 0) .nil))) [(.for_ (.tp [3, 4, 5]) (.dyn (.idx (.idx (.var 0) (.var 2)) (.cst (.int 2)))) [(.ite (.and (.v (.cmp .eq (.bin .mod (.blt .int (.cons (.var 5) .nil)) (.cst (.int 2))) (.cst (.int 0)))) (.and (.or (.v (.cmp .isN (.var 1) (.cst .non))) (.v (.cmp .lt (.var 5) (.var 1)))) (.v (.call f__law_goes (.cons (.var 0) (.cons (.var 4) (.cons (.var 2) (.cons (.var 5) .nil)))))))) [(.asg (.nm 1) (.var 5))] [])])]),
    (.ret (.var 1))] }
/-- a step with an even code whose round has no lesser code -/
def GoodP (ss : List Sd) (k : Nat) (x : Int × Nat × Int) : Prop := x.2.2 % 2 = 0 ∧ Gr (edG ss x.2.2) x.2.1 k
structure BestOf (ss : List Sd) (S : Nat → Int × Nat × Int → Prop) (best : Option Int) : Prop where
  no : best = Option.none → ∀ k x, S k x → ¬ GoodP ss k x
  yes : ∀ c, best = some c → (∃ k x, S k x ∧ GoodP ss k x ∧ x.2.2 = c) ∧ ∀ k x, S k x → GoodP ss k x → c ≤ x.2.2
def optD : Option Int → D
  | Option.none => .non
  | some c => .int c
theorem BestOf.same {ss : List Sd} {S S' : Nat → Int × Nat × Int → Prop} {best : Option Int} (B : BestOf ss S best) (e : ∀ k x, S' k x ↔ S k x) : BestOf ss S' best :=
  ⟨fun h k x hs => B.no h k x ((e k x).mp hs), fun c h => by
    obtain ⟨⟨k, x, h1, h2⟩, h3⟩ := B.yes c h
    exact ⟨⟨k, x, (e k x).mpr h1, h2⟩, fun k x hs => h3 k x ((e k x).mp hs)⟩⟩
/-- one step more that changes nothing -/
theorem BestOf.skip {ss : List Sd} {S : Nat → Int × Nat × Int → Prop} {best : Option Int} (B : BestOf ss S best) {k : Nat} {u : Int × Nat × Int} (h : ¬ GoodP ss k u ∨ ∃ c, best = some c ∧ c ≤ u.2.2) : BestOf ss (fun i x => S i x ∨ (i = k ∧ x = u)) best := by
  refine ⟨fun hn i x hs => ?_, fun c hc => ?_⟩
  · rcases hs with hs | ⟨rfl, rfl⟩
    · exact B.no hn i x hs
    · rcases h with h | ⟨c, hc, _⟩
      · exact h
      · rw [hn] at hc; cases hc
  · obtain ⟨⟨i, x, h1, h2⟩, h3⟩ := B.yes c hc
    refine ⟨⟨i, x, .inl h1, h2⟩, fun i x hs hg => ?_⟩
    rcases hs with hs | ⟨rfl, rfl⟩
    · exact h3 i x hs hg
    · rcases h with h | ⟨c', hc', hle⟩
      · exact absurd hg h
      · rw [hc] at hc'; cases hc'; exact hle
/-- one step more that is the least now -/
theorem BestOf.take {ss : List Sd} {S : Nat → Int × Nat × Int → Prop} {best : Option Int} (B : BestOf ss S best) {k : Nat} {u : Int × Nat × Int} (hg : GoodP ss k u) (h : ∀ c, best = some c → u.2.2 < c) : BestOf ss (fun i x => S i x ∨ (i = k ∧ x = u)) (some u.2.2) := by
  refine ⟨(fun hn => by cases hn), fun c hc => ?_⟩
  cases hc
  refine ⟨⟨k, u, .inr ⟨rfl, rfl⟩, hg, rfl⟩, fun i x hs hx => ?_⟩
  rcases hs with hs | ⟨rfl, rfl⟩
  · cases hb : best with
    | none => exact absurd hx (B.no hb i x hs)
    | some c => have := (B.yes c hb).2 i x hs hx; have := h c hb; omega
  · exact Int.le_refl _
theorem worst_ok {fg : Nat} (hf : P[f]? = some (d__law_worst fg)) (hfg : P[fg]? = some d__law_goes) {ss : List Sd} (h : SsOk ss) (q : ∀ best, BestOf ss (fun i x => ∃ hi : i < ss.length, x ∈ ss[i].nx) best → Q (optD best) M) : wFn P (n + 2) f [SsD ss] M Q E := by
  have hN := h.few
  have eS : SsD ss = .tup (ss.map SdD) := rfl
  refine enter hf rfl ?_
  simp only [d__law_worst]
  rw [ss_cons]
  walk_at "wp"
  rw [ss_cons]
  rw [eS]
  walk_at "wp"
  refine ⟨by omega, by omega, ?_⟩
  refine for_range mF (fun k e m => m = M ∧ k ≤ ss.length ∧ ∃ best, BestOf ss (fun i x => i < k ∧ ∃ hi : i < ss.length, x ∈ ss[i].nx) best ∧ ∃ s2 s3 s4 s5, e = [.val (.tup (ss.map SdD)), .val (optD best), s2, s3, s4, s5]) ⟨rfl, Nat.zero_le _, Option.none, ⟨fun _ i x hs => absurd hs.1 (Nat.not_lt_zero _), (fun c hc => by cases hc)⟩, .no, .no, .no, .no, rfl⟩ (fun _ _ _ _ => trivial) (fun e m hI => ?_) (fun k e m hk hI => ?_)
  · obtain ⟨rfl, _, best, B, s2, s3, s4, s5, rfl⟩ := hI
    (try walk_at "wp")
    rw [ss_cons]
    walk_at "wp"
    exact leave (q best (B.same fun i x => ⟨fun ⟨hi, hx⟩ => ⟨by simpa using hi, hi, hx⟩, fun z => z.2⟩))
  · obtain ⟨rfl, _, best, B, s2, s3, s4, s5, rfl⟩ := hI
    have hk : k < ss.length := by simpa using hk
    (try walk_at "wp")
    rw [ss_cons]
    walk_at "wp"
    refine ⟨SdD ss[k], atI_cast (by simp [hk]), ?_⟩
    simp only [SdD, wS, wE, wEs, wO, wAs, wL, wN, wI, wT, wTs, setAll, Tg.slots, wipeE, cmp_eq_int, cmp_ne_int, cmp_eq_str, cmp_ne_str, cmp_eq_tup, cmp_ne_tup, cmp_eq_bl, cmp_lt, cmp_le, cmp_gt, cmp_ge, Kt0_rt, Kt0_nx, List.getElem?_cons_zero, List.getElem?_cons_succ, List.set_cons_zero, List.set_cons_succ, Option.some.injEq, Slot.val.injEq, Slot.own.injEq, MO.lst.injEq, D.int.injEq, D.ref.injEq, D.bl.injEq, D.tup.injEq, D.str.injEq, exists_eq_left', exists_eq_left, exists_and_left, exists_and_right, and_assoc, true_and, and_true, atI_0, atI_1, atI_2, atI_3, atI_4, backs, drps, List.map_cons, List.map_nil, List.length_cons, List.length_nil, List.cons_append, List.nil_append, List.replicate, Nat.reduceAdd, Nat.reduceSub, decide_eq_true_eq, upd_at, aug_add_int, aug_sub_int, aug_mul_int, aug_add_str, ixN5_1, ixN5_2, ixN5_3, Int.toNat_natCast, List.length_map, List.length_range, tg_nm, tg_tp, tru_non, tru_bl, tru_int, tru_str, tru_tup, tru_ref, bin_add_int, bin_add_str, bin_add_tup, bin_sub, bin_mul, bin_fdiv, bin_mod, bin_pow, bin_shl, bin_shr, bin_band, bin_bor, idx_tup, idx_ref, idx_str, blt_len_tup, blt_len_str, blt_len_ref, blt_int_int, blt_int_bl, blt_bool_bl, blt_bool_int, blt_abs, blt_max2, blt_max3, blt_min2, blt_tuple_tup, blt_tuple_ref, blt_isa_non, blt_isa_bl, blt_isa_int, blt_isa_str, blt_isa_tup, isa_int_int, isa_int_bool, isa_bl_bool, isa_tup, isa_str, lk_tuple, lk_len, lk_all, lk_any, lk_sum, it_tup, it_rl, it_ref, zip_tup, enum_tup, enum_ref, eq_self_iff_true, if_true, Bool.false_eq_true, if_false, reduceIte, ss_nil, rev_tup, rev_ref, ty_split, ty_join, ty_append, ty_pop, ty_popAt, ty_reverse, ty_extend, ty_insert, mth_append, mth_pop, mth_popAt, mth_reverse, mth_extend, mth_insert, mth_split, mth_join, cmp_eq_ref, cmp_ne_ref, slc_tup, slc_str, slc_ref, lk_max, lk_min, cmp_lt_str, cmp_is_bl, cmp_not_bl, cmp_is_non, cmp_not_non, cmp_is_tup, cmp_not_tup, cmp_is_int, cmp_not_int, blt_str, blt_maxt, blt_mint, tg_np]
    refine for_idx (t := .tp [3, 4, 5]) mF (fun j e m' => m' = m ∧ ∃ best, BestOf ss (fun i x => (i < k ∧ ∃ hi : i < ss.length, x ∈ ss[i].nx) ∨ (i = k ∧ x ∈ ss[k].nx.take j)) best ∧ ∃ s3 s4 s5, e = [.val (SsD ss), .val (optD best), .val (.int (k : Int)), s3, s4, s5]) ⟨rfl, best, B.same fun i x => by simp, s3, s4, s5, rfl⟩ (fun _ _ _ _ => trivial) (fun e m' hI => ?_) (fun j x e m' hx hI => ?_)
    · obtain ⟨rfl, best, B, t3, t4, t5, rfl⟩ := hI
      rw [List.length_map, List.take_length] at B
      (try walk_at "wp")
      refine ⟨hk, best, B.same fun i x => ⟨fun ⟨h1, hi, hx⟩ => ?_, fun z => ?_⟩, .val (.int (k : Int)), t3, t4, t5, rfl⟩
      · rcases Nat.lt_or_ge i k with z | z
        · exact .inl ⟨z, hi, hx⟩
        · obtain rfl : i = k := by omega
          exact .inr ⟨rfl, hx⟩
      · rcases z with ⟨h1, h2⟩ | ⟨rfl, h2⟩
        · exact ⟨by omega, h2⟩
        · exact ⟨by omega, hk, h2⟩
    · obtain ⟨rfl, best, B, t3, t4, t5, rfl⟩ := hI
      rw [List.getElem?_map] at hx
      obtain ⟨u, hu, rfl⟩ := Option.map_eq_some_iff.mp hx
      have hum : u ∈ ss[k].nx := List.mem_of_getElem? hu
      have hu2 := (h.nx ss[k] (List.getElem_mem hk)).2 u hum
      have htk : ss[k].nx.take (j + 1) = ss[k].nx.take j ++ [u] := by rw [List.take_add_one, hu]; rfl
      have ext : ∀ i x, ((i < k ∧ ∃ hi : i < ss.length, x ∈ ss[i].nx) ∨ (i = k ∧ x ∈ ss[k].nx.take (j + 1))) ↔ (((i < k ∧ ∃ hi : i < ss.length, x ∈ ss[i].nx) ∨ (i = k ∧ x ∈ ss[k].nx.take j)) ∨ (i = k ∧ x = u)) := fun i x => by
        rw [htk, List.mem_append, List.mem_singleton]
        constructor
        · rintro (z | ⟨z1, z2 | z2⟩)
          · exact .inl (.inl z)
          · exact .inl (.inr ⟨z1, z2⟩)
          · exact .inr ⟨z1, z2⟩
        · rintro ((z | ⟨z1, z2⟩) | ⟨z1, z2⟩)
          · exact .inl z
          · exact .inr ⟨z1, .inl z2⟩
          · exact .inr ⟨z1, .inr z2⟩
      unfold nxD
      (try walk_at "wp")
      rw [ss_cons]
      walk_at "wp"
      refine ⟨by decide, ?_⟩
      by_cases ce : u.2.2 % 2 = 0
      · rw [if_pos ce]
        cases best with
        | none =>
          show wCmp .isN .non .non m' _
          rw [cmp_is_non]
          rw [if_pos rfl]
          refine goes_ok hfg h hu2 hk ?_
          walk_at "wp"
          by_cases cg : Gr (edG ss u.2.2) u.2.1 k
          · rw [if_pos (by simpa using cg)]
            rw [ss_cons]
            walk_at "wp"
            exact ⟨some u.2.2, (B.take ⟨ce, cg⟩ fun c hc => by cases hc).same ext, _, _, _, rfl⟩
          · rw [if_neg (by simpa using cg)]
            (try walk_at "wp")
            exact ⟨Option.none, (B.skip (.inl fun z => cg z.2)).same ext, _, _, _, rfl⟩
        | some c =>
          show wCmp .isN (.int c) .non m' _
          rw [cmp_is_int]
          rw [if_neg (by decide)]
          show wCmp .lt (.int u.2.2) (.int c) m' _
          walk_at "wp"
          by_cases cc : u.2.2 < c
          · rw [if_pos cc]
            refine goes_ok hfg h hu2 hk ?_
            walk_at "wp"
            by_cases cg : Gr (edG ss u.2.2) u.2.1 k
            · rw [if_pos (by simpa using cg)]
              rw [ss_cons]
              walk_at "wp"
              exact ⟨some u.2.2, (B.take ⟨ce, cg⟩ fun c' hc => by cases hc; exact cc).same ext, _, _, _, rfl⟩
            · rw [if_neg (by simpa using cg)]
              (try walk_at "wp")
              exact ⟨some c, (B.skip (.inl fun z => cg z.2)).same ext, _, _, _, rfl⟩
          · rw [if_neg cc]
            (try walk_at "wp")
            exact ⟨some c, (B.skip (.inr ⟨c, rfl, by omega⟩)).same ext, _, _, _, rfl⟩
      · rw [if_neg ce]
        (try walk_at "wp")
        exact ⟨best, (B.skip (.inl fun z => ce z.1)).same ext, _, _, _, rfl⟩
theorem badC_iff {ss : List Sd} {c : Int} : BadC ss c ↔ ∃ k, ∃ h : k < ss.length, ∃ x ∈ ss[k].nx, x.2.2 = c ∧ Gr (edG ss c) x.2.1 k := by
  constructor
  · rintro ⟨k, h, x, h1, h2, _, h4⟩
    exact ⟨k, h, x, h1, h2, h4⟩
  · rintro ⟨k, h, x, h1, h2, h4⟩
    refine ⟨k, h, x, h1, h2, Gr.step ?_ Gr.rf, h4⟩
    have : edG ss c k = edS c ss[k] := by unfold edG; rw [List.getD_eq_getElem?_getD, List.getElem?_eq_getElem h]; rfl
    rw [this]
    exact List.mem_map.mpr ⟨x, List.mem_filter.mpr ⟨h1, decide_eq_true (by omega)⟩, rfl⟩
/-- what the law tells: the least even code of a bad round -/
structure LeastBad (ss : List Sd) (best : Option Int) : Prop where
  no : best = Option.none → ∀ c, c % 2 = 0 → ¬ BadC ss c
  yes : ∀ c, best = some c → c % 2 = 0 ∧ BadC ss c ∧ ∀ c', c' % 2 = 0 → BadC ss c' → c ≤ c'
theorem LeastBad.of {ss : List Sd} {best : Option Int} (B : BestOf ss (fun i x => ∃ hi : i < ss.length, x ∈ ss[i].nx) best) : LeastBad ss best := by
  refine ⟨fun hn c hc hb => ?_, fun c hc => ?_⟩
  · obtain ⟨k, h, x, h1, rfl, h3⟩ := badC_iff.mp hb
    exact B.no hn k x ⟨h, h1⟩ ⟨hc, h3⟩
  · obtain ⟨⟨k, x, ⟨h, h1⟩, ⟨h2, h3⟩, rfl⟩, hall⟩ := B.yes c hc
    refine ⟨h2, badC_iff.mpr ⟨k, h, x, h1, rfl, h3⟩, fun c' hc' hb => ?_⟩
    obtain ⟨k', h', x', g1, rfl, g3⟩ := badC_iff.mp hb
    exact hall k' x' ⟨h', g1⟩ ⟨hc', g3⟩
theorem LeastBad.uniq {ss : List Sd} {a b : Option Int} (A : LeastBad ss a) (B : LeastBad ss b) : a = b := by
  cases ha : a with
  | none =>
    cases hb : b with
    | none => rfl
    | some c =>
      obtain ⟨h1, h2, _⟩ := B.yes c hb
      exact absurd h2 (A.no ha c h1)
  | some c =>
    cases hb : b with
    | none =>
      obtain ⟨h1, h2, _⟩ := A.yes c ha
      exact absurd h2 (B.no hb c h1)
    | some c' =>
      obtain ⟨h1, h2, h3⟩ := A.yes c ha
      obtain ⟨g1, g2, g3⟩ := B.yes c' hb
      have := h3 c' g1 g2
      have := g3 c h1 h2
      rw [show c = c' by omega]
end DL
/-! The least even code of a bad round: bad_code. -/
namespace DL
local macro_rules | `(tactic| walk_at "wp") => `(tactic| simp only [wS, wE, wEs, wO, wAs, wL, wN, wI, wT, wTs, setAll, Tg.slots, wipeE, cmp_eq_int, cmp_ne_int, cmp_eq_str, cmp_ne_str, cmp_eq_tup, cmp_ne_tup, cmp_eq_bl, cmp_lt, cmp_le, cmp_gt, cmp_ge, Kt0_rt, Kt0_nx, List.getElem?_cons_zero, List.getElem?_cons_succ, List.set_cons_zero, List.set_cons_succ, Option.some.injEq, Slot.val.injEq, Slot.own.injEq, MO.lst.injEq, D.int.injEq, D.ref.injEq, D.bl.injEq, D.tup.injEq, D.str.injEq, exists_eq_left', exists_eq_left, exists_and_left, exists_and_right, and_assoc, true_and, and_true, atI_0, atI_1, atI_2, atI_3, atI_4, backs, drps, List.map_cons, List.map_nil, List.length_cons, List.length_nil, List.cons_append, List.nil_append, List.replicate, Nat.reduceAdd, Nat.reduceSub, decide_eq_true_eq, upd_at, aug_add_int, aug_sub_int, aug_mul_int, aug_add_str, ixN5_1, ixN5_2, ixN5_3, Int.toNat_natCast, List.length_map, List.length_range, tg_nm, tg_tp, tru_non, tru_bl, tru_int, tru_str, tru_tup, tru_ref, bin_add_int, bin_add_str, bin_add_tup, bin_sub, bin_mul, bin_fdiv, bin_mod, bin_pow, bin_shl, bin_shr, bin_band, bin_bor, idx_tup, idx_ref, idx_str, blt_len_tup, blt_len_str, blt_len_ref, blt_int_int, blt_int_bl, blt_bool_bl, blt_bool_int, blt_abs, blt_max2, blt_max3, blt_min2, blt_tuple_tup, blt_tuple_ref, blt_isa_non, blt_isa_bl, blt_isa_int, blt_isa_str, blt_isa_tup, isa_int_int, isa_int_bool, isa_bl_bool, isa_tup, isa_str, lk_tuple, lk_len, lk_all, lk_any, lk_sum, it_tup, it_rl, it_ref, zip_tup, enum_tup, enum_ref, eq_self_iff_true, if_true, Bool.false_eq_true, if_false, reduceIte, ss_nil, rev_tup, rev_ref, ty_split, ty_join, ty_append, ty_pop, ty_popAt, ty_reverse, ty_extend, ty_insert, mth_append, mth_pop, mth_popAt, mth_reverse, mth_extend, mth_insert, mth_split, mth_join, cmp_eq_ref, cmp_ne_ref, slc_tup, slc_str, slc_ref, lk_max, lk_min, cmp_lt_str, cmp_is_bl, cmp_not_bl, cmp_is_non, cmp_not_non, cmp_is_tup, cmp_not_tup, cmp_is_int, cmp_not_int, blt_str, blt_maxt, blt_mint, tg_np])
local macro_rules | `(tactic| simp! only [$xs:simpLemma,*]) => `(tactic| simp only [wS, wE, wEs, wO, wAs, wL, wN, wI, wT, wTs, setAll, Tg.slots, wipeE, cmp_eq_int, cmp_ne_int, cmp_eq_str, cmp_ne_str, cmp_eq_tup, cmp_ne_tup, cmp_eq_bl, cmp_lt, cmp_le, cmp_gt, cmp_ge, Kt0_rt, Kt0_nx, List.getElem?_cons_zero, List.getElem?_cons_succ, List.set_cons_zero, List.set_cons_succ, Option.some.injEq, Slot.val.injEq, Slot.own.injEq, MO.lst.injEq, D.int.injEq, D.ref.injEq, D.bl.injEq, D.tup.injEq, D.str.injEq, exists_eq_left', exists_eq_left, exists_and_left, exists_and_right, and_assoc, true_and, and_true, atI_0, atI_1, atI_2, atI_3, atI_4, backs, drps, List.map_cons, List.map_nil, List.length_cons, List.length_nil, List.cons_append, List.nil_append, List.replicate, Nat.reduceAdd, Nat.reduceSub, decide_eq_true_eq, upd_at, aug_add_int, aug_sub_int, aug_mul_int, aug_add_str, ixN5_1, ixN5_2, ixN5_3, Int.toNat_natCast, List.length_map, List.length_range, tg_nm, tg_tp, tru_non, tru_bl, tru_int, tru_str, tru_tup, tru_ref, bin_add_int, bin_add_str, bin_add_tup, bin_sub, bin_mul, bin_fdiv, bin_mod, bin_pow, bin_shl, bin_shr, bin_band, bin_bor, idx_tup, idx_ref, idx_str, blt_len_tup, blt_len_str, blt_len_ref, blt_int_int, blt_int_bl, blt_bool_bl, blt_bool_int, blt_abs, blt_max2, blt_max3, blt_min2, blt_tuple_tup, blt_tuple_ref, blt_isa_non, blt_isa_bl, blt_isa_int, blt_isa_str, blt_isa_tup, isa_int_int, isa_int_bool, isa_bl_bool, isa_tup, isa_str, lk_tuple, lk_len, lk_all, lk_any, lk_sum, it_tup, it_rl, it_ref, zip_tup, enum_tup, enum_ref, eq_self_iff_true, if_true, Bool.false_eq_true, if_false, reduceIte, ss_nil, rev_tup, rev_ref, ty_split, ty_join, ty_append, ty_pop, ty_popAt, ty_reverse, ty_extend, ty_insert, mth_append, mth_pop, mth_popAt, mth_reverse, mth_extend, mth_insert, mth_split, mth_join, cmp_eq_ref, cmp_ne_ref, slc_tup, slc_str, slc_ref, lk_max, lk_min, cmp_lt_str, cmp_is_bl, cmp_not_bl, cmp_is_non, cmp_not_non, cmp_is_tup, cmp_not_tup, cmp_is_int, cmp_not_int, blt_str, blt_maxt, blt_mint, tg_np, $xs,*])
open PySem
def d_bad_code (f_has_bad_round : Nat) : Fn := { name := "bad_code", arity := 1, slots := ["stands", "codes", "code", "stand", "move", "target"], body :=
  [(.asg (.nm 1) (.srtSet (.var 2) (.nm 3) (.dyn (.var 0)) (.tp [4, 5, 2]) (.dyn (.idx (.var 3) (.cst (.int 2)))))),
    (.for_ (.nm 2) (.dyn (.var 1)) [(.ite (.and (.v (.cmp .eq (.bin .band (.var 2) (.cst (.int 1))) (.cst (.int 0)))) (.v (.call f_has_bad_round (.cons (.var 0) (.cons (.var 2) .nil))))) [(.ret (.var 2))] [])]),
    (.ret (.cst .non))] }
variable {P : List Fn} {n f : Nat} {M : Mem} {Q : QE} {E : QX}
theorem cmp2_mapA {α : Type} {ok : Mem → Prop} {el : Nat → D → Mem → (List D → Mem → Prop) → Prop} {u : α → D} {v : α → List D} (ho : ok M) : ∀ {l : List α} {n : Nat} {Q : QL}, (∀ i ∈ l, ∀ n, ∀ R : List D → Mem → Prop, R (v i) M → el n (u i) M R) → Q (l.flatMap v) M → wCmp2 ok el n (l.map u) M Q
  | [], n, Q, h, q => ⟨ho, q⟩
  | x :: l, n, Q, h, q => ⟨ho, h x List.mem_cons_self n _ (cmp2_mapA ho (fun i hi => h i (List.mem_cons_of_mem _ hi)) (by rw [List.flatMap_cons] at q; exact q))⟩
/-- all codes are small -/
def CodesOk (ss : List Sd) : Prop := ∀ s ∈ ss, ∀ x ∈ s.nx, 0 ≤ x.2.2 ∧ x.2.2 < 63
theorem bad_code_ok {fh fc fe ft ff : Nat} (hf : P[f]? = some (d_bad_code fh)) (hfh : P[fh]? = some (d_has_bad_round fc fe)) (hfc : P[fc]? = some (d_classes ft ff)) (hfe : P[fe]? = some d_edges_from) (hft : P[ft]? = some d_turned) (hff : P[ff]? = some d_forward_order)
    {ss : List Sd} (h : SsOk ss) (hc : CodesOk ss) (q : ∀ best, LeastBad ss best → Q (optD best) M) : wFn P (n + 4) f [SsD ss] M Q E := by
  refine enter hf rfl ?_
  simp only [d_bad_code]
  rw [ss_cons]
  rw [show SsD ss = .tup (ss.map SdD) from rfl]
  walk_at "wp"
  refine cmp2_mapA (v := fun s => s.nx.map fun x => D.int x.2.2) trivial (fun s hs n R hR => ?_) fun ns hns hmem p hp => ?_
  · unfold SdD
    walk_at "wp"
    refine cmpr_mapG nxD (fun x => D.int x.2.2) trivial (fun x hx R' hR' => ?_) hR
    unfold nxD
    walk_at "wp"
    obtain ⟨h1, h2⟩ := hc s hs x hx
    exact ⟨⟨x.2.2.toNat, by omega, by omega⟩, hR'⟩
  have hm : ∀ k : Int, k ∈ ns ↔ ∃ s ∈ ss, ∃ x ∈ s.nx, x.2.2 = k := fun k => by
    rw [hmem, List.mem_flatMap]
    constructor
    · rintro ⟨s, hs, hk⟩
      obtain ⟨x, hx, e⟩ := List.mem_map.mp hk
      exact ⟨s, hs, x, hx, by injection e⟩
    · rintro ⟨s, hs, x, hx, rfl⟩
      exact ⟨s, hs, List.mem_map.mpr ⟨x, hx, rfl⟩⟩
  have hbadm : ∀ c, BadC ss c → c ∈ ns := fun c ⟨k, hk, x, hx, e, _⟩ => (hm c).mpr ⟨ss[k], List.getElem_mem hk, x, hx, e⟩
  (try walk_at "wp")
  rw [ss_cons]
  rw [← show SsD ss = .tup (ss.map SdD) from rfl]
  have kp : upd M p (.lst (ns.map D.int)) p = some (.lst (ns.map D.int)) := upd_at
  have sb : Sub M (upd M p (.lst (ns.map D.int))) := sub_new (Sub.rf M) hp
  generalize upd M p (.lst (ns.map D.int)) = m at kp sb ⊢
  simp! only [kp]
  refine for_at mF (fun i e m' => m' = m ∧ (∀ c ∈ ns.take i, ¬ (c % 2 = 0 ∧ BadC ss c)) ∧ ∃ s2 s3 s4 s5, e = [.val (SsD ss), .val (.ref p), s2, s3, s4, s5]) ⟨rfl, by simp, _, _, _, _, rfl⟩ (fun i e m' hI => by rw [hI.1]; exact kp) (fun e m' hI => ?_) (fun i x e m' hx hI => ?_)
  · obtain ⟨rfl, hno, s2, s3, s4, s5, rfl⟩ := hI
    rw [List.length_map, List.take_length] at hno
    (try walk_at "wp")
    (rw [ss_cons]; walk_at "wp")
    refine ⟨M, sb, q Option.none ⟨fun _ c h1 h2 => hno c (hbadm c h2) ⟨h1, h2⟩, fun c z => by cases z⟩⟩
  · obtain ⟨rfl, hno, s2, s3, s4, s5, rfl⟩ := hI
    rw [List.getElem?_map] at hx
    obtain ⟨c, hxe, rfl⟩ := Option.map_eq_some_iff.mp hx
    have htk : ns.take (i + 1) = ns.take i ++ [c] := by rw [List.take_add_one, hxe]; rfl
    have go : ¬ (c % 2 = 0 ∧ BadC ss c) → ∀ y ∈ ns.take (i + 1), ¬ (y % 2 = 0 ∧ BadC ss y) := fun z y hy => by
      rw [htk] at hy
      rcases List.mem_append.mp hy with hy | hy
      · exact hno y hy
      · rw [List.mem_singleton.mp hy]; exact z
    (try walk_at "wp")
    rw [ss_cons]
    simp! only [PyProof.Rows.bitAnd_m1]
    by_cases c1 : c % 2 = 0
    · rw [if_pos c1]
      refine has_bad_ok hfh hfc hfe hft hff h ?_
      (try walk_at "wp")
      by_cases c2 : BadC ss c
      · rw [if_pos (by simpa using c2)]
        (rw [ss_cons]; walk_at "wp")
        refine ⟨M, sb, q (some c) ⟨(fun z => by cases z), fun c' z => ?_⟩⟩
        cases z
        refine ⟨c1, c2, fun c' h1 h2 => ?_⟩
        obtain ⟨j, hj, hj2⟩ := List.mem_iff_getElem.mp (hbadm c' h2)
        obtain ⟨hi, rfl⟩ := List.getElem?_eq_some_iff.mp hxe
        rcases Nat.lt_or_ge j i with z | z
        · have : c' ∈ ns.take i := by rw [← hj2]; exact List.mem_iff_getElem.mpr ⟨j, by rw [List.length_take]; omega, by simp⟩
          exact absurd ⟨h1, h2⟩ (hno c' this)
        · rcases Nat.lt_or_ge i j with y | y
          · have := List.pairwise_iff_getElem.mp hns i j hi hj y
            omega
          · have : i = j := by omega
            subst this; omega
      · rw [if_neg (by simpa using c2)]
        (try walk_at "wp")
        exact ⟨go fun z => c2 z.2, _, _, _, _, rfl⟩
    · rw [if_neg c1]
      (try walk_at "wp")
      exact ⟨go fun z => c1 z.1, _, _, _, _, rfl⟩
end DL
namespace DL.LawText
open PySem
local macro_rules | `(tactic| walk_at "wp") => `(tactic| simp only [wS, wE, wEs, wO, wAs, wL, wN, wI, wT, wTs, setAll, Tg.slots, wipeE, cmp_eq_int, cmp_ne_int, cmp_eq_str, cmp_ne_str, cmp_eq_tup, cmp_ne_tup, cmp_eq_bl, cmp_lt, cmp_le, cmp_gt, cmp_ge, Kt0_rt, Kt0_nx, List.getElem?_cons_zero, List.getElem?_cons_succ, List.set_cons_zero, List.set_cons_succ, Option.some.injEq, Slot.val.injEq, Slot.own.injEq, MO.lst.injEq, D.int.injEq, D.ref.injEq, D.bl.injEq, D.tup.injEq, D.str.injEq, exists_eq_left', exists_eq_left, exists_and_left, exists_and_right, and_assoc, true_and, and_true, atI_0, atI_1, atI_2, atI_3, atI_4, backs, drps, List.map_cons, List.map_nil, List.length_cons, List.length_nil, List.cons_append, List.nil_append, List.replicate, Nat.reduceAdd, Nat.reduceSub, decide_eq_true_eq, upd_at, aug_add_int, aug_sub_int, aug_mul_int, aug_add_str, ixN5_1, ixN5_2, ixN5_3, Int.toNat_natCast, List.length_map, List.length_range, tg_nm, tg_tp, tru_non, tru_bl, tru_int, tru_str, tru_tup, tru_ref, bin_add_int, bin_add_str, bin_add_tup, bin_sub, bin_mul, bin_fdiv, bin_mod, bin_pow, bin_shl, bin_shr, bin_band, bin_bor, idx_tup, idx_ref, idx_str, blt_len_tup, blt_len_str, blt_len_ref, blt_int_int, blt_int_bl, blt_bool_bl, blt_bool_int, blt_abs, blt_max2, blt_max3, blt_min2, blt_tuple_tup, blt_tuple_ref, blt_isa_non, blt_isa_bl, blt_isa_int, blt_isa_str, blt_isa_tup, isa_int_int, isa_int_bool, isa_bl_bool, isa_tup, isa_str, lk_tuple, lk_len, lk_all, lk_any, lk_sum, it_tup, it_rl, it_ref, zip_tup, enum_tup, enum_ref, eq_self_iff_true, if_true, Bool.false_eq_true, if_false, reduceIte, ss_nil, rev_tup, rev_ref, ty_split, ty_join, ty_append, ty_pop, ty_popAt, ty_reverse, ty_extend, ty_insert, mth_append, mth_pop, mth_popAt, mth_reverse, mth_extend, mth_insert, mth_split, mth_join, cmp_eq_ref, cmp_ne_ref, slc_tup, slc_str, slc_ref, lk_max, lk_min, cmp_lt_str, cmp_is_bl, cmp_not_bl, cmp_is_non, cmp_not_non, cmp_is_tup, cmp_not_tup, cmp_is_int, cmp_not_int, blt_str, blt_maxt, blt_mint, tg_np])
local macro_rules | `(tactic| simp! only [$xs:simpLemma,*]) => `(tactic| simp only [wS, wE, wEs, wO, wAs, wL, wN, wI, wT, wTs, setAll, Tg.slots, wipeE, cmp_eq_int, cmp_ne_int, cmp_eq_str, cmp_ne_str, cmp_eq_tup, cmp_ne_tup, cmp_eq_bl, cmp_lt, cmp_le, cmp_gt, cmp_ge, Kt0_rt, Kt0_nx, List.getElem?_cons_zero, List.getElem?_cons_succ, List.set_cons_zero, List.set_cons_succ, Option.some.injEq, Slot.val.injEq, Slot.own.injEq, MO.lst.injEq, D.int.injEq, D.ref.injEq, D.bl.injEq, D.tup.injEq, D.str.injEq, exists_eq_left', exists_eq_left, exists_and_left, exists_and_right, and_assoc, true_and, and_true, atI_0, atI_1, atI_2, atI_3, atI_4, backs, drps, List.map_cons, List.map_nil, List.length_cons, List.length_nil, List.cons_append, List.nil_append, List.replicate, Nat.reduceAdd, Nat.reduceSub, decide_eq_true_eq, upd_at, aug_add_int, aug_sub_int, aug_mul_int, aug_add_str, ixN5_1, ixN5_2, ixN5_3, Int.toNat_natCast, List.length_map, List.length_range, tg_nm, tg_tp, tru_non, tru_bl, tru_int, tru_str, tru_tup, tru_ref, bin_add_int, bin_add_str, bin_add_tup, bin_sub, bin_mul, bin_fdiv, bin_mod, bin_pow, bin_shl, bin_shr, bin_band, bin_bor, idx_tup, idx_ref, idx_str, blt_len_tup, blt_len_str, blt_len_ref, blt_int_int, blt_int_bl, blt_bool_bl, blt_bool_int, blt_abs, blt_max2, blt_max3, blt_min2, blt_tuple_tup, blt_tuple_ref, blt_isa_non, blt_isa_bl, blt_isa_int, blt_isa_str, blt_isa_tup, isa_int_int, isa_int_bool, isa_bl_bool, isa_tup, isa_str, lk_tuple, lk_len, lk_all, lk_any, lk_sum, it_tup, it_rl, it_ref, zip_tup, enum_tup, enum_ref, eq_self_iff_true, if_true, Bool.false_eq_true, if_false, reduceIte, ss_nil, rev_tup, rev_ref, ty_split, ty_join, ty_append, ty_pop, ty_popAt, ty_reverse, ty_extend, ty_insert, mth_append, mth_pop, mth_popAt, mth_reverse, mth_extend, mth_insert, mth_split, mth_join, cmp_eq_ref, cmp_ne_ref, slc_tup, slc_str, slc_ref, lk_max, lk_min, cmp_lt_str, cmp_is_bl, cmp_not_bl, cmp_is_non, cmp_not_non, cmp_is_tup, cmp_not_tup, cmp_is_int, cmp_not_int, blt_str, blt_maxt, blt_mint, tg_np, $xs,*])
abbrev f_forward_order : Nat := 0
abbrev f_turned : Nat := 1
abbrev f_classes : Nat := 2
abbrev f_edges_from : Nat := 3
abbrev f_has_bad_round : Nat := 4
abbrev f_bad_code : Nat := 5
abbrev f__law_begin : Nat := 6
abbrev f__law_draw : Nat := 7
abbrev f__law_pick : Nat := 8
abbrev f__law_is_int : Nat := 9
abbrev f__law_made : Nat := 10
abbrev f__law_recoded : Nat := 11
abbrev f__law_goes : Nat := 12
abbrev f__law_worst : Nat := 13
abbrev f__law_told : Nat := 14
abbrev f_law : Nat := 15
def d_forward_order : Fn := { name := "forward_order", arity := 1, slots := ["edges", "met", "found", "root", "trail", "node", "at", "target"], body :=
  [(.asgN 1 (.comp (.cst (.bl false)) (.nm 5) (.dyn (.var 0)) none)),
    (.asgN 2 (.disp .nil)),
    (.for_ (.nm 3) (.range (.blt .len (.cons (.var 0) .nil))) [(.ite (.v (.lidx (.own 1) (.var 3))) [.cnt] []),
    (.set 1 (.var 3) (.cst (.bl true))),
    (.asgM 4 (.disp (.cons (.mk (.disp (.cons (.var 3) (.cons (.cst (.int 0)) .nil)))) .nil))),
    (.whl (.v (.cmp .gt (.blt .len (.cons (.var 4) .nil)) (.cst (.int 0)))) [(.unl [5, 6] (.idx (.var 4) (.neg (.cst (.int 1))))),
    (.ite (.v (.cmp .eq (.var 6) (.blt .len (.cons (.idx (.var 0) (.var 5)) .nil)))) [(.app 2 (.var 5)),
    (.exp (.meth .pop (.var 4) .nil)),
    .cnt] []),
    (.mset (.idx (.var 4) (.neg (.cst (.int 1)))) (.cst (.int 1)) (.bin .add (.var 6) (.cst (.int 1)))),
    (.asg (.nm 7) (.idx (.idx (.var 0) (.var 5)) (.var 6))),
    (.ite (.not (.v (.lidx (.own 1) (.var 7)))) [(.set 1 (.var 7) (.cst (.bl true))),
    (.mapp (.var 4) (.mk (.disp (.cons (.var 7) (.cons (.cst (.int 0)) .nil)))))] [])])]),
    (.retO 2)] }
def d_turned : Fn := { name := "turned", arity := 1, slots := ["edges", "found", "node", "targets", "target"], body :=
  [(.asgN 1 (.comp (.mk (.disp .nil)) (.nm 2) (.dyn (.var 0)) none)),
    (.for_ (.tp [2, 3]) (.enum (.var 0)) [(.for_ (.nm 4) (.dyn (.var 3)) [(.mapp (.lidx (.own 1) (.var 4)) (.var 2))])]),
    (.retO 1)] }
def d_classes : Fn := { name := "classes", arity := 1, slots := ["edges", "against", "found", "many", "root", "queue", "node", "target"], body :=
  [(.asg (.nm 1) (.call f_turned (.cons (.var 0) .nil))),
    (.asgN 2 (.comp (.neg (.cst (.int 1))) (.nm 6) (.dyn (.var 0)) none)),
    (.asg (.nm 3) (.cst (.int 0))),
    (.for_ (.nm 4) (.rev (.call f_forward_order (.cons (.var 0) .nil))) [(.ite (.v (.cmp .ge (.lidx (.own 2) (.var 4)) (.cst (.int 0)))) [.cnt] []),
    (.set 2 (.var 4) (.var 3)),
    (.asgN 5 (.disp (.cons (.var 4) .nil))),
    (.whl (.v (.cmp .gt (.lk .len (.own 5)) (.cst (.int 0)))) [(.pop 6 5),
    (.for_ (.nm 7) (.dyn (.idx (.var 1) (.var 6))) [(.ite (.v (.cmp .lt (.lidx (.own 2) (.var 7)) (.cst (.int 0)))) [(.set 2 (.var 7) (.var 3)),
    (.app 5 (.var 7))] [])])]),
    (.aug 3 .add (.cst (.int 1)))]),
    (.retO 2)] }
def d_edges_from : Fn := { name := "edges_from", arity := 2, slots := ["stands", "least", "move", "target", "code", "stand"], body :=
  [(.ret (.mk (.comp (.mk (.comp (.var 3) (.tp [2, 3, 4]) (.dyn (.idx (.var 5) (.cst (.int 2)))) (some (.v (.cmp .ge (.var 4) (.var 1)))))) (.nm 5) (.dyn (.var 0)) none)))] }
def d_has_bad_round : Fn := { name := "has_bad_round", arity := 2, slots := ["stands", "code", "numbers", "k", "stand", "move", "target", "told"], body :=
  [(.asg (.nm 2) (.call f_classes (.cons (.call f_edges_from (.cons (.var 0) (.cons (.var 1) .nil))) .nil))),
    (.for_ (.tp [3, 4]) (.enum (.var 0)) [(.for_ (.tp [5, 6, 7]) (.dyn (.idx (.var 4) (.cst (.int 2)))) [(.ite (.and (.v (.cmp .eq (.var 7) (.var 1))) (.v (.cmp .eq (.idx (.var 2) (.var 3)) (.idx (.var 2) (.var 6))))) [(.ret (.cst (.bl true)))] [])])]),
    (.ret (.cst (.bl false)))] }
def d_bad_code : Fn := { name := "bad_code", arity := 1, slots := ["stands", "codes", "code", "stand", "move", "target"], body :=
  [(.asg (.nm 1) (.srtSet (.var 2) (.nm 3) (.dyn (.var 0)) (.tp [4, 5, 2]) (.dyn (.idx (.var 3) (.cst (.int 2)))))),
    (.for_ (.nm 2) (.dyn (.var 1)) [(.ite (.and (.v (.cmp .eq (.bin .band (.var 2) (.cst (.int 1))) (.cst (.int 0)))) (.v (.call f_has_bad_round (.cons (.var 0) (.cons (.var 2) .nil))))) [(.ret (.var 2))] [])]),
    (.ret (.cst .non))] }
def d__law_begin : Fn := { name := "_law_begin", arity := 1, slots := ["script", "cell"], body :=
  [(.ret (.mk (.disp (.cons (.mk (.comp (.blt .int (.cons (.var 1) .nil)) (.nm 1) (.dyn (.var 0)) none)) (.cons (.cst (.int 0)) (.cons (.cst (.int 0)) (.cons (.cst (.int 7)) (.cons (.cst (.int 3)) .nil))))))))] }
def d__law_draw : Fn := { name := "_law_draw", arity := 2, slots := ["d", "many", "found", "size", "cell"], body :=
  [(.ite (.v (.cmp .gt (.idx (.var 0) (.cst (.int 2))) (.cst (.int 0)))) [(.asg (.nm 2) (.idx (.var 0) (.cst (.int 2)))),
    (.mset (.var 0) (.cst (.int 2)) (.bin .fdiv (.var 2) (.var 1))),
    (.ret (.bin .mod (.blt .int (.cons (.var 2) .nil)) (.var 1)))] []),
    (.asg (.nm 3) (.cst (.int 0))),
    (.ite (.v (.cmp .lt (.idx (.var 0) (.cst (.int 1))) (.blt .len (.cons (.idx (.var 0) (.cst (.int 0))) .nil)))) [(.asg (.nm 4) (.idx (.idx (.var 0) (.cst (.int 0))) (.idx (.var 0) (.cst (.int 1))))),
    (.asg (.nm 3) (.bin .add (.bin .mul (.cst (.int 2)) (.blt .abs (.cons (.var 4) .nil))) (.blt .int (.cons (.cmp .lt (.var 4) (.cst (.int 0))) .nil))))] []),
    (.maug (.var 0) (.cst (.int 1)) .add (.cst (.int 1))),
    (.ite (.v (.cmp .ge (.var 3) (.bin .mul (.cst (.int 2)) (.bin .pow (.cst (.int 10)) (.cst (.int 18)))))) [(.asg (.nm 2) (.bin .mod (.blt .int (.cons (.bin .fdiv (.var 3) (.cst (.int 2))) .nil)) (.bin .shl (.cst (.int 1)) (.cst (.int 6000))))),
    (.mset (.var 0) (.cst (.int 2)) (.bin .fdiv (.var 2) (.var 1))),
    (.ret (.bin .mod (.blt .int (.cons (.var 2) .nil)) (.var 1)))] []),
    (.mset (.var 0) (.cst (.int 3)) (.bin .mod (.blt .int (.cons (.bin .add (.bin .add (.bin .add (.bin .mul (.idx (.var 0) (.cst (.int 3))) (.cst (.int 48271))) (.bin .mul (.bin .mod (.blt .int (.cons (.var 3) .nil)) (.cst (.int 2147483629))) (.cst (.int 16807)))) (.bin .mul (.idx (.var 0) (.cst (.int 1))) (.cst (.int 69621)))) (.cst (.int 11))) .nil)) (.cst (.int 2147483647)))),
    (.ret (.bin .mod (.blt .int (.cons (.bin .fdiv (.idx (.var 0) (.cst (.int 3))) (.cst (.int 16))) .nil)) (.var 1)))] }
def d__law_pick : Fn := { name := "_law_pick", arity := 2, slots := ["d", "row"], body :=
  [(.ret (.idx (.var 1) (.call f__law_draw (.cons (.var 0) (.cons (.blt .len (.cons (.var 1) .nil)) .nil)))))] }
def d__law_is_int : Fn := { name := "_law_is_int", arity := 1, slots := ["thing"], body :=
  [(.ret (.and (.blt (.isa .int) (.cons (.var 0) .nil)) (.not (.blt (.isa .bool) (.cons (.var 0) .nil)))))] }
def d__law_made : Fn := { name := "_law_made", arity := 3, slots := ["d", "many", "top", "planted", "stands", "number", "k", "nexts", "step", "target", "code"], body :=
  [(.asg (.nm 3) (.cmp .eq (.call f__law_draw (.cons (.var 0) (.cons (.cst (.int 2)) .nil))) (.cst (.int 1)))),
    (.asgN 4 (.disp .nil)),
    (.asg (.nm 5) (.cst (.int 0))),
    (.for_ (.nm 6) (.range (.var 1)) [(.asgN 7 (.disp .nil)),
    (.for_ (.nm 8) (.range (.call f__law_draw (.cons (.var 0) (.cons (.cst (.int 4)) .nil)))) [(.asg (.nm 9) (.call f__law_draw (.cons (.var 0) (.cons (.var 1) .nil)))),
    (.asg (.nm 10) (.call f__law_draw (.cons (.var 0) (.cons (.var 2) .nil)))),
    (.ite (.and (.v (.var 3)) (.v (.cmp .le (.var 9) (.var 6)))) [(.asg (.nm 10) (.bin .add (.cst (.int 1)) (.bin .mul (.cst (.int 2)) (.bin .band (.var 10) (.cst (.int 1))))))] [(.ite (.v (.var 3)) [(.asg (.nm 10) (.bin .add (.cst (.int 4)) (.bin .mod (.blt .int (.cons (.var 10) .nil)) (.cst (.int 15)))))] [])]),
    (.app 7 (.tup (.cons (.var 5) (.cons (.var 9) (.cons (.var 10) .nil))))),
    (.aug 5 .add (.cst (.int 1)))]),
    (.app 4 (.tup (.cons (.var 6) (.cons (.tup .nil) (.cons (.lk .tuple (.own 7)) .nil)))))]),
    (.ret (.lk .tuple (.own 4)))] }
def d__law_recoded : Fn := { name := "_law_recoded", arity := 3, slots := ["d", "stands", "top", "k", "place", "tree", "nexts", "at", "changed"], body :=
  [(.asg (.nm 3) (.call f__law_draw (.cons (.var 0) (.cons (.blt .len (.cons (.var 1) .nil)) .nil)))),
    (.asg (.tp [4, 5, 6]) (.idx (.var 1) (.var 3))),
    (.ite (.v (.cmp .eq (.blt .len (.cons (.var 6) .nil)) (.cst (.int 0)))) [(.ret (.var 1))] []),
    (.asg (.nm 7) (.call f__law_draw (.cons (.var 0) (.cons (.blt .len (.cons (.var 6) .nil)) .nil)))),
    (.asg (.nm 8) (.tup (.cons (.idx (.idx (.var 6) (.var 7)) (.cst (.int 0))) (.cons (.idx (.idx (.var 6) (.var 7)) (.cst (.int 1))) (.cons (.call f__law_draw (.cons (.var 0) (.cons (.var 2) .nil))) .nil))))),
    (.ret (.bin .add (.bin .add (.slc (.var 1) .no (.at (.var 3))) (.tup (.cons (.tup (.cons (.var 4) (.cons (.var 5) (.cons (.bin .add (.bin .add (.slc (.var 6) .no (.at (.var 7))) (.tup (.cons (.var 8) .nil))) (.slc (.var 6) (.at (.bin .add (.var 7) (.cst (.int 1)))) .no)) .nil)))) .nil))) (.slc (.var 1) (.at (.bin .add (.var 3) (.cst (.int 1)))) .no)))] }
def d__law_goes : Fn := { name := "_law_goes", arity := 4, slots := ["stands", "source", "goal", "least", "met", "queue", "at", "here", "move", "target", "code", "stand"], body :=
  [(.asgN 4 (.comp (.cst (.bl false)) (.nm 11) (.dyn (.var 0)) none)),
    (.set 4 (.var 1) (.cst (.bl true))),
    (.asgN 5 (.disp (.cons (.var 1) .nil))),
    (.asg (.nm 6) (.cst (.int 0))),
    (.whl (.v (.cmp .lt (.var 6) (.lk .len (.own 5)))) [(.asg (.nm 7) (.lidx (.own 5) (.var 6))),
    (.aug 6 .add (.cst (.int 1))),
    (.for_ (.tp [8, 9, 10]) (.dyn (.idx (.idx (.var 0) (.var 7)) (.cst (.int 2)))) [(.ite (.and (.v (.cmp .ge (.var 10) (.var 3))) (.not (.v (.lidx (.own 4) (.var 9))))) [(.set 4 (.var 9) (.cst (.bl true))),
    (.app 5 (.var 9))] [])])]),
    (.ret (.lidx (.own 4) (.var 2)))] }
def d__law_worst : Fn := { name := "_law_worst", arity := 1, slots := ["stands", "best", "k", "move", "target", "code"], body :=
  [(.asg (.nm 1) (.cst .non)),
    (.for_ (.nm 2) (.range (.blt .len (.cons (.var 0) .nil))) [(.for_ (.tp [3, 4, 5]) (.dyn (.idx (.idx (.var 0) (.var 2)) (.cst (.int 2)))) [(.ite (.and (.v (.cmp .eq (.bin .mod (.blt .int (.cons (.var 5) .nil)) (.cst (.int 2))) (.cst (.int 0)))) (.and (.or (.v (.cmp .isN (.var 1) (.cst .non))) (.v (.cmp .lt (.var 5) (.var 1)))) (.v (.call f__law_goes (.cons (.var 0) (.cons (.var 4) (.cons (.var 2) (.cons (.var 5) .nil)))))))) [(.asg (.nm 1) (.var 5))] [])])]),
    (.ret (.var 1))] }
def d__law_told : Fn := { name := "_law_told", arity := 1, slots := ["stands", "told", "due"], body :=
  [(.asg (.nm 1) (.call f_bad_code (.cons (.var 0) .nil))),
    (.asg (.nm 2) (.call f__law_worst (.cons (.var 0) .nil))),
    (.ite (.v (.cmp .isN (.var 2) (.cst .non))) [(.ret (.cmp .isN (.var 1) (.cst .non)))] []),
    (.ret (.and (.call f__law_is_int (.cons (.var 1) .nil)) (.cmp .eq (.var 1) (.var 2))))] }
def d_law : Fn := { name := "law", arity := 1, slots := ["script", "d", "many", "top", "first", "stands", "turn"], body :=
  [(.asg (.nm 1) (.call f__law_begin (.cons (.var 0) .nil))),
    (.asg (.nm 2) (.bin .add (.cst (.int 1)) (.call f__law_draw (.cons (.var 1) (.cons (.cst (.int 6)) .nil))))),
    (.ite (.v (.cmp .eq (.call f__law_draw (.cons (.var 1) (.cons (.cst (.int 8)) .nil))) (.cst (.int 7)))) [(.asg (.nm 2) (.bin .add (.cst (.int 12)) (.call f__law_draw (.cons (.var 1) (.cons (.cst (.int 19)) .nil)))))] []),
    (.asg (.nm 3) (.call f__law_pick (.cons (.var 1) (.tmp (.disp (.cons (.cst (.int 3)) (.cons (.cst (.int 5)) (.cons (.cst (.int 9)) (.cons (.cst (.int 19)) .nil))))) .nil)))),
    (.asg (.nm 4) (.call f__law_made (.cons (.var 1) (.cons (.var 2) (.cons (.var 3) .nil))))),
    (.ite (.not (.v (.call f__law_told (.cons (.var 4) .nil)))) [(.ret (.cst (.bl false)))] []),
    (.asg (.nm 5) (.var 4)),
    (.for_ (.nm 6) (.range (.call f__law_draw (.cons (.var 1) (.cons (.cst (.int 4)) .nil)))) [(.asg (.nm 5) (.call f__law_recoded (.cons (.var 1) (.cons (.var 5) (.cons (.var 3) .nil))))),
    (.ite (.not (.v (.call f__law_told (.cons (.var 5) .nil)))) [(.ret (.cst (.bl false)))] [])]),
    (.ret (.call f__law_told (.cons (.var 4) .nil)))] }
def gl : List (String × D) := []
def P : List Fn := [d_forward_order, d_turned, d_classes, d_edges_from, d_has_bad_round, d_bad_code, d__law_begin, d__law_draw, d__law_pick, d__law_is_int, d__law_made, d__law_recoded, d__law_goes, d__law_worst, d__law_told, d_law]
def topS (i : Nat) : PySem.Stmt := PySem.Challenge.pw_dwindleweb_k31_bad_code.main.body.getD i (.Pass ⟨0,0,0,0⟩)
def T : List (Fn × PySem.Stmt) := [(d_forward_order, topS 1), (d_turned, topS 2), (d_classes, topS 3), (d_edges_from, topS 5), (d_has_bad_round, topS 6), (d_bad_code, topS 7), (d__law_begin, topS 9), (d__law_draw, topS 10), (d__law_pick, topS 11), (d__law_is_int, topS 12), (d__law_made, topS 13), (d__law_recoded, topS 14), (d__law_goes, topS 15), (d__law_worst, topS 16), (d__law_told, topS 17), (d_law, topS 18)]
theorem draw {a : Nat} {M : Mem} {many : Int} {Q : QE} {E : QX} {d c : Nat} (h1 : 0 < many) (h2 : many < 1073741824) (h3 : Dst M d c) (h4 : ∀ k M', 0 ≤ k → k < many → DrS d c M M' → Q (.int k) M') : wFn P (a + 1) f__law_draw [.ref d, .int many] M Q E := draw_ok rfl h1 (Int.lt_trans h2 (by decide)) h3 h4
variable {n : Nat} {M : Mem} {Q : QE} {E : QX}
/-- stands of the law -/
structure Sts (many : Nat) (ss : List Sd) : Prop where
  len : ss.length = many
  nx : ∀ s ∈ ss, s.nx.length ≤ 3 ∧ ∀ x ∈ s.nx, x.2.1 < many ∧ 0 ≤ x.2.2 ∧ x.2.2 < 63
theorem Sts.ok {many : Nat} {ss : List Sd} (h : Sts many ss) (hm : many ≤ 30) : SsOk ss ∧ CodesOk ss :=
  ⟨⟨by rw [h.len]; omega, fun s hs => ⟨by have := (h.nx s hs).1; omega, fun x hx => by rw [h.len]; exact ((h.nx s hs).2 x hx).1⟩⟩, fun s hs x hx => ((h.nx s hs).2 x hx).2⟩
theorem made_ok {d c : Nat} (h : Dst M d c) {many : Nat} (m1 : 1 ≤ many) (m2 : many ≤ 30) {top : Int} (t1 : 1 ≤ top) (t2 : top ≤ 19) (q : ∀ ss M', Sts many ss → DrS d c M M' → Q (SsD ss) M') : wFn P (n + 2) f__law_made [.ref d, .int (many : Int), .int top] M Q E := by
  refine enter rfl rfl ?_
  simp only [d__law_made]
  rw [ss_cons]
  walk_at "wp"
  refine draw (by decide) (by decide) h fun r M1 _ _ s1 => ?_
  obtain ⟨b, hb⟩ : ∃ b : Bool, decide (r = 1) = b := ⟨_, rfl⟩
  simp! only [hb]
  (rw [ss_cons]; walk_at "wp")
  refine ⟨by decide, fun p hp => ?_⟩
  (rw [ss_cons]; walk_at "wp")
  rw [ss_cons]
  walk_at "wp"
  refine ⟨by omega, by omega, ?_⟩
  refine for_range (n := many) mF (fun k e M' => DrS d c M M' ∧ ∃ (ss : List Sd) (num : Int) (s6 s7 s8 s9 s10 : Slot), ss.length = k ∧ (∀ s ∈ ss, s.nx.length ≤ 3 ∧ ∀ x ∈ s.nx, x.2.1 < many ∧ 0 ≤ x.2.2 ∧ x.2.2 < 63) ∧
    e = [.val (.ref d), .val (.int (many : Int)), .val (.int top), .val (.bl b), .own p (.lst (ss.map SdD)), .val (.int num), s6, s7, s8, s9, s10]) ⟨s1, [], 0, _, _, _, _, _, rfl, by simp, rfl⟩ (fun _ _ _ _ => trivial) (fun e M' hI => ?_) (fun k e M' hk hI => ?_)
  · obtain ⟨s2, ss, num, s6, s7, s8, s9, s10, hl, hn, rfl⟩ := hI
    (try walk_at "wp")
    (rw [ss_cons]; walk_at "wp")
    exact leave (q ss M' ⟨hl, hn⟩ s2)
  · obtain ⟨s2, ss, num, s6, s7, s8, s9, s10, hl, hn, rfl⟩ := hI
    (try walk_at "wp")
    (rw [ss_cons]; walk_at "wp")
    refine ⟨by decide, fun p7 hp7 => ?_⟩
    rw [ss_cons]
    walk_at "wp"
    refine draw (by decide) (by decide) s2.1 fun r3 M3 r3a r3b s3 => ?_
    obtain ⟨m3, rfl⟩ := Int.eq_ofNat_of_zero_le r3a
    walk_at "wp"
    refine ⟨by omega, by omega, ?_⟩
    refine for_range (n := m3) mF (fun j e M' => DrS d c M M' ∧ ∃ (nx : List (Int × Nat × Int)) (num : Int) (s8 s9 s10 : Slot), nx.length = j ∧ (∀ x ∈ nx, x.2.1 < many ∧ 0 ≤ x.2.2 ∧ x.2.2 < 63) ∧
      e = [.val (.ref d), .val (.int (many : Int)), .val (.int top), .val (.bl b), .own p (.lst (ss.map SdD)), .val (.int num), .val (.int (k : Int)), .own p7 (.lst (nx.map nxD)), s8, s9, s10]) ⟨s2.trans s3, [], num, _, _, _, rfl, by simp, rfl⟩ (fun _ _ _ _ => trivial) (fun e M' hI => ?_) (fun j e M' hj hI => ?_)
    · obtain ⟨s4, nx, num, s8, s9, s10, hl2, hn2, rfl⟩ := hI
      (try walk_at "wp")
      (rw [ss_cons]; walk_at "wp")
      refine ⟨by decide, by decide, ?_, s4, ?_⟩
      · rw [hl]; exact Nat.lt_of_lt_of_le (show k < 1000 by omega) (by decide)
      · refine ⟨ss ++ [⟨.int (k : Int), .tup [], nx⟩], by rw [List.length_append, hl]; rfl, fun s hs => ?_, num, _, _, _, _, _, by rw [List.map_append]; rfl⟩
        rcases List.mem_append.mp hs with z | z
        · exact hn s z
        · rw [List.mem_singleton.mp z]
          exact ⟨by show nx.length ≤ 3; omega, hn2⟩
    · obtain ⟨s4, nx, num, s8, s9, s10, hl2, hn2, rfl⟩ := hI
      (try walk_at "wp")
      rw [ss_cons]
      walk_at "wp"
      refine draw (by omega) (by omega) s4.1 fun tg' M5 ta tb s5 => ?_
      obtain ⟨tg, rfl⟩ := Int.eq_ofNat_of_zero_le ta
      (try walk_at "wp")
      rw [ss_cons]
      walk_at "wp"
      refine draw (by omega) (by omega) s5.1 fun cd M6 ca cb s6' => ?_
      (try walk_at "wp")
      have s46 := (s4.trans s5).trans s6'
      have rest : ∀ (b : Bool) (cd : Int), 0 ≤ cd → cd < 63 → 3 ≤ sizeLine ∧ nx.length < sizeLine ∧ DrS d c M M6 ∧ ∃ nx' : List (Int × Nat × Int), nx'.length = j + 1 ∧ (∀ x ∈ nx', x.2.1 < many ∧ 0 ≤ x.2.2 ∧ x.2.2 < 63) ∧ ∃ (num' : Int) (s8' s9 s10 : Slot),
          [Slot.val (.ref d), .val (.int (many : Int)), .val (.int top), .val (.bl b), .own p (.lst (ss.map SdD)), .val (.int (num + 1)), .val (.int (k : Int)), .own p7 (.lst (nx.map nxD ++ [.tup [.int num, .int (tg : Int), .int cd]])), .val (.int (j : Int)), .val (.int (tg : Int)), .val (.int cd)] =
          [.val (.ref d), .val (.int (many : Int)), .val (.int top), .val (.bl b), .own p (.lst (ss.map SdD)), .val (.int num'), .val (.int (k : Int)), .own p7 (.lst (nx'.map nxD)), s8', s9, s10] := fun b cd h1 h2 => by
        refine ⟨by decide, by rw [hl2]; exact Nat.lt_of_lt_of_le (show j < 1000 by omega) (by decide), s46, nx ++ [(num, tg, cd)], by rw [List.length_append, hl2]; rfl, fun x hx => ?_, num + 1, _, _, _, by rw [List.map_append]; rfl⟩
        rcases List.mem_append.mp hx with z | z
        · exact hn2 x z
        · rw [List.mem_singleton.mp z]
          exact ⟨by show tg < many; omega, h1, h2⟩
      rw [ss_cons]
      walk_at "wp"
      cases b with
      | true =>
        walk_at "wp"
        split
        · (rw [ss_cons]; walk_at "wp")
          refine ⟨.inl (by decide), ?_⟩
          rw [PyProof.Rows.bitAnd_m1]
          (rw [ss_cons]; walk_at "wp")
          (rw [ss_cons]; walk_at "wp")
          exact rest true _ (by omega) (by omega)
        · (rw [ss_cons]; walk_at "wp")
          (rw [ss_cons]; walk_at "wp")
          refine ⟨by decide, ?_⟩
          (rw [ss_cons]; walk_at "wp")
          (rw [ss_cons]; walk_at "wp")
          exact rest true _ (by omega) (by omega)
      | false =>
        walk_at "wp"
        (rw [ss_cons]; walk_at "wp")
        (rw [ss_cons]; walk_at "wp")
        (rw [ss_cons]; walk_at "wp")
        exact rest false _ (by omega) (by omega)
theorem recoded_ok {d c : Nat} (h : Dst M d c) {many : Nat} (m1 : 1 ≤ many) (m2 : many ≤ 30) {ss : List Sd} (hs : Sts many ss) {top : Int} (t1 : 1 ≤ top) (t2 : top ≤ 19) (q : ∀ ss' M', Sts many ss' → DrS d c M M' → Q (SsD ss') M') : wFn P (n + 2) f__law_recoded [.ref d, SsD ss, .int top] M Q E := by
  have hl := hs.len
  refine enter rfl rfl ?_
  simp only [d__law_recoded]
  rw [ss_cons]
  rw [show SsD ss = .tup (ss.map SdD) from rfl]
  walk_at "wp"
  refine draw (by omega) (by omega) h fun k' M1 k0 k1 s1 => ?_
  obtain ⟨k, rfl⟩ := Int.eq_ofNat_of_zero_le k0
  have hk : k < ss.length := by omega
  have ek : L2.atI (ss.map SdD) (k : Int) = some (SdD ss[k]) := get_map hk
  obtain ⟨hn1, hn2⟩ := hs.nx ss[k] (List.getElem_mem hk)
  (try walk_at "wp")
  rw [ss_cons]
  simp only [wS, wE, wEs, wO, wAs, wL, wN, wI, wT, wTs, setAll, Tg.slots, wipeE, cmp_eq_int, cmp_ne_int, cmp_eq_str, cmp_ne_str, cmp_eq_tup, cmp_ne_tup, cmp_eq_bl, cmp_lt, cmp_le, cmp_gt, cmp_ge, Kt0_rt, Kt0_nx, List.getElem?_cons_zero, List.getElem?_cons_succ, List.set_cons_zero, List.set_cons_succ, Option.some.injEq, Slot.val.injEq, Slot.own.injEq, MO.lst.injEq, D.int.injEq, D.ref.injEq, D.bl.injEq, D.tup.injEq, D.str.injEq, exists_eq_left', exists_eq_left, exists_and_left, exists_and_right, and_assoc, true_and, and_true, atI_0, atI_1, atI_2, atI_3, atI_4, backs, drps, List.map_cons, List.map_nil, List.length_cons, List.length_nil, List.cons_append, List.nil_append, List.replicate, Nat.reduceAdd, Nat.reduceSub, decide_eq_true_eq, upd_at, aug_add_int, aug_sub_int, aug_mul_int, aug_add_str, ixN5_1, ixN5_2, ixN5_3, Int.toNat_natCast, List.length_map, List.length_range, tg_nm, tg_tp, tru_non, tru_bl, tru_int, tru_str, tru_tup, tru_ref, bin_add_int, bin_add_str, bin_add_tup, bin_sub, bin_mul, bin_fdiv, bin_mod, bin_pow, bin_shl, bin_shr, bin_band, bin_bor, idx_tup, idx_ref, idx_str, blt_len_tup, blt_len_str, blt_len_ref, blt_int_int, blt_int_bl, blt_bool_bl, blt_bool_int, blt_abs, blt_max2, blt_max3, blt_min2, blt_tuple_tup, blt_tuple_ref, blt_isa_non, blt_isa_bl, blt_isa_int, blt_isa_str, blt_isa_tup, isa_int_int, isa_int_bool, isa_bl_bool, isa_tup, isa_str, lk_tuple, lk_len, lk_all, lk_any, lk_sum, it_tup, it_rl, it_ref, zip_tup, enum_tup, enum_ref, eq_self_iff_true, if_true, Bool.false_eq_true, if_false, reduceIte, ss_nil, rev_tup, rev_ref, ty_split, ty_join, ty_append, ty_pop, ty_popAt, ty_reverse, ty_extend, ty_insert, mth_append, mth_pop, mth_popAt, mth_reverse, mth_extend, mth_insert, mth_split, mth_join, cmp_eq_ref, cmp_ne_ref, slc_tup, slc_str, slc_ref, lk_max, lk_min, cmp_lt_str, cmp_is_bl, cmp_not_bl, cmp_is_non, cmp_not_non, cmp_is_tup, cmp_not_tup, cmp_is_int, cmp_not_int, blt_str, blt_maxt, blt_mint, tg_np, ek, show SdD ss[k] = .tup [ss[k].pl, ss[k].tr, .tup (ss[k].nx.map nxD)] from rfl]
  rw [ss_cons]
  walk_at "wp"
  split
  · (rw [ss_cons]; walk_at "wp")
    exact leave (q ss M1 hs s1)
  rename_i hne
  (try walk_at "wp")
  rw [ss_cons]
  walk_at "wp"
  refine draw (by omega) (by omega) s1.1 fun a' M2 a0 a1 s2 => ?_
  obtain ⟨a, rfl⟩ := Int.eq_ofNat_of_zero_le a0
  have ha : a < ss[k].nx.length := by omega
  have ea : L2.atI (ss[k].nx.map nxD) (a : Int) = some (nxD ss[k].nx[a]) := get_map ha
  (try walk_at "wp")
  rw [ss_cons]
  simp only [wS, wE, wEs, wO, wAs, wL, wN, wI, wT, wTs, setAll, Tg.slots, wipeE, cmp_eq_int, cmp_ne_int, cmp_eq_str, cmp_ne_str, cmp_eq_tup, cmp_ne_tup, cmp_eq_bl, cmp_lt, cmp_le, cmp_gt, cmp_ge, Kt0_rt, Kt0_nx, List.getElem?_cons_zero, List.getElem?_cons_succ, List.set_cons_zero, List.set_cons_succ, Option.some.injEq, Slot.val.injEq, Slot.own.injEq, MO.lst.injEq, D.int.injEq, D.ref.injEq, D.bl.injEq, D.tup.injEq, D.str.injEq, exists_eq_left', exists_eq_left, exists_and_left, exists_and_right, and_assoc, true_and, and_true, atI_0, atI_1, atI_2, atI_3, atI_4, backs, drps, List.map_cons, List.map_nil, List.length_cons, List.length_nil, List.cons_append, List.nil_append, List.replicate, Nat.reduceAdd, Nat.reduceSub, decide_eq_true_eq, upd_at, aug_add_int, aug_sub_int, aug_mul_int, aug_add_str, ixN5_1, ixN5_2, ixN5_3, Int.toNat_natCast, List.length_map, List.length_range, tg_nm, tg_tp, tru_non, tru_bl, tru_int, tru_str, tru_tup, tru_ref, bin_add_int, bin_add_str, bin_add_tup, bin_sub, bin_mul, bin_fdiv, bin_mod, bin_pow, bin_shl, bin_shr, bin_band, bin_bor, idx_tup, idx_ref, idx_str, blt_len_tup, blt_len_str, blt_len_ref, blt_int_int, blt_int_bl, blt_bool_bl, blt_bool_int, blt_abs, blt_max2, blt_max3, blt_min2, blt_tuple_tup, blt_tuple_ref, blt_isa_non, blt_isa_bl, blt_isa_int, blt_isa_str, blt_isa_tup, isa_int_int, isa_int_bool, isa_bl_bool, isa_tup, isa_str, lk_tuple, lk_len, lk_all, lk_any, lk_sum, it_tup, it_rl, it_ref, zip_tup, enum_tup, enum_ref, eq_self_iff_true, if_true, Bool.false_eq_true, if_false, reduceIte, ss_nil, rev_tup, rev_ref, ty_split, ty_join, ty_append, ty_pop, ty_popAt, ty_reverse, ty_extend, ty_insert, mth_append, mth_pop, mth_popAt, mth_reverse, mth_extend, mth_insert, mth_split, mth_join, cmp_eq_ref, cmp_ne_ref, slc_tup, slc_str, slc_ref, lk_max, lk_min, cmp_lt_str, cmp_is_bl, cmp_not_bl, cmp_is_non, cmp_not_non, cmp_is_tup, cmp_not_tup, cmp_is_int, cmp_not_int, blt_str, blt_maxt, blt_mint, tg_np, ea, show nxD ss[k].nx[a] = .tup [.int ss[k].nx[a].1, .int (ss[k].nx[a].2.1 : Int), .int ss[k].nx[a].2.2] from rfl]
  refine draw (by omega) (by omega) s2.1 fun cd M3 c0 c1 s3 => ?_
  (try walk_at "wp")
  refine ⟨by decide, ?_⟩
  rw [ss_cons]
  simp! only [show ((a : Int) + 1) = ((a + 1 : Nat) : Int) from rfl, show ((k : Int) + 1) = ((k + 1 : Nat) : Int) from rfl, cut_to, cut_from, ← List.map_take, ← List.map_drop, List.length_append, List.length_map]
  have hb : sizeLine = 2 ^ 24 := rfl
  have hta : (ss[k].nx.take a).length ≤ 3 := by rw [List.length_take]; omega
  have hda : (ss[k].nx.drop (a + 1)).length ≤ 3 := by rw [List.length_drop]; omega
  have htk : (ss.take k).length ≤ 30 := by rw [List.length_take]; omega
  have hdk : (ss.drop (k + 1)).length ≤ 30 := by rw [List.length_drop]; omega
  have hel : (ss.take k).length + 1 + (ss.drop (k + 1)).length = many := by rw [List.length_take, List.length_drop]; omega
  have hel2 : (ss[k].nx.take a).length + 1 + (ss[k].nx.drop (a + 1)).length ≤ 3 := by rw [List.length_take, List.length_drop]; omega
  refine ⟨by omega, by omega, by omega, by omega, by omega, by omega, by omega, ?_⟩
  refine leave ?_
  have := q (ss.take k ++ [⟨ss[k].pl, ss[k].tr, ss[k].nx.take a ++ [(ss[k].nx[a].1, ss[k].nx[a].2.1, cd)] ++ ss[k].nx.drop (a + 1)⟩] ++ ss.drop (k + 1)) M3 ⟨by rw [List.length_append, List.length_append]; exact hel, fun s hs' => ?_⟩ ((s1.trans s2).trans s3)
  · simpa [SsD, SdD, nxD] using this
  · rcases List.mem_append.mp hs' with z | z
    · rcases List.mem_append.mp z with z | z
      · exact hs.nx s (List.mem_of_mem_take z)
      · rw [List.mem_singleton.mp z]
        refine ⟨by rw [List.length_append, List.length_append]; exact hel2, fun x hx => ?_⟩
        rcases List.mem_append.mp hx with z | z
        · rcases List.mem_append.mp z with z | z
          · exact hn2 x (List.mem_of_mem_take z)
          · rw [List.mem_singleton.mp z]
            exact ⟨(hn2 _ (List.getElem_mem ha)).1, c0, by show cd < 63; omega⟩
        · exact hn2 x (List.mem_of_mem_drop z)
    · exact hs.nx s (List.mem_of_mem_drop z)
theorem told_ok {many : Nat} (m2 : many ≤ 30) {ss : List Sd} (hs : Sts many ss) (q : Q (.bl true) M) : wFn P (n + 6) f__law_told [SsD ss] M Q E := by
  obtain ⟨h1, h2⟩ := hs.ok m2
  refine enter rfl rfl ?_
  simp only [d__law_told]
  rw [ss_cons]
  walk_at "wp"
  refine bad_code_ok rfl rfl rfl rfl rfl rfl h1 h2 fun best B => ?_
  (try walk_at "wp")
  rw [ss_cons]
  walk_at "wp"
  refine worst_ok rfl rfl h1 fun best' B' => ?_
  obtain rfl := B.uniq (LeastBad.of B')
  (try walk_at "wp")
  rw [ss_cons]
  cases best with
  | none =>
    simp only [optD, wS, wE, wEs, wO, wAs, wL, wN, wI, wT, wTs, setAll, Tg.slots, wipeE, cmp_eq_int, cmp_ne_int, cmp_eq_str, cmp_ne_str, cmp_eq_tup, cmp_ne_tup, cmp_eq_bl, cmp_lt, cmp_le, cmp_gt, cmp_ge, Kt0_rt, Kt0_nx, List.getElem?_cons_zero, List.getElem?_cons_succ, List.set_cons_zero, List.set_cons_succ, Option.some.injEq, Slot.val.injEq, Slot.own.injEq, MO.lst.injEq, D.int.injEq, D.ref.injEq, D.bl.injEq, D.tup.injEq, D.str.injEq, exists_eq_left', exists_eq_left, exists_and_left, exists_and_right, and_assoc, true_and, and_true, atI_0, atI_1, atI_2, atI_3, atI_4, backs, drps, List.map_cons, List.map_nil, List.length_cons, List.length_nil, List.cons_append, List.nil_append, List.replicate, Nat.reduceAdd, Nat.reduceSub, decide_eq_true_eq, upd_at, aug_add_int, aug_sub_int, aug_mul_int, aug_add_str, ixN5_1, ixN5_2, ixN5_3, Int.toNat_natCast, List.length_map, List.length_range, tg_nm, tg_tp, tru_non, tru_bl, tru_int, tru_str, tru_tup, tru_ref, bin_add_int, bin_add_str, bin_add_tup, bin_sub, bin_mul, bin_fdiv, bin_mod, bin_pow, bin_shl, bin_shr, bin_band, bin_bor, idx_tup, idx_ref, idx_str, blt_len_tup, blt_len_str, blt_len_ref, blt_int_int, blt_int_bl, blt_bool_bl, blt_bool_int, blt_abs, blt_max2, blt_max3, blt_min2, blt_tuple_tup, blt_tuple_ref, blt_isa_non, blt_isa_bl, blt_isa_int, blt_isa_str, blt_isa_tup, isa_int_int, isa_int_bool, isa_bl_bool, isa_tup, isa_str, lk_tuple, lk_len, lk_all, lk_any, lk_sum, it_tup, it_rl, it_ref, zip_tup, enum_tup, enum_ref, eq_self_iff_true, if_true, Bool.false_eq_true, if_false, reduceIte, ss_nil, rev_tup, rev_ref, ty_split, ty_join, ty_append, ty_pop, ty_popAt, ty_reverse, ty_extend, ty_insert, mth_append, mth_pop, mth_popAt, mth_reverse, mth_extend, mth_insert, mth_split, mth_join, cmp_eq_ref, cmp_ne_ref, slc_tup, slc_str, slc_ref, lk_max, lk_min, cmp_lt_str, cmp_is_bl, cmp_not_bl, cmp_is_non, cmp_not_non, cmp_is_tup, cmp_not_tup, cmp_is_int, cmp_not_int, blt_str, blt_maxt, blt_mint, tg_np]
    (rw [ss_cons]; walk_at "wp")
    exact leave q
  | some c =>
    simp only [optD, wS, wE, wEs, wO, wAs, wL, wN, wI, wT, wTs, setAll, Tg.slots, wipeE, cmp_eq_int, cmp_ne_int, cmp_eq_str, cmp_ne_str, cmp_eq_tup, cmp_ne_tup, cmp_eq_bl, cmp_lt, cmp_le, cmp_gt, cmp_ge, Kt0_rt, Kt0_nx, List.getElem?_cons_zero, List.getElem?_cons_succ, List.set_cons_zero, List.set_cons_succ, Option.some.injEq, Slot.val.injEq, Slot.own.injEq, MO.lst.injEq, D.int.injEq, D.ref.injEq, D.bl.injEq, D.tup.injEq, D.str.injEq, exists_eq_left', exists_eq_left, exists_and_left, exists_and_right, and_assoc, true_and, and_true, atI_0, atI_1, atI_2, atI_3, atI_4, backs, drps, List.map_cons, List.map_nil, List.length_cons, List.length_nil, List.cons_append, List.nil_append, List.replicate, Nat.reduceAdd, Nat.reduceSub, decide_eq_true_eq, upd_at, aug_add_int, aug_sub_int, aug_mul_int, aug_add_str, ixN5_1, ixN5_2, ixN5_3, Int.toNat_natCast, List.length_map, List.length_range, tg_nm, tg_tp, tru_non, tru_bl, tru_int, tru_str, tru_tup, tru_ref, bin_add_int, bin_add_str, bin_add_tup, bin_sub, bin_mul, bin_fdiv, bin_mod, bin_pow, bin_shl, bin_shr, bin_band, bin_bor, idx_tup, idx_ref, idx_str, blt_len_tup, blt_len_str, blt_len_ref, blt_int_int, blt_int_bl, blt_bool_bl, blt_bool_int, blt_abs, blt_max2, blt_max3, blt_min2, blt_tuple_tup, blt_tuple_ref, blt_isa_non, blt_isa_bl, blt_isa_int, blt_isa_str, blt_isa_tup, isa_int_int, isa_int_bool, isa_bl_bool, isa_tup, isa_str, lk_tuple, lk_len, lk_all, lk_any, lk_sum, it_tup, it_rl, it_ref, zip_tup, enum_tup, enum_ref, eq_self_iff_true, if_true, Bool.false_eq_true, if_false, reduceIte, ss_nil, rev_tup, rev_ref, ty_split, ty_join, ty_append, ty_pop, ty_popAt, ty_reverse, ty_extend, ty_insert, mth_append, mth_pop, mth_popAt, mth_reverse, mth_extend, mth_insert, mth_split, mth_join, cmp_eq_ref, cmp_ne_ref, slc_tup, slc_str, slc_ref, lk_max, lk_min, cmp_lt_str, cmp_is_bl, cmp_not_bl, cmp_is_non, cmp_not_non, cmp_is_tup, cmp_not_tup, cmp_is_int, cmp_not_int, blt_str, blt_maxt, blt_mint, tg_np]
    rw [ss_cons]
    walk_at "wp"
    refine is_int_ok rfl ?_
    (try walk_at "wp")
    exact leave q
theorem tail_ok {d c many : Nat} (m1 : 1 ≤ many) (m2 : many ≤ 30) (h : Dst M d c) {sc : D} : wSs (wFn P 19) (d_law.body.drop 3) [.val sc, .val (.ref d), .val (.int (many : Int)), .no, .no, .no, .no] M (Kt0 (fun d _ => d = .bl true) fun _ _ => False) := by
  simp only [d_law, List.drop]
  rw [ss_cons]
  walk_at "wp"
  refine ⟨by decide, fun p hp => pick_tmp rfl rfl h hp (by simp) (by decide) fun x M2 hx s2 => ?_⟩
  obtain ⟨top, rfl, t0, t1⟩ : ∃ top : Nat, x = .int (top : Int) ∧ 1 ≤ top ∧ top ≤ 19 := by
    simp only [List.mem_cons, List.not_mem_nil, or_false] at hx
    rcases hx with rfl | rfl | rfl | rfl
    · exact ⟨3, rfl, by decide, by decide⟩
    · exact ⟨5, rfl, by decide, by decide⟩
    · exact ⟨9, rfl, by decide, by decide⟩
    · exact ⟨19, rfl, by decide, by decide⟩
  (try walk_at "wp")
  rw [ss_cons]
  walk_at "wp"
  refine made_ok s2.1 m1 m2 (by omega) (by omega) fun ss M3 hs s3 => ?_
  (try walk_at "wp")
  rw [ss_cons]
  walk_at "wp"
  refine told_ok m2 hs ?_
  (try simp! only [Bool.not_true, Bool.not_false, Bool.true_eq_false, Bool.not_eq_true', Bool.not_eq_false', decide_eq_false_iff_not])
  (rw [ss_cons]; walk_at "wp")
  rw [ss_cons]
  walk_at "wp"
  refine draw (by decide) (by decide) s3.1 fun r M4 r0 r1 s4 => ?_
  obtain ⟨m3, rfl⟩ := Int.eq_ofNat_of_zero_le r0
  walk_at "wp"
  refine ⟨by omega, by omega, ?_⟩
  refine for_range (n := m3) mF (fun k e M' => Dst M' d c ∧ ∃ (ss' : List Sd) (s6 : Slot), Sts many ss' ∧ e = [.val sc, .val (.ref d), .val (.int (many : Int)), .val (.int (top : Int)), .val (SsD ss), .val (SsD ss'), s6]) ⟨s4.1, ss, _, hs, rfl⟩ (fun _ _ _ _ => trivial) (fun e M' hI => ?_) (fun k e M' hk hI => ?_)
  · obtain ⟨hd, ss', s6, hs', rfl⟩ := hI
    (try walk_at "wp")
    rw [ss_cons]
    walk_at "wp"
    refine told_ok m2 hs ?_
    exact ⟨⟨M', Sub.rf M'⟩, rfl⟩
  · obtain ⟨hd, ss', s6, hs', rfl⟩ := hI
    (try walk_at "wp")
    rw [ss_cons]
    walk_at "wp"
    refine recoded_ok hd m1 m2 hs' (by omega) (by omega) fun ss2 M5 hs2 s5 => ?_
    (try walk_at "wp")
    rw [ss_cons]
    walk_at "wp"
    refine told_ok m2 hs2 ?_
    (try simp! only [Bool.not_true, Bool.not_false, Bool.true_eq_false, Bool.not_eq_true', Bool.not_eq_false', decide_eq_false_iff_not])
    exact ⟨s5.1, ss2, hs2, _, rfl⟩
theorem h_law (ns : List Int) (hl : ns.length ≤ 63) : wFn P 20 f_law [.rl (ns.map D.int)] (fun _ => none) (fun d _ => d = .bl true) (fun _ _ => False) := by
  refine enter rfl rfl ?_
  simp only [d_law]
  (rw [ss_cons]; walk_at "wp")
  refine begin_ok rfl hl fun d c M h => ?_
  (try walk_at "wp")
  rw [ss_cons]
  walk_at "wp"
  refine draw (by decide) (by decide) h fun r M1 r0 r1 s1 => ?_
  obtain ⟨m, rfl⟩ := Int.eq_ofNat_of_zero_le r0
  (try walk_at "wp")
  rw [ss_cons]
  walk_at "wp"
  refine draw (by decide) (by decide) s1.1 fun r2 M2 _ _ s2 => ?_
  (try walk_at "wp")
  split
  · rw [ss_cons]
    walk_at "wp"
    refine draw (by decide) (by decide) s2.1 fun r3 M3 r0 r1 s3 => ?_
    obtain ⟨m3, rfl⟩ := Int.eq_ofNat_of_zero_le r0
    (try walk_at "wp")
    exact tail_ok (many := 12 + m3) (by omega) (by omega) s3.1
  · exact tail_ok (many := 1 + m) (by omega) (by omega) s2.1
def exT : Ex := { hot := [], xt := [], rel := [], ics := [] }
theorem tx : Tx T gl exT := ⟨by decide +kernel, by decide +kernel⟩
end DL.LawText
open PySem PySem.W PyProof.Rows
set_option maxHeartbeats 0 in
theorem PySem.Challenge.cw_dwindleweb_k31_bad_code_holds : PySem.Challenge.rw_dwindleweb_k31_bad_code.Holds := by
  w_on; o_law; k_head; (case hw => w_witness2)
  k_fill
  refine L2.walk_of (l := PySem.Challenge.rw_dwindleweb_k31_bad_code) (n := 63) (k := 40) (x := "script") (CX := fun w => L2N.CX PySem.Challenge.rw_dwindleweb_k31_bad_code.prog w) (sp := fun w => DL.spLaw _ (DL.wFn (DL.LawText.T.map (·.1)) 20 DL.LawText.f_law)) rfl (by decide) rfl ⟨rfl, by decide, by decide⟩ (fun w h Y => PySem.W.kIn_of Y) ?F (fun w H a ns hl hO hS => DL.law_sp (fun ns hl => DL.LawText.h_law ns hl) H a ns hl hO hS) (fun w H s e s' h => DL.law_cx _ w H s e s' h)
  case F =>
    intro w mg fa h KX G hmg
    refine DL.law_F (n := 20) (fn := DL.LawText.d_law) (f := DL.LawText.f_law) KX G DL.LawText.tx rfl hmg rfl rfl ?at_ ?no_ ?gl_ ?xs_
    case xs_ => first | kernel_rfl | rfl
    case at_ =>
      refine' DL.Ats.cons' (DL.at_mk (x := "forward_order") rfl KX G rfl ?a ?l ?c ?k) ?_
      (case a => k_is); (case l => k_is); (case c => k_is); (case k => k_is)
      refine' DL.Ats.cons' (DL.at_mk (x := "turned") rfl KX G rfl ?a ?l ?c ?k) ?_
      (case a => k_is); (case l => k_is); (case c => k_is); (case k => k_is)
      refine' DL.Ats.cons' (DL.at_mk (x := "classes") rfl KX G rfl ?a ?l ?c ?k) ?_
      (case a => k_is); (case l => k_is); (case c => k_is); (case k => k_is)
      refine' DL.Ats.cons' (DL.at_mk (x := "edges_from") rfl KX G rfl ?a ?l ?c ?k) ?_
      (case a => k_is); (case l => k_is); (case c => k_is); (case k => k_is)
      refine' DL.Ats.cons' (DL.at_mk (x := "has_bad_round") rfl KX G rfl ?a ?l ?c ?k) ?_
      (case a => k_is); (case l => k_is); (case c => k_is); (case k => k_is)
      refine' DL.Ats.cons' (DL.at_mk (x := "bad_code") rfl KX G rfl ?a ?l ?c ?k) ?_
      (case a => k_is); (case l => k_is); (case c => k_is); (case k => k_is)
      refine' DL.Ats.cons' (DL.at_mk (x := "_law_begin") rfl KX G rfl ?a ?l ?c ?k) ?_
      (case a => k_is); (case l => k_is); (case c => k_is); (case k => k_is)
      refine' DL.Ats.cons' (DL.at_mk (x := "_law_draw") rfl KX G rfl ?a ?l ?c ?k) ?_
      (case a => k_is); (case l => k_is); (case c => k_is); (case k => k_is)
      refine' DL.Ats.cons' (DL.at_mk (x := "_law_pick") rfl KX G rfl ?a ?l ?c ?k) ?_
      (case a => k_is); (case l => k_is); (case c => k_is); (case k => k_is)
      refine' DL.Ats.cons' (DL.at_mk (x := "_law_is_int") rfl KX G rfl ?a ?l ?c ?k) ?_
      (case a => k_is); (case l => k_is); (case c => k_is); (case k => k_is)
      refine' DL.Ats.cons' (DL.at_mk (x := "_law_made") rfl KX G rfl ?a ?l ?c ?k) ?_
      (case a => k_is); (case l => k_is); (case c => k_is); (case k => k_is)
      refine' DL.Ats.cons' (DL.at_mk (x := "_law_recoded") rfl KX G rfl ?a ?l ?c ?k) ?_
      (case a => k_is); (case l => k_is); (case c => k_is); (case k => k_is)
      refine' DL.Ats.cons' (DL.at_mk (x := "_law_goes") rfl KX G rfl ?a ?l ?c ?k) ?_
      (case a => k_is); (case l => k_is); (case c => k_is); (case k => k_is)
      refine' DL.Ats.cons' (DL.at_mk (x := "_law_worst") rfl KX G rfl ?a ?l ?c ?k) ?_
      (case a => k_is); (case l => k_is); (case c => k_is); (case k => k_is)
      refine' DL.Ats.cons' (DL.at_mk (x := "_law_told") rfl KX G rfl ?a ?l ?c ?k) ?_
      (case a => k_is); (case l => k_is); (case c => k_is); (case k => k_is)
      refine' DL.Ats.cons' (DL.at_mk (x := "law") rfl KX G rfl ?a ?l ?c ?k) ?_
      (case a => k_is); (case l => k_is); (case c => k_is); (case k => k_is)
      exact DL.Ats.nil'
    case no_ =>
      refine' And.intro ?a ?_; (case a => k_is)
      refine' And.intro ?a ?_; (case a => k_is)
      refine' And.intro ?a ?_; (case a => k_is)
      refine' And.intro ?a ?_; (case a => k_is)
      refine' And.intro ?a ?_; (case a => k_is)
      refine' And.intro ?a ?_; (case a => k_is)
      refine' And.intro ?a ?_; (case a => k_is)
      refine' And.intro ?a ?_; (case a => k_is)
      refine' And.intro ?a ?_; (case a => k_is)
      refine' And.intro ?a ?_; (case a => k_is)
      refine' And.intro ?a ?_; (case a => k_is)
      refine' And.intro ?a ?_; (case a => k_is)
      refine' And.intro ?a ?_; (case a => k_is)
      refine' And.intro ?a ?_; (case a => k_is)
      refine' And.intro ?a ?_; (case a => k_is)
      refine' And.intro ?a ?_; (case a => k_is)
      refine' And.intro ?a ?_; (case a => k_is)
      refine' And.intro ?a ?_; (case a => k_is)
      refine' And.intro ?a ?_; (case a => k_is)
      refine' And.intro ?a ?_; (case a => k_is)
      exact trivial
    case gl_ =>
      exact trivial
