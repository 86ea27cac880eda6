import PyProof.Rows.All
import Wide.All
import OpenK.AllK
import Wide.FinOn
import HandS.ForMost
import HandS.Deep
import HandS.IsInst
import HandS.SortInts
import HandS.TupAny
import HandS.Defaults
import HandS.Wide
import HandS.Dict
import HandS.ReCall
import HandS.Strs
import HandS.Exc
import HandS.TupMul
import HandS.Style
import HandS.Flow
import HandS.Conv
import HandS.Comp
import HandS.ExcOwn
import HandS.Zip
import HandS.Iter
import KE.GoesMore
import KE.GoesEnum
import HandS.ExcInit
import HandS.WordsExc
import KE.KExcIs
import HandS.MakeKwOnly
import HandS.More
import HandS.RepeatKit
import PyProof.CollectWalk
import KE.KRevIter
import PyProof.ListNew
import HandS.ExcValue
import HandS.StrMore
import HandS.Gcd
import HandS.EndBits
import PyProof.Rows.ReprOcc
import PyProof.Rows.StrJoinMade
import PyProof.Rows.StrDigitsNeg
import KE.IntTextLaws
import PySem.Challenge.RW_onejumps_k00_errors
set_option Elab.async false
set_option linter.all false
/-! An evaluator of a part of Python over plain data: values are PyData; a list that a name alone holds is "own" and may be changed. -/
/-! the rows of permutations -/
namespace Pm
/-- the step to the next row of places -/
def stp (n : Nat) : Nat → List Nat → List Nat → Option (List Nat × List Nat)
  | 0, _, _ => none
  | i + 1, ix, cy =>
    let c := cy.getD i 0 - 1
    if c == 0 then stp n i (ix.take i ++ ix.drop (i + 1) ++ [ix.getD i 0]) (cy.set i (n - i))
    else some ((ix.set i (ix.getD (n - c) 0)).set (n - c) (ix.getD i 0), cy.set i c)
def rows (r : Nat) : Nat → List Nat → List Nat → List (List Nat)
  | 0, _, _ => []
  | k + 1, ix, cy => match stp r r ix cy with
    | none => []
    | some (a, b) => a :: rows r k a b
def runB (r : Nat) : Nat → List Nat → List Nat → Bool
  | 0, _, _ => false
  | k + 1, ix, cy => match stp r r ix cy with
    | none => true
    | some (a, b) => decide (a.length = r) && decide (b.length = r) && a.all (fun i => decide (i < r)) && runB r k a b
def cyc (n : Nat) : List Nat := (List.range n).map fun i => n - i
/-- all rows of n places -/
def all (n : Nat) : List (List Nat) := List.range n :: rows n 5040 (List.range n) (cyc n)
def allOk (n : Nat) : Bool := decide (n ≤ 7) && runB n 5040 (List.range n) (cyc n) && decide ((all n).length ≤ 5040)
end Pm
namespace Ev
open PySem L2

abbrev D := PyData
inductive Slot where
  | un | val (d : D) | own (l : Bool) (d : D)
abbrev Fm := List Slot
inductive Opd where
  | val (d : D) | slot (i : Nat) | fresh (d : D)
inductive R (α : Type) where
  | ok (a : α) (e : Fm) | exc (c : Str) (d : D) (e : Fm) | stuck
abbrev M (α : Type) := Fm → R α
namespace M
def pure {α : Type} (a : α) : M α := fun e => .ok a e
def bind {α β : Type} (p : M α) (f : α → M β) : M β := fun e =>
  match p e with
  | .ok a e1 => f a e1
  | .exc c d e1 => .exc c d e1
  | .stuck => .stuck
def opt {α : Type} : Option α → M α
  | some a => pure a
  | none => fun _ => .stuck
def map {α β : Type} (f : α → β) (p : M α) : M β := bind p fun a => pure (f a)
end M
def der (o : Opd) : M D := fun e =>
  match o with
  | .val d => .ok d e
  | .fresh d => .ok d e
  | .slot i => match e[i]? with
    | some (.own _ d) => .ok d e
    | some (.val d) => .ok d e
    | _ => .stuck
def take (o : Opd) : M D := fun e =>
  match o with
  | .val d => .ok d e
  | .fresh d => .ok d e
  | .slot i => match e[i]? with
    | some (.own false d) => .ok d (e.set i (.val d))
    | some (.val d) => .ok d e
    | _ => .stuck
def peek : Opd → Opd
  | .fresh d => .val d
  | o => o

/-! ### what operators do with data -/
inductive Bop where | add | sub | mul | fdiv | mod | pow | shl
/-- what a clause does with its error -/
inductive Act where | tv (t : Str) | keep | vl
inductive Cop where | lt | le | gt | ge | eq | ne | is | isnot | isin | notin
inductive Ty where | int | bool | str | tuple | list | dict
inductive Bi where | len | int | list | tuple | all | any | sum | min1 | max1 | min2 | max2 | abs | sorted | str
inductive Mt where | index
inductive Mu where | append | extend | insert
/-- methods of texts -/
inductive Sq where | join | split | part | starts | find | find2 | upper | count | index | repl

def lenOk (n : Nat) : Bool := decide (n ≤ sizeLine)
def intD : D → Option Int
  | .int i => some i
  | _ => none
def eqG (a b : D) : Option Bool := if SeqAt.shaped a && SeqAt.shaped b then some (PyData.eqv a b) else none
/-- factors that are not too great -/
def mulOk (i j : Int) : Bool := decide (i.natAbs.log2 < 64) || (decide (j.natAbs.log2 < 64) || decide (i.natAbs.log2 + j.natAbs.log2 < 1000000))
theorem log_lt {i : Int} {n : Nat} (hn : 0 < n) (h : i.natAbs < 2 ^ n) : i.natAbs.log2 < n := by
  by_cases h0 : i.natAbs = 0
  · rw [h0]; simpa using hn
  · exact (Nat.log2_lt h0).mpr h
theorem lt_log {i : Int} {n : Nat} (h : i.natAbs.log2 < n) : i.natAbs < 2 ^ n := by
  by_cases h0 : i.natAbs = 0
  · rw [h0]; exact Nat.two_pow_pos n
  · exact (Nat.log2_lt h0).mp h
theorem mulOk_l {i j : Int} (h : -18446744073709551616 < i) (h2 : i < 18446744073709551616) : mulOk i j = true := by
  unfold mulOk
  rw [decide_eq_true (log_lt (by decide) (by omega))]
  rfl
theorem mulOk_r {i j : Int} (h : -18446744073709551616 < j) (h2 : j < 18446744073709551616) : mulOk i j = true := by
  unfold mulOk
  rw [decide_eq_true (log_lt (i := j) (n := 64) (by decide) (by omega))]
  simp
theorem mulOk_w {i j : Int} (h : i.natAbs.log2 + j.natAbs.log2 < 1000000) : mulOk i j = true := by
  unfold mulOk
  rw [decide_eq_true h]
  simp
def binD : Bop → D → D → Option Opd
  | .add, .int i, .int j => some (.val (.int (i + j)))
  | .add, .list xs, .list ys => if xs.length + ys.length ≤ sizeLine then some (.fresh (.list (xs ++ ys))) else none
  | .add, .tuple xs, .tuple ys => if xs.length + ys.length ≤ sizeLine then some (.val (.tuple (xs ++ ys))) else none
  | .add, .str a, .str b => if a.length + b.length ≤ sizeLine then some (.val (.str (a ++ b))) else none
  | .sub, .int i, .int j => some (.val (.int (i - j)))
  | .mul, .int i, .int j => if mulOk i j = true then some (.val (.int (i * j))) else none
  | .mul, .list xs, .int k => if k.natAbs.log2 < 62 ∧ xs.length * k.toNat ≤ sizeLine then some (.fresh (.list (List.replicate k.toNat xs).flatten)) else none
  | .mul, .tuple xs, .int k => if 2 ≤ k ∧ k ≤ 1000 ∧ xs.length ≤ 1000 ∧ xs ≠ [] then some (.val (.tuple (List.replicate k.toNat xs).flatten)) else none
  | .fdiv, .int i, .int j => if 0 < j ∧ j.natAbs.log2 < 9000 then some (.val (.int (i / j))) else none
  | .mod, .int i, .int j => if 0 < j then some (.val (.int (i % j))) else none
  | .pow, .int i, .int j => if 0 ≤ j ∧ j ≤ 1000 ∧ i.natAbs.log2 < 10000 then some (.val (.int (i ^ j.toNat))) else none
  | .shl, .int i, .int j => if 0 ≤ j ∧ j ≤ 1000000 ∧ i.natAbs < 2 ^ 64 then some (.val (.int (i * 2 ^ j.toNat))) else none
  | _, _, _ => none
def isNoneD : D → Bool
  | .none => true
  | _ => false
/-- a text stands in a text -/
def inS (a b : Str) : Bool := !(Builtin.Str.occurrences b a 0 b.length 1).isEmpty
def cmpD : Cop → D → D → Option Bool
  | .lt, .int i, .int j => some (decide (i < j))
  | .lt, .tuple xs, .tuple ys => (xs.mapM intD).bind fun ns => (ys.mapM intD).map fun ms => HT.lexLt ns ms
  | .le, .int i, .int j => some (decide (i ≤ j))
  | .gt, .int i, .int j => some (decide (j < i))
  | .ge, .int i, .int j => some (decide (j ≤ i))
  | .eq, a, b => eqG a b
  | .ne, a, b => (eqG a b).map (!·)
  | .is, a, .none => some (isNoneD a)
  | .isnot, a, .none => some (!isNoneD a)
  | .is, .bool a, .bool b => some (decide (a = b))
  | .isnot, .bool a, .bool b => some (!decide (a = b))
  | .isin, a, .list xs => if SeqAt.shaped a && SeqAt.shaped (.list xs) then some (xs.any fun z => PyData.eqv z a) else none
  | .notin, a, .list xs => if SeqAt.shaped a && SeqAt.shaped (.list xs) then some (!xs.any fun z => PyData.eqv z a) else none
  | .isin, a, .tuple xs => if SeqAt.shaped a && SeqAt.shaped (.tuple xs) then some (xs.any fun z => PyData.eqv z a) else none
  | .notin, a, .tuple xs => if SeqAt.shaped a && SeqAt.shaped (.tuple xs) then some (!xs.any fun z => PyData.eqv z a) else none
  | .isin, .str a, .str b => some (inS a b)
  | .notin, .str a, .str b => some (!inS a b)
  | _, _, _ => none
def truth : D → Option Bool
  | .none => some false
  | .bool b => some b
  | .int i => some (i != 0)
  | .str s => if s.length ≤ sizeLine then some ((s.length : Int) != 0) else none
  | .list xs => some (!xs.isEmpty)
  | .tuple xs => some (!xs.isEmpty)
  | .dict _ => none
def idxD : D → D → Option D
  | .list xs, .int i => atI xs i
  | .tuple xs, .int i => atI xs i
  | .str z, .int i => if z.length ≤ sizeLine then (atI z.cps.toList i).map fun c => .str ⟨#[c]⟩ else none
  | _, _ => none
def cutL {α : Type} (xs : List α) (lo hi : Option Int) : List α := (xs.drop (HT.sIx xs.length 0 lo)).take (HT.sIx xs.length xs.length hi - HT.sIx xs.length 0 lo)
def slcD (d : D) (lo hi : Option Int) : Option Opd :=
  match d with
  | .list xs => some (.fresh (.list (cutL xs lo hi)))
  | .tuple xs => some (.val (.tuple (cutL xs lo hi)))
  | .str z => if z.length ≤ sizeLine then some (.val (.str (cutS z lo hi))) else none
  | _ => none
def revD : D → Option Opd
  | .list xs => some (.fresh (.list xs.reverse))
  | .tuple xs => some (.val (.tuple xs.reverse))
  | _ => none
def boolD : D → Option Bool
  | .bool b => some b
  | _ => none
def insI (x : Int) : List Int → List Int
  | [] => [x]
  | y :: r => if x ≤ y then x :: y :: r else y :: insI x r
def sortI : List Int → List Int
  | [] => []
  | x :: r => insI x (sortI r)
def insL (x : List Int) : List (List Int) → List (List Int)
  | [] => [x]
  | y :: r => if HT.lexLt y x then y :: insL x r else x :: y :: r
def sortL : List (List Int) → List (List Int)
  | [] => []
  | x :: r => insL x (sortL r)
def tupI : D → Option (List Int)
  | .tuple ds => if ds.isEmpty then none else ds.mapM intD
  | _ => none
def tupOf (ns : List Int) : D := .tuple (ns.map PyData.int)
def maxI : Int → List Int → Int
  | m, [] => m
  | m, x :: r => maxI (if m < x then x else m) r
def minI : Int → List Int → Int
  | m, [] => m
  | m, x :: r => minI (if x < m then x else m) r
def items : D → Option (List D)
  | .list xs => some xs
  | .tuple xs => some xs
  | _ => none
def lenD : D → Option Nat
  | .list xs => some xs.length
  | .tuple xs => some xs.length
  | .str z => if z.length ≤ sizeLine then some z.length else none
  | _ => none
def chs (z : Str) : List D := z.cps.toList.map fun c => .str ⟨#[c]⟩
/-- what is walked -/
def itemsI : D → Option (List D)
  | .list xs => some xs
  | .tuple xs => some xs
  | .str z => if z.length ≤ sizeLine then some (chs z) else none
  | _ => none
def biD : Bi → List D → Option Opd
  | .len, [d] => (lenD d).map fun (n : Nat) => .val (.int (n : Int))
  | .int, [.int i] => some (.val (.int i))
  | .int, [.bool b] => some (.val (.int (if b then 1 else 0)))
  | .int, [.str a] => if a.length ≤ 640 then (PySem.intText? a).map fun n => .val (.int n) else none
  | .str, [.int i] => if i.natAbs.log2 < 1920 then some (.val (.str (toString i))) else none
  | .list, [d] => (items d).map fun xs => .fresh (.list xs)
  | .tuple, [d] => (items d).map fun xs => .val (.tuple xs)
  | .all, [.list xs] => (xs.mapM boolD).map fun bs => .val (.bool (bs.all id))
  | .any, [.list xs] => (xs.mapM boolD).map fun bs => .val (.bool (bs.any id))
  | .sum, [.list xs] => (xs.mapM intD).map fun ns => .val (.int ns.sum)
  | .min1, [.list xs] => (xs.mapM intD).bind fun ns => match ns with | [] => none | n :: r => some (.val (.int (minI n r)))
  | .max1, [.list xs] => (xs.mapM intD).bind fun ns => match ns with | [] => none | n :: r => some (.val (.int (maxI n r)))
  | .min2, [.int i, .int j] => some (.val (.int (if j < i then j else i)))
  | .max2, [.int i, .int j] => some (.val (.int (if i < j then j else i)))
  | .abs, [.int i] => some (.val (.int (if i < 0 then -i else i)))
  | .sorted, [d] => (items d).bind fun xs => match xs.mapM intD with
    | some ns => some (.fresh (.list ((sortI ns).map PyData.int)))
    | none => (xs.mapM tupI).map fun ks => .fresh (.list ((sortL ks).map tupOf))
  | _, _ => none
def isTy : Ty → D → Bool
  | .int, .int _ => true
  | .int, .bool _ => true
  | .bool, .bool _ => true
  | .str, .str _ => true
  | .tuple, .tuple _ => true
  | .list, .list _ => true
  | .dict, .dict _ => true
  | _, _ => false
def findIx (x : D) : List D → Option Nat
  | [] => none
  | z :: r => if PyData.eqv z x then some 0 else (findIx x r).map (· + 1)
def mtD : Mt → D → List D → Option Opd
  | .index, .list xs, [x] => if SeqAt.shaped (.list xs) && SeqAt.shaped x then (findIx x xs).map fun j => .val (.int (j : Nat)) else none
  | .index, .tuple xs, [x] => if SeqAt.shaped (.tuple xs) && SeqAt.shaped x then (findIx x xs).map fun j => .val (.int (j : Nat)) else none
  | _, _, _ => none
def strD : D → Option Str
  | .str a => some a
  | _ => none
def strL (ys : List Str) : List D := ys.map PyData.str
def smD : Sq → Str → List D → Option Opd
  | .join, a, [d] => (items d).bind fun xs => (xs.mapM strD).bind fun ys => if (ys.map (·.length)).sum + ys.length * a.length ≤ 16777216 then some (.val (.str (Txt.join a ys))) else none
  | .split, a, [.str b] => if (b.length == 0) = false ∧ a.length + 2 ≤ sizeLine then some (.fresh (.list (strL (Txt.split a b)))) else none
  | .part, a, [.str b] => if (b.length == 0) = false ∧ a.length ≤ sizeLine then some (.val (.tuple [.str (Txt.partition a b).1, .str (Txt.partition a b).2.1, .str (Txt.partition a b).2.2])) else none
  | .starts, a, [.str b] => some (.val (.bool (Txt.startswith a b)))
  | .find, a, [.str b] => some (.val (.int (Txt.find a b)))
  | .count, a, [.str b] => some (.val (.int (Txt.count a b)))
  | .upper, a, [] => if a.length ≤ 5592405 then some (.val (.str (Txt.upper a))) else none
  | .find2, a, [.str b, .int i] => some (.val (.int (Txt.find3 a b i)))
  | _, _, _ => none
/-- what has methods: a list, a tuple -/
def rcv : D → Option Bool
  | .list _ => some true
  | .tuple _ => some false
  | _ => none
def muD : Mu → D → List D → Option D
  | .append, .list xs, [x] => if xs.length < sizeLine then some (.list (xs ++ [x])) else none
  | .extend, .list xs, [.list ys] => if xs.length + ys.length ≤ sizeLine then some (.list (xs ++ ys)) else none
  | .extend, .list xs, [.tuple ys] => if xs.length + ys.length ≤ sizeLine then some (.list (xs ++ ys)) else none
  | .insert, .list xs, [.int i, x] => if xs.length < sizeLine ∧ 0 ≤ i ∧ i < 2 ^ 63 then some (.list (xs.take i.toNat ++ [x] ++ xs.drop i.toNat)) else none
  | _, _, _ => none
def setD : D → D → D → Option D
  | .list xs, .int i, x => (ixN xs.length i).map fun j => .list (xs.set j x)
  | _, _, _ => none
/-- the ints of a range -/
def rng (a : Int) (n : Nat) : List D := (List.range n).map fun k => .int (a + (k : Nat))
def rngOk (i : Int) : Bool := decide (i.natAbs.log2 < 62)

/-! ### the text -/
inductive Tg where
  | nm (i : Nat) | tp (is : List Nat)
mutual
inductive Ex where
  | var (i : Nat)
  | int (n : Int) | bl (b : Bool) | non | str (s : Str)
  | gc (x : Str) (d : D)
  | tup (es : Exs) | lst (es : Exs)
  | bin (op : Bop) (a b : Ex)
  | neg (a : Ex) | not (a : Ex)
  | cmp (op : Cop) (a b : Ex)
  | chain (op op' : Cop) (a b c : Ex)
  | bop (isAnd : Bool) (es : Exs)
  | ite (c a b : Ex)
  | idx (a i : Ex)
  | slc (a : Ex) (lo hi : Oe)
  | rev (a : Ex)
  | call (f : Nat) (lent : List Bool) (args : Exs)
  | callK (f : Nat) (lent : List Bool) (args kargs : Exs) (ks : List Str) (perm : List Nat)
  | bi (b : Bi) (args : Exs)
  | isi (a : Ex) (ts : List Ty)
  | meth (m : Mt) (o : Ex) (args : Exs)
  | dct (kvs : List (Int × Int))
  | pop (i : Nat) (args : Exs)
  | lrg (a b : Ex)
  | gcd (a b : Ex)
  | prm (a b : Ex)
  | rgx (tup dn : Bool) (a b : Ex)
  | callG (f : Nat) (lent : List Bool) (a : Ex) (args : Exs)
  | comp (own : List Nat) (elt : Ex) (tg : Tg) (it : Itr) (ifs : Exs)
  | comp2 (own vs : List Nat) (elt : Ex) (tg : Tg) (it : Itr) (ifs : Exs) (tg' : Tg) (it' : Itr) (ifs' : Exs)
  | sm (m : Sq) (o : Ex) (args : Exs)
  | dget (kvs : List (Int × Int)) (a b : Ex)
  /-- a def's name as a value -/
  | fnc (n : Str)
  /-- what a dict of the module has for a text -/
  | kdx (n : Str) (kvs : List (Str × D)) (a : Ex)
  /-- a call of what a name holds: one of these defs -/
  | callV (i : Nat) (fs : List (Str × Nat × List Bool)) (args : Exs)
  /-- what an error was made with; whether it is of a class -/
  | ev (ks : List Str) (a : Ex)
  | isx (ks : List Str) (a : Ex) (c : Str)
  /-- C(a).value -/
  | mkv (c : Str) (a : Ex)
  | chain3 (o1 o2 o3 : Cop) (a b c d : Ex)
inductive Exs where
  | nil | cons (e : Ex) (r : Exs)
inductive Oe where
  | no | some (e : Ex)
inductive Itr where
  | seq (e : Ex) | r1 (a : Ex) | r2 (a b : Ex) | zip (a b : Ex) | enm (a : Ex) | rd (a b : Ex)
end
mutual
inductive Sm where
  | set (i : Nat) (e : Ex)
  | unp (is : List Nat) (e : Ex)
  | par (is : List Nat) (es : Exs)
  | aug (i : Nat) (op : Bop) (e : Ex)
  | sto (i : Nat) (ix e : Ex)
  | pst (i : Nat) (ix : Ex) (j : Nat) (jx : Ex) (xs : Exs)
  | augS (i : Nat) (ix : Ex) (op : Bop) (e : Ex)
  | mut (m : Mu) (i : Nat) (args : Exs)
  | expr (e : Ex)
  | ret (e : Ex) | retN
  | ite (c : Ex) (t e : Sms)
  | for_ (tg : Tg) (it : Itr) (body : Sms)
  | whl (fuel : Nat) (c : Ex) (body : Sms)
  | brk | cnt | pass
  | rais (cn : Str) (e : Ex)
  | throwK (cn : Str) (x : Ex)
  | throw (cn : Str) (e : Ex)
  | tryN (body : Sms) (known : List Str) (cl : List (Str × Nat × Nat × Act))
inductive Sms where
  | nil | cons (s : Sm) (r : Sms)
end

/-! ### calls -/
inductive CR where
  | ok (fr : Bool) (d : D) (ls : List D) | exc (c : Str) (d : D) | stuck
abbrev CF := Nat → List D → CR
mutual
def noRef : D → Bool
  | .none => true
  | .bool _ => true
  | .int _ => true
  | .str _ => true
  | .tuple xs => noRefs xs
  | .list _ => false
  | .dict _ => false
def noRefs : List D → Bool
  | [] => true
  | x :: r => noRef x && noRefs r
end
def lstNoRef : D → Bool
  | .list xs => noRefs xs
  | _ => false
def okRes (fr : Bool) (d : D) : Bool := noRef d || (fr && lstNoRef d)
/-- the data that the arguments are; the slots lent; the own slots that are but read -/
def argD (e : Fm) : List Bool → List Opd → Option (List D × List Nat × List Nat)
  | [], [] => some ([], [], [])
  | true :: ls, .slot i :: os => match e[i]?, argD e ls os with
    | some (.own _ d), some (ds, ln, bo) => some (d :: ds, i :: ln, bo)
    | _, _ => none
  | false :: ls, .slot i :: os => match e[i]?, argD e ls os with
    | some (.own _ d), some (ds, ln, bo) => some (d :: ds, ln, i :: bo)
    | some (.val d), some (ds, ln, bo) => some (d :: ds, ln, bo)
    | _, _ => none
  | false :: ls, .val d :: os => match argD e ls os with
    | some (ds, ln, bo) => some (d :: ds, ln, bo)
    | _ => none
  | _, _ => none
def putL (e : Fm) : List Nat → List D → Option Fm
  | [], [] => some e
  | i :: is, d :: ds => match e[i]? with
    | some (.own l _) => putL (e.set i (.own l d)) is ds
    | _ => none
  | _, _ => none
def doCall (cf : CF) (f : Nat) (lent : List Bool) (os : List Opd) : M Opd := fun e =>
  match argD e lent os with
  | none => .stuck
  | some (ds, ln, bo) =>
    if ln.Nodup ∧ ∀ i ∈ ln, i ∉ bo then
      match cf f ds with
      | .ok fr d ls => if bo = [] ∨ (okRes fr d = true ∧ ls.all lstNoRef = true) then (match putL e ln ls with | some e1 => .ok (if fr then .fresh d else .val d) e1 | none => .stuck) else .stuck
      | .exc c d => if ln = [] ∧ (bo = [] ∨ noRef d = true) then .exc c d e else .stuck
      | .stuck => .stuck
    else .stuck
/-- a call that a new list is lent to, which nobody else holds -/
def doCallG (cf : CF) (f : Nat) (lent : List Bool) (d0 : D) (os : List Opd) : M Opd := fun e =>
  match lent with
  | true :: ls => match argD e ls os with
    | some (ds, [], []) => match cf f (d0 :: ds) with
      | .ok fr d _ => .ok (if fr then .fresh d else .val d) e
      | _ => .stuck
    | _ => .stuck
  | _ => .stuck
def callGM (cf : CF) (f : Nat) (lent : List Bool) (p : M Opd) (q : M (List Opd)) : M Opd := fun e =>
  match p e with
  | .ok (.fresh d0) e1 => match q e1 with
    | .ok os e2 => doCallG cf f lent d0 os e2
    | _ => .stuck
  | _ => .stuck
def setV (e : Fm) (i : Nat) (s : Slot) : Option Fm :=
  match e[i]? with
  | some (.own true _) => none
  | some _ => some (e.set i s)
  | none => none
def setVs (e : Fm) : List Nat → List D → Option Fm
  | [], [] => some e
  | i :: is, d :: ds => (setV e i (.val d)).bind fun e1 => setVs e1 is ds
  | _, _ => none
def bindTg : Tg → D → Fm → Option Fm
  | .nm i, d, e => setV e i (.val d)
  | .tp is, .tuple ds, e => setVs e is ds
  | .tp _, _, _ => none
def wipeF (e : Fm) : List Nat → Option Fm
  | [] => some e
  | v :: vs => (wipeF e vs).bind fun e1 => match e1[v]? with
    | some (.own _ _) => none
    | _ => some (e1.set v .un)
def backF (e0 : Fm) (e : Fm) : List Nat → Fm
  | [] => e
  | v :: vs => (backF e0 e vs).set v ((e0[v]?).getD .un)
/-- a comprehension's loop: turn gives what one item makes -/
def lcLoop (turn : D → M (Option D)) (own : List Nat) : List D → List D → M (List D)
  | [], acc => M.pure acc
  | d :: ds, acc => fun e =>
    match turn d e with
    | .ok r e1 => match wipeF e1 own with
      | some e2 => lcLoop turn own ds (match r with | some y => acc ++ [y] | none => acc) e2
      | none => .stuck
    | _ => .stuck

def permO (perm : List Nat) (ks : List Str) (os zs : List Opd) : Option (List Opd) := if zs.length = ks.length ∧ (os ++ zs).length = perm.length then perm.mapM fun j => (os ++ zs)[j]? else none
def derAll : List Opd → M (List D)
  | [] => M.pure []
  | o :: os => (der o).bind fun d => (derAll os).bind fun ds => M.pure (d :: ds)
/-- an operand's data -/
def pk (p : M Opd) : M D := p.bind fun x => der (peek x)
/-- .. as a test -/
def tst (p : M Opd) : M Bool := (pk p).bind fun d => M.opt (truth d)
/-- two operands, the first by what it is when both are there -/
def two (p q : M Opd) (f : D → D → Option Opd) : M Opd := p.bind fun x => q.bind fun y => (der (peek x)).bind fun dx => (der (peek y)).bind fun dy => M.opt (f dx dy)
def tk (p : M Opd) : M D := p.bind take
def lrgD : D → D → Option Opd
  | .int i, .int j => if rngOk i && rngOk j && lenOk (j - i).toNat then some (.fresh (.list (rng i (j - i).toNat))) else none
  | _, _ => none
/-- tuple(range(a, b)), list or tuple of range(a, b, -1) -/
def rgxD (tup dn : Bool) : D → D → Option Opd
  | .int i, .int j =>
    if rngOk i && rngOk j then (if dn then
      (if lenOk (i - j).toNat then (let xs := (List.range (i - j).toNat).map fun k => PyData.int (i + (k : Nat) * (-1)); some (if tup then .val (.tuple xs) else .fresh (.list xs))) else none)
    else (if lenOk (j - i).toNat then some (if tup then .val (.tuple (rng i (j - i).toNat)) else .fresh (.list (rng i (j - i).toNat))) else none)) else none
  | _, _ => none
def gcdD : D → D → Option Opd
  | .int i, .int j => some (.val (.int ((Nat.gcd i.natAbs j.natAbs : Nat) : Int)))
  | _, _ => none
/-- list(permutations(range(a, b))) -/
def prmD : D → D → Option Opd
  | .int i, .int j => if rngOk i && rngOk j && Pm.allOk (j - i).toNat then some (.fresh (.list ((Pm.all (j - i).toNat).map fun row => .tuple (row.map fun (k : Nat) => .int (i + (k : Nat)))))) else none
  | _, _ => none
def r1D : D → Option (List D)
  | .int j => if rngOk j && lenOk j.toNat then some (rng 0 j.toNat) else none
  | _ => none
def r2D : D → D → Option (List D)
  | .int i, .int j => if rngOk i && rngOk j && lenOk (j - i).toNat then some (rng i (j - i).toNat) else none
  | _, _ => none
/-- range(a, b, -1) -/
def rdn (i : Int) (n : Nat) : List D := (List.range n).map fun k => PyData.int (i + (k : Nat) * (-1))
def rdD : D → D → Option (List D)
  | .int i, .int j => if rngOk i && rngOk j && lenOk (i - j).toNat then some (rdn i (i - j).toNat) else none
  | _, _ => none
def zipD : D → D → Option (List D)
  | .list xs, .list ys => some (List.zipWith (fun x y => .tuple [x, y]) xs ys)
  | .tuple xs, .tuple ys => some (List.zipWith (fun x y => .tuple [x, y]) xs ys)
  | _, _ => none
def enmD : D → Option (List D)
  | .list xs => some (List.zipWith (fun x y => .tuple [x, y]) (rng 0 xs.length) xs)
  | .tuple xs => some (List.zipWith (fun x y => .tuple [x, y]) (rng 0 xs.length) xs)
  | _ => none
def turnM (tg : Tg) (test : M Bool) (elt : M D) (d : D) : M (Option D) := fun e1 =>
  match bindTg tg d e1 with
  | none => .stuck
  | some e2 => M.bind test (fun t => if t then M.map some elt else M.pure none) e2
def compM (own : List Nat) (tg : Tg) (it : M (List D)) (test : M Bool) (elt : M D) : M Opd := it.bind fun ds => fun e =>
  match wipeF e own with
  | none => .stuck
  | some e0 => match lcLoop (turnM tg test elt) own ds [] e0 with
    | .ok ys e3 => .ok (.fresh (.list ys)) (backF e e3 own)
    | _ => .stuck
/-- two fors: the inner one goes on with what is told so far -/
def lcLoop2 (turn : D → List D → M (List D)) (own : List Nat) : List D → List D → M (List D)
  | [], acc => M.pure acc
  | d :: ds, acc => fun e =>
    match turn d acc e with
    | .ok acc' e1 => match wipeF e1 own with
      | some e2 => lcLoop2 turn own ds acc' e2
      | none => .stuck
    | _ => .stuck
def innM (vs : List Nat) (tg : Tg) (it : M (List D)) (test : M Bool) (elt : M D) (acc : List D) : M (List D) := it.bind fun ds => fun e =>
  match wipeF e vs with
  | none => .stuck
  | some e0 => lcLoop (turnM tg test elt) vs ds acc e0
def turn2 (tg : Tg) (test : M Bool) (inner : List D → M (List D)) (d : D) (acc : List D) : M (List D) := fun e1 =>
  match bindTg tg d e1 with
  | none => .stuck
  | some e2 => M.bind test (fun t => if t then inner acc else M.pure acc) e2
def compM2 (own vs : List Nat) (tg : Tg) (it : M (List D)) (test : M Bool) (tg' : Tg) (it' : M (List D)) (test' : M Bool) (elt : M D) : M Opd := it.bind fun ds => fun e =>
  match wipeF e own with
  | none => .stuck
  | some e0 => match lcLoop2 (turn2 tg test (innM vs tg' it' test' elt)) own ds [] e0 with
    | .ok ys e3 => if ys.length ≤ sizeLine then .ok (.fresh (.list ys)) (backF e e3 own) else .stuck
    | _ => .stuck
def ownAt (e : Fm) (i : Nat) (f : D → Option D) : Option Fm :=
  match e[i]? with
  | some (.own l d) => (f d).map fun d' => e.set i (.own l d')
  | _ => none
def isOwn (e : Fm) (i : Nat) : Bool :=
  match e[i]? with
  | some (.own _ _) => true
  | _ => false
def ownVal (e : Fm) (i : Nat) : Option D :=
  match e[i]? with
  | some (.own _ d) => some d
  | _ => none
/-- l.pop(), l.pop(i) -/
def popD : D → List D → Option (D × D)
  | .list xs, [] => (xs[xs.length - 1]?).map fun y => (y, .list xs.dropLast)
  | .list xs, [.int i] => (ixN xs.length i).bind fun k => (xs[k]?).map fun y => (y, .list (xs.eraseIdx k))
  | _, _ => none
def popM (i : Nat) (p : M (List D)) : M Opd := fun e => if isOwn e i then M.bind p (fun ds e1 => match e1[i]? with
    | some (.own l o) => match popD o ds with
      | some (y, o') => .ok (.val y) (e1.set i (.own l o'))
      | none => .stuck
    | _ => .stuck) e else .stuck
/-- what a display of ints has for a key: the last one told -/
def lookI (kvs : List (Int × Int)) (i : Int) : Option Int := kvs.foldl (fun r p => if p.1 = i then some p.2 else r) none
def keyD : Key → D
  | .inl i => .int i
  | .inr s => .str s
def dctKV (kvs : List (Int × Int)) : List (Key × V) := mergeK [] (kvs.map fun p => ((.inl p.1 : Key), V.int p.2))
/-- a dict that is only ever asked for its kind -/
def dctD (kvs : List (Int × Int)) : D := .dict ((dctKV kvs).map fun p => (keyD p.1, PyData.none))
/-- a def as a value -/
def fnD (n : Str) : D := .dict [(.list [], .str n)]
def isFn : List (D × D) → Option Str
  | [(.list [], .str n)] => some n
  | _ => none
/-- an error as a value: its class, what it was made with -/
def errD (cn : Str) (d : D) : D := .dict [(.list [.none], .str cn), (.list [], d)]
def isEr : List (D × D) → Option (Str × D)
  | [(.list [.none], .str n), (.list [], d)] => some (n, d)
  | _ => none
def isFnD : D → Bool
  | .dict kvs => (isFn kvs).isSome || (isEr kvs).isSome
  | _ => false
def kdD (kvs : List (Str × D)) : D → Option Opd
  | .str z => (kvs.lookup z).map .val
  | _ => none
def evD (ks : List Str) : D → Option D
  | .dict kvs => (isEr kvs).bind fun p => if ks.contains p.1 = true then some p.2 else none
  | _ => none
/-- whether except c takes an error of the class cn -/
def catches (c cn : Str) : Bool := decide (c = cn) || decide (c = ("JumpError" : Str))
def isxB (c cn : Str) : Bool := decide (c = ("ValueError" : Str)) || catches c cn
def isxD (ks : List Str) (c : Str) : D → Option Bool
  | .dict kvs => (isEr kvs).bind fun p => if ks.contains p.1 = true then some (isxB c p.1) else none
  | _ => none
def fnAt (e : Fm) (i : Nat) (fs : List (Str × Nat × List Bool)) : Option (Nat × List Bool) :=
  match e[i]? with
  | some (.val (.dict kvs)) => (isFn kvs).bind fun n => fs.lookup n
  | _ => none
section
variable (cf : CF)
mutual
def evE : Ex → M Opd
  | .var i => fun e => match e[i]? with
    | some (.val d) => .ok (.val d) e
    | some (.own _ _) => .ok (.slot i) e
    | _ => .stuck
  | .int n => M.pure (.val (.int n))
  | .bl b => M.pure (.val (.bool b))
  | .non => M.pure (.val .none)
  | .str s => M.pure (.val (.str s))
  | .gc _ d => M.pure (.val d)
  | .tup es => (evTs es).bind fun ds => M.opt (if ds.length ≤ sizeLine then some (.val (.tuple ds)) else none)
  | .lst es => (evTs es).bind fun ds => M.opt (if ds.length ≤ sizeLine then some (.fresh (.list ds)) else none)
  | .bin op a b => two (evE a) (evE b) (binD op)
  | .neg a => (pk (evE a)).bind fun dx => M.opt ((intD dx).map fun i => .val (.int (-i)))
  | .not a => (tst (evE a)).bind fun b => M.pure (.val (.bool (!b)))
  | .cmp op a b => two (evE a) (evE b) fun dx dy => (cmpD op dx dy).map fun b => .val (.bool b)
  | .chain op op' a b c => (evE a).bind fun x => (evE b).bind fun y => (der (peek x)).bind fun dx => (der (peek y)).bind fun dy =>
      (M.opt (cmpD op dx dy)).bind fun t => if t then (evE c).bind fun z => (der (peek y)).bind fun dy => (der (peek z)).bind fun dz => M.opt ((cmpD op' dy dz).map fun b => .val (.bool b)) else M.pure (.val (.bool false))
  | .bop k es => evB k es
  | .ite c a b => (tst (evE c)).bind fun t => if t then evE a else evE b
  | .idx a i => two (evE a) (evE i) fun dx dy => (idxD dx dy).map .val
  | .slc a lo hi => (evE a).bind fun x => (evO lo).bind fun l => (evO hi).bind fun h => (der (peek x)).bind fun dx => M.opt (slcD dx l h)
  | .rev a => (pk (evE a)).bind fun dx => M.opt (revD dx)
  | .call f lent args => (evAs args).bind fun os => doCall cf f lent os
  | .callK f lent args kargs ks perm => (evAs args).bind fun os => (evAs kargs).bind fun zs => (M.opt (permO perm ks os zs)).bind fun os' => doCall cf f lent os'
  | .bi b args => (evAs args).bind fun os => (derAll os).bind fun ds => M.opt (biD b ds)
  | .isi a ts => (pk (evE a)).bind fun dx => M.opt (if isFnD dx = true then none else some (.val (.bool (ts.any fun t => isTy t dx))))
  | .fnc n => M.pure (.val (fnD n))
  | .mkv _ a => (tk (evE a)).bind fun d => M.pure (.val d)
  | .ev ks a => (pk (evE a)).bind fun dx => M.opt ((evD ks dx).map .val)
  | .isx ks a c => (pk (evE a)).bind fun dx => M.opt ((isxD ks c dx).map fun b => .val (.bool b))
  | .kdx _ kvs a => (pk (evE a)).bind fun dx => M.opt (kdD kvs dx)
  | .callV i fs args => fun e => match fnAt e i fs with
    | some p => M.bind (evAs args) (fun os => doCall cf p.1 p.2 os) e
    | none => .stuck
  | .meth m o args => (evE o).bind fun x => (der (peek x)).bind fun d0 => (M.opt (rcv d0)).bind fun k => (evAs args).bind fun os => (der (peek x)).bind fun dx => (derAll os).bind fun ds => M.opt (if rcv dx = some k then mtD m dx ds else none)
  | .dct kvs => M.pure (.val (dctD kvs))
  | .pop i args => popM i (evTs args)
  | .lrg a b => two (evE a) (evE b) lrgD
  | .gcd a b => two (evE a) (evE b) gcdD
  | .rgx tup dn a b => two (evE a) (evE b) (rgxD tup dn)
  | .callG f lent a args => callGM cf f lent (evE a) (evAs args)
  | .comp own elt tg it ifs => compM own tg (evI it) (evFs ifs) (tk (evE elt))
  | .prm a b => two (evE a) (evE b) prmD
  | .comp2 own vs elt tg it ifs tg' it' ifs' => compM2 own vs tg (evI it) (evFs ifs) tg' (evI it') (evFs ifs') (tk (evE elt))
  | .sm m o args => (pk (evE o)).bind fun d0 => (M.opt (strD d0)).bind fun a => (evAs args).bind fun os => (derAll os).bind fun ds => M.opt (smD m a ds)
  | .dget kvs a b => (pk (evE a)).bind fun dx => (M.opt (intD dx)).bind fun i => (evE b).bind fun y => match lookI kvs i with
      | some n => M.pure (.val (.int n))
      | none => M.pure y
  | .chain3 o1 o2 o3 a b c d => (evE a).bind fun x => (evE b).bind fun y => (der (peek x)).bind fun dx => (der (peek y)).bind fun dy =>
      (M.opt (cmpD o1 dx dy)).bind fun t => if t then (evE c).bind fun z => (der (peek y)).bind fun dy => (der (peek z)).bind fun dz => (M.opt (cmpD o2 dy dz)).bind fun t2 => if t2 then (evE d).bind fun w => (der (peek z)).bind fun dz => (der (peek w)).bind fun dw => M.opt ((cmpD o3 dz dw).map fun b => .val (.bool b)) else M.pure (.val (.bool false)) else M.pure (.val (.bool false))
def evB (k : Bool) : Exs → M Opd
  | .nil => fun _ => .stuck
  | .cons a r => match r with
    | .nil => evE a
    | _ => (evE a).bind fun x => (der (peek x)).bind fun dx => (M.opt (truth dx)).bind fun t => if t = k then evB k r else M.pure x
/-- taken values, one behind the other -/
def evTs : Exs → M (List D)
  | .nil => M.pure []
  | .cons e r => (tk (evE e)).bind fun d => (evTs r).bind fun ds => M.pure (d :: ds)
/-- operands -/
def evAs : Exs → M (List Opd)
  | .nil => M.pure []
  | .cons e r => (evE e).bind fun x => (evAs r).bind fun os => M.pure (peek x :: os)
def evO : Oe → M (Option Int)
  | .no => M.pure none
  | .some e => (pk (evE e)).bind fun d => M.opt ((intD d).map some)
/-- all tests -/
def evFs : Exs → M Bool
  | .nil => M.pure true
  | .cons e r => (tst (evE e)).bind fun t => if t then evFs r else M.pure false
def evI : Itr → M (List D)
  | .seq e => (tk (evE e)).bind fun d => M.opt (itemsI d)
  | .r1 a => (pk (evE a)).bind fun d => M.opt (r1D d)
  | .r2 a b => (evE a).bind fun x => (evE b).bind fun y => (der (peek x)).bind fun dx => (der (peek y)).bind fun dy => M.opt (r2D dx dy)
  | .zip a b => (tk (evE a)).bind fun dx => (tk (evE b)).bind fun dy => M.opt (zipD dx dy)
  | .rd a b => (evE a).bind fun x => (evE b).bind fun y => (der (peek x)).bind fun dx => (der (peek y)).bind fun dy => M.opt (rdD dx dy)
  | .enm a => (tk (evE a)).bind fun dx => M.opt (enmD dx)
end

/-! ### statements -/
inductive SR where
  | next (e : Fm) | ret (fr : Bool) (d : D) (e : Fm) | brk (e : Fm) | cnt (e : Fm) | exc (c : Str) (d : D) (e : Fm) | stuck
def SR.of {α : Type} (r : R α) (f : α → Fm → SR) : SR :=
  match r with
  | .ok a e => f a e
  | .exc c d e => .exc c d e
  | .stuck => .stuck
def SR.opt : Option Fm → SR
  | some e => .next e
  | none => .stuck
/-- an operand is stored in slot i -/
def putO (e : Fm) (i : Nat) : Opd → Option Fm
  | .val d => setV e i (.val d)
  | .fresh d => setV e i (.own false d)
  | .slot j => match e[j]? with
    | some (.own false d) => setV (e.set j (.val d)) i (.val d)
    | some (.val d) => setV e i (.val d)
    | _ => none
def putOs (e : Fm) : List Nat → List Opd → Option Fm
  | [], [] => some e
  | i :: is, o :: os => (putO e i o).bind fun e1 => putOs e1 is os
  | _, _ => none
def retO (o : Opd) (e : Fm) : SR :=
  match o with
  | .val d => .ret false d e
  | .fresh d => .ret true d e
  | .slot i => match e[i]? with
    | some (.own false d) => .ret true d e
    | some (.val d) => .ret false d e
    | _ => .stuck
def augGet (e : Fm) (i : Nat) : D → Option D
  | .int n => if 0 ≤ n then (ownVal e i).bind fun o => idxD o (.int n) else none
  | _ => none
/-- += and -= of ints -/
def augD (op : Bop) (a b : D) : Option Opd :=
  match op, a, b with
  | .add, .int i, .int j => some (.val (.int (i + j)))
  | .sub, .int i, .int j => some (.val (.int (i - j)))
  | _, _, _ => none
def takeX : Opd → M Opd
  | .fresh d => M.pure (.fresh d)
  | o => M.map .val (take o)
def evXsOf (f : Ex → M Opd) : Exs → M (List Opd)
  | .nil => M.pure []
  | .cons e r => (f e).bind fun x => (takeX x).bind fun x => (evXsOf f r).bind fun os => M.pure (x :: os)
def evXs (cf : CF) : Exs → M (List Opd) := evXsOf (evE cf)
def forLoop (tg : Tg) (body : Fm → SR) : List D → Fm → SR
  | [], e => .next e
  | d :: ds, e => match bindTg tg d e with
    | none => .stuck
    | some e1 => match body e1 with
      | .next e2 => forLoop tg body ds e2
      | .cnt e2 => forLoop tg body ds e2
      | .brk e2 => .next e2
      | .ret fr d e2 => .ret fr d e2
      | .exc c d e2 => .exc c d e2
      | .stuck => .stuck
def whlLoop (test : M Bool) (body : Fm → SR) : Nat → Fm → SR
  | 0, _ => .stuck
  | n + 1, e => SR.of (test e) fun t e1 => if t then (match body e1 with
      | .next e2 => whlLoop test body n e2
      | .cnt e2 => whlLoop test body n e2
      | .brk e2 => .next e2
      | .ret fr d e2 => .ret fr d e2
      | .exc c d e2 => .exc c d e2
      | .stuck => .stuck) else .next e1
def allVals (e : Fm) : List Opd → Option (List D)
  | [] => some []
  | o :: os => match der o e, allVals e os with
    | .ok d _, some ds => some (d :: ds)
    | _, _ => none
def stoM (i : Nat) (p : M D) (d : D) (e1 : Fm) : SR := if isOwn e1 i then SR.of (p e1) fun k e2 => SR.opt (ownAt e2 i fun o => setD o k d) else .stuck
/-- what except C as n: y = .. gives y: (text, n.value), n, n.value -/
def actD : Act → Str → D → D
  | .tv t, _, d => .tuple [.str t, d]
  | .keep, cn, d => errD cn d
  | .vl, _, d => d
def hitCl : List (Str × Nat × Nat × Act) → Str → D → Fm → SR
  | [], cn, d, e => .exc cn d e
  | q :: r, cn, d, e => if catches q.1 cn = true then (if q.2.1 < e.length then (match wipeF e [q.2.1] with
      | some e1 => SR.opt (setV e1 q.2.2.1 (.val (actD q.2.2.2 cn d)))
      | none => .stuck) else .stuck) else hitCl r cn d e
mutual
def evS : Sm → Fm → SR
  | .set i x => fun e => SR.of (evE cf x e) fun o e1 => SR.opt (putO e1 i o)
  | .unp is x => fun e => SR.of (tk (evE cf x) e) fun d e1 => SR.opt (bindTg (.tp is) d e1)
  | .par is xs => fun e => SR.of (evXs cf xs e) fun os e1 => SR.opt (putOs e1 is os)
  | .aug i op x => fun e => match e[i]? with
      | some (.val old) => SR.of (tk (evE cf x) e) fun d e1 => match augD op old d with
        | some (.val z) => SR.opt (setV e1 i (.val z))
        | _ => .stuck
      | _ => .stuck
  | .sto i ix x => fun e => SR.of (tk (evE cf x) e) fun d e1 => if isOwn e1 i then SR.of (tk (evE cf ix) e1) fun k e2 => SR.opt (ownAt e2 i fun o => setD o k d) else .stuck
  | .pst i ix j jx xs => fun e => SR.of (evTs cf xs e) fun ds e1 => match ds with
      | [d1, d2] => match stoM i (tk (evE cf ix)) d1 e1 with
        | .next e2 => stoM j (tk (evE cf jx)) d2 e2
        | o => o
      | _ => .stuck
  | .augS i ix op x => fun e => if isOwn e i then (SR.of (tk (evE cf ix) e) fun k e1 => match augGet e1 i k with
      | none => .stuck
      | some old => SR.of (tk (evE cf x) e1) fun d e2 => match augD op old d with
        | some (.val z) => SR.opt (ownAt e2 i fun o => setD o k z)
        | _ => .stuck) else .stuck
  | .mut m i xs => fun e => if isOwn e i then SR.of (evTs cf xs e) fun ds e1 => SR.opt (ownAt e1 i fun o => muD m o ds) else .stuck
  | .expr x => fun e => SR.of (evE cf x e) fun _ e1 => .next e1
  | .ret x => fun e => SR.of (evE cf x e) retO
  | .retN => fun e => .ret false .none e
  | .ite c t f => fun e => SR.of (tst (evE cf c) e) fun b e1 => if b then evSs t e1 else evSs f e1
  | .for_ tg it body => fun e => SR.of (evI cf it e) fun ds e1 => forLoop tg (evSs body) ds e1
  | .whl n c body => fun e => whlLoop (tst (evE cf c)) (evSs body) n e
  | .brk => .brk
  | .cnt => .cnt
  | .pass => .next
  | .rais _ _ => fun _ => .stuck
  | .throw cn x => fun e => SR.of (tk (evE cf x) e) fun d e1 => .exc cn d e1
  | .throwK cn x => fun e => SR.of (tk (evE cf x) e) fun d e1 => .exc cn d e1
  | .tryN b known cl => fun e => match evSs b e with
      | .exc cn d e1 => if known.contains cn = true then hitCl cl cn d e1 else .stuck
      | o => o
def evSs : Sms → Fm → SR
  | .nil => .next
  | .cons s r => fun e => match evS s e with
    | .next e1 => evSs r e1
    | o => o
end
end
/-! ### a table of defs -/
structure Fn where
  nm : Str
  ps : List Str
  ns : List Str
  lent : List Bool
  body : Sms
  kwp : List (List Str × List Nat) := []
def mkFm (fn : Fn) (ds : List D) : Fm := (fn.lent.zipWith (fun l d => if l then Slot.own true d else .val d) ds) ++ List.replicate (fn.ns.length - fn.ps.length) .un
def lentsOf (e : Fm) : List Bool → Nat → Option (List D)
  | [], _ => some []
  | true :: ls, i => match e[i]?, lentsOf e ls (i + 1) with
    | some (.own true d), some ds => some (d :: ds)
    | _, _ => none
  | false :: ls, i => lentsOf e ls (i + 1)
def finish (fn : Fn) : SR → CR
  | .next e => match lentsOf e fn.lent 0 with
    | some ls => .ok false .none ls
    | none => .stuck
  | .ret fr d e => match lentsOf e fn.lent 0 with
    | some ls => .ok fr d ls
    | none => .stuck
  | .exc c d _ => if fn.lent.any id then .stuck else .exc c d
  | _ => .stuck
def isOwnable : D → Bool
  | .list _ => true
  | _ => false
def run (tab : List Fn) : Nat → CF
  | 0 => fun _ _ => .stuck
  | k + 1 => fun f ds => match tab[f]? with
    | none => .stuck
    | some fn => if ds.length = fn.ps.length ∧ fn.lent.length = fn.ps.length ∧ (fn.lent.zip ds).all (fun p => !p.1 || isOwnable p.2) = true then finish fn (evSs (run tab k) fn.body (mkFm fn ds)) else .stuck
end Ev

set_option Elab.async false
set_option linter.all false
set_option maxHeartbeats 1000000
/-! how data stand in the abstract heap; the state of a frame -/
namespace Ev
open PySem L2 PySem.Spec

/-- a tuple of the written part -/
def KT (K : PySem.W.Frag) (a : Addr) (xs : List V) : Prop :=
  ∃ (o : Obj) (its : Array Value) (n : Nat), K.lookup a = some o ∧ o.cls = .type "tuple" ∧ o.data = .seq its n ∧ its.size ≤ sizeLine ∧ Vals xs its.toList ∧ o.dict = none
/-- a tuple of ours, without a dict -/
def FT (H : Hp) (a : Addr) (xs : List V) : Prop := ∃ o : Obj, o.dict = none ∧ H a = some (.frz o (.tup xs))
theorem KT.sq {K : PySem.W.Frag} {H : Hp} {a : Addr} {xs : List V} (h : KT K a xs) : SqT K H a xs := by
  obtain ⟨o, its, n, h1, h2, h3, h4, h5, _⟩ := h
  exact .inr ⟨o, its, n, h1, h2, h3, h4, h5⟩
theorem FT.sq {K : PySem.W.Frag} {H : Hp} {a : Addr} {xs : List V} (h : FT H a xs) : SqT K H a xs := by
  obtain ⟨o, _, h⟩ := h
  exact .inl (.inr ⟨o, h⟩)
/-- what the module has under a name -/
def FnK (K : PySem.W.Frag) (n : Str) (a : Addr) : Prop := PySem.W.nsIn K mainGlobals n = some (some (.ref a))
/-- an error object that is held as a value -/
def ExE (cls : Value) (d : Option Addr) (a : Addr) : HO := .ext fun h => ∃ (oe : Obj) (vs : Array Value), h.get? a = some oe ∧ Zc cls d oe ∧ oe.data = .fields vs
mutual
def Rel (K : PySem.W.Frag) (M : Addr → Prop) (H : Hp) : D → V → Prop
  | .none, v => v = .non
  | .bool b, v => v = .bl b
  | .int i, v => v = .int i
  | .str s, v => v = .str s
  | .tuple ds, v => ∃ a vs, v = .ref a ∧ ((FT H a vs ∧ ¬ M a) ∨ KT K a vs) ∧ ds.length ≤ sizeLine ∧ Rels K M H ds vs
  | .list ds, v => ∃ a vs, v = .ref a ∧ (Rd H a (.lst vs) ∧ ¬ M a) ∧ ds.length ≤ sizeLine ∧ Rels K M H ds vs
  | .dict kvs, v => match isFn kvs with
    | some n => ∃ a, v = .ref a ∧ FnK K n a
    | none => match isEr kvs with
      | some (n, _) => ∃ (a dx Cl : Addr) (y : V), v = .ref a ∧ (H a = some (ExE (.ref Cl) (some dx) a) ∧ ¬ M a) ∧ PySem.W.nsIn K mainGlobals n = some (some (.ref Cl)) ∧ (H dx = some (.xd [("value", y)]) ∧ ¬ M dx) ∧ RelK K M H kvs y
      | none => ∃ a kv, v = .ref a ∧ (H a = some (.dK kv) ∧ ¬ M a) ∧ kvs.map (·.1) = kv.map fun p => keyD p.1
/-- what an error was made with -/
def RelK (K : PySem.W.Frag) (M : Addr → Prop) (H : Hp) : List (D × D) → V → Prop
  | [_, (_, d)], y => Rel K M H d y
  | _, _ => False
def Rels (K : PySem.W.Frag) (M : Addr → Prop) (H : Hp) : List D → List V → Prop
  | [], vs => vs = []
  | d :: ds, vs => ∃ v r, vs = v :: r ∧ Rel K M H d v ∧ Rels K M H ds r
end
section
variable {K : PySem.W.Frag} {M M' : Addr → Prop} {H H' : Hp}
theorem Rd.ext {a : Addr} {u : HO} (r : Rd H a u) (hm : ¬ M a) (h1 : ∀ b x, H b = some x → ¬ M b → H' b = some x) (h2 : ∀ b, M' b → M b ∨ H b = none) : Rd H' a u ∧ ¬ M' a := by
  rcases r with r | ⟨o, r⟩
  · refine ⟨.inl (h1 _ _ r hm), fun q => ?_⟩
    rcases h2 _ q with z | z
    · exact hm z
    · rw [r] at z; cases z
  · refine ⟨.inr ⟨o, h1 _ _ r hm⟩, fun q => ?_⟩
    rcases h2 _ q with z | z
    · exact hm z
    · rw [r] at z; cases z
theorem FT.ext {a : Addr} {xs : List V} (r : FT H a xs) (hm : ¬ M a) (h1 : ∀ b x, H b = some x → ¬ M b → H' b = some x) (h2 : ∀ b, M' b → M b ∨ H b = none) : FT H' a xs ∧ ¬ M' a := by
  obtain ⟨o, ho, r⟩ := r
  refine ⟨⟨o, ho, h1 _ _ r hm⟩, fun q => ?_⟩
  rcases h2 _ q with z | z
  · exact hm z
  · rw [r] at z; cases z
mutual
theorem Rel.ext (h1 : ∀ b x, H b = some x → ¬ M b → H' b = some x) (h2 : ∀ b, M' b → M b ∨ H b = none) : ∀ (d : D) (v : V), Rel K M H d v → Rel K M' H' d v
  | .none, v, h => by simpa only [Rel] using h
  | .bool b, v, h => by simpa only [Rel] using h
  | .int i, v, h => by simpa only [Rel] using h
  | .str s, v, h => by simpa only [Rel] using h
  | .tuple ds, v, h => by
    simp only [Rel] at h ⊢
    obtain ⟨a, vs, e, q, z, r⟩ := h
    refine ⟨a, vs, e, ?_, z, Rels.ext h1 h2 ds vs r⟩
    rcases q with ⟨q, m⟩ | q
    · exact .inl (FT.ext q m h1 h2)
    · exact .inr q
  | .list ds, v, h => by
    simp only [Rel] at h ⊢
    obtain ⟨a, vs, e, ⟨q, m⟩, z, r⟩ := h
    exact ⟨a, vs, e, Rd.ext q m h1 h2, z, Rels.ext h1 h2 ds vs r⟩
  | .dict kvs, v, h => by
    simp only [Rel] at h ⊢
    cases hf : isFn kvs with
    | some n => rw [hf] at h; exact h
    | none =>
    rw [hf] at h
    have nm : ∀ {b : Addr} {x : HO}, H b = some x → ¬ M b → ¬ M' b := fun q m z => by
      rcases h2 _ z with z | z
      · exact m z
      · rw [q] at z; cases z
    cases he : isEr kvs with
    | some p =>
      rw [he] at h
      obtain ⟨a, dx, Cl, y, e, ⟨q, m⟩, k, ⟨q2, m2⟩, r⟩ := h
      exact ⟨a, dx, Cl, y, e, ⟨h1 _ _ q m, nm q m⟩, k, ⟨h1 _ _ q2 m2, nm q2 m2⟩, RelK.ext h1 h2 kvs y r⟩
    | none =>
      rw [he] at h
      obtain ⟨a, kv, e, ⟨q, m⟩, r⟩ := h
      exact ⟨a, kv, e, ⟨h1 _ _ q m, nm q m⟩, r⟩
theorem RelK.ext (h1 : ∀ b x, H b = some x → ¬ M b → H' b = some x) (h2 : ∀ b, M' b → M b ∨ H b = none) : ∀ (kvs : List (D × D)) (y : V), RelK K M H kvs y → RelK K M' H' kvs y
  | [], y, h => by simp only [RelK] at h
  | [_], y, h => by simp only [RelK] at h
  | [_, (_, d)], y, h => by
    simp only [RelK] at h ⊢
    exact Rel.ext h1 h2 d y h
  | _ :: _ :: _ :: _, y, h => by simp only [RelK] at h
theorem Rels.ext (h1 : ∀ b x, H b = some x → ¬ M b → H' b = some x) (h2 : ∀ b, M' b → M b ∨ H b = none) : ∀ (ds : List D) (vs : List V), Rels K M H ds vs → Rels K M' H' ds vs
  | [], vs, h => by simpa only [Rels] using h
  | d :: ds, vs, h => by
    simp only [Rels] at h ⊢
    obtain ⟨v, r, e, q, t⟩ := h
    exact ⟨v, r, e, Rel.ext h1 h2 d v q, Rels.ext h1 h2 ds r t⟩
end
theorem Rels.length : ∀ {ds : List D} {vs : List V}, Rels K M H ds vs → ds.length = vs.length
  | [], vs, h => by simp only [Rels] at h; rw [h]; rfl
  | d :: ds, vs, h => by
    simp only [Rels] at h
    obtain ⟨v, r, e, q, t⟩ := h
    rw [e, List.length_cons, List.length_cons, Rels.length t]
theorem Rels.nil : Rels K M H [] [] := by simp only [Rels]
theorem Rels.cons {d : D} {v : V} {ds : List D} {vs : List V} (h : Rel K M H d v) (t : Rels K M H ds vs) : Rels K M H (d :: ds) (v :: vs) := by
  simp only [Rels]
  exact ⟨v, vs, rfl, h, t⟩
theorem Rels.get : ∀ {ds : List D} {vs : List V} {i : Nat} {d : D}, Rels K M H ds vs → ds[i]? = some d → ∃ v, vs[i]? = some v ∧ Rel K M H d v
  | [], _, _, _, _, e => by simp at e
  | d :: ds, vs, 0, d', h, e => by
    simp only [Rels] at h
    obtain ⟨v, r, e1, q, t⟩ := h
    simp at e
    subst e
    exact ⟨v, by rw [e1]; rfl, q⟩
  | d :: ds, vs, i + 1, d', h, e => by
    simp only [Rels] at h
    obtain ⟨v, r, e1, q, t⟩ := h
    obtain ⟨w, h1, h2⟩ := Rels.get (i := i) t (by simpa using e)
    exact ⟨w, by rw [e1]; simpa using h1, h2⟩
theorem Rels.append : ∀ {ds es : List D} {vs ws : List V}, Rels K M H ds vs → Rels K M H es ws → Rels K M H (ds ++ es) (vs ++ ws)
  | [], es, vs, ws, h, t => by simp only [Rels] at h; rw [h]; exact t
  | d :: ds, es, vs, ws, h, t => by
    simp only [Rels] at h
    obtain ⟨v, r, e, q, u⟩ := h
    rw [e]
    exact Rels.cons q (Rels.append u t)
theorem Rels.take : ∀ {ds : List D} {vs : List V} (n : Nat), Rels K M H ds vs → Rels K M H (ds.take n) (vs.take n)
  | _, _, 0, _ => by simpa using Rels.nil
  | [], vs, n + 1, h => by simp only [Rels] at h; rw [h]; exact Rels.nil
  | d :: ds, vs, n + 1, h => by
    simp only [Rels] at h
    obtain ⟨v, r, e, q, u⟩ := h
    rw [e]
    exact Rels.cons q (Rels.take n u)
theorem Rels.drop : ∀ {ds : List D} {vs : List V} (n : Nat), Rels K M H ds vs → Rels K M H (ds.drop n) (vs.drop n)
  | _, _, 0, h => by simpa using h
  | [], vs, n + 1, h => by simp only [Rels] at h; rw [h]; exact Rels.nil
  | d :: ds, vs, n + 1, h => by
    simp only [Rels] at h
    obtain ⟨v, r, e, q, u⟩ := h
    rw [e]
    exact Rels.drop n u
theorem Rels.reverse : ∀ {ds : List D} {vs : List V}, Rels K M H ds vs → Rels K M H ds.reverse vs.reverse
  | [], vs, h => by simp only [Rels] at h; rw [h]; exact Rels.nil
  | d :: ds, vs, h => by
    simp only [Rels] at h
    obtain ⟨v, r, e, q, u⟩ := h
    rw [e, List.reverse_cons, List.reverse_cons]
    exact Rels.append (Rels.reverse u) (Rels.cons q Rels.nil)
theorem Rels.set : ∀ {ds : List D} {vs : List V} (i : Nat) {d : D} {v : V}, Rels K M H ds vs → Rel K M H d v → Rels K M H (ds.set i d) (vs.set i v)
  | [], vs, _, _, _, h, _ => by simp only [Rels] at h; rw [h]; exact Rels.nil
  | d :: ds, vs, 0, _, _, h, q' => by
    simp only [Rels] at h
    obtain ⟨v, r, e, q, u⟩ := h
    rw [e]
    exact Rels.cons q' u
  | d :: ds, vs, i + 1, _, _, h, q' => by
    simp only [Rels] at h
    obtain ⟨v, r, e, q, u⟩ := h
    rw [e]
    exact Rels.cons q (Rels.set i u q')
theorem Rels.isEmpty {ds : List D} {vs : List V} (h : Rels K M H ds vs) : ds.isEmpty = vs.isEmpty := by
  have e := h.length
  cases ds <;> cases vs <;> simp_all
/-- a value as it is to be read: its own object may be one that changes -/
def Top (K : PySem.W.Frag) (M : Addr → Prop) (H : Hp) (d : D) (a : Addr) : Prop :=
  match d with
  | .list ds => ∃ vs, H a = some (.lst vs) ∧ ds.length ≤ sizeLine ∧ Rels K M H ds vs
  | _ => False
def TopV (K : PySem.W.Frag) (M : Addr → Prop) (H : Hp) (d : D) (v : V) : Prop := Rel K M H d v ∨ ∃ a, v = .ref a ∧ Top K M H d a
theorem TopV.list {ds : List D} {v : V} (h : TopV K M H (.list ds) v) : ∃ a vs, v = .ref a ∧ Rd H a (.lst vs) ∧ ds.length ≤ sizeLine ∧ Rels K M H ds vs := by
  rcases h with h | ⟨a, e, vs, h1, h2, h3⟩
  · simp only [Rel] at h
    obtain ⟨a, vs, e, ⟨q, _⟩, z, r⟩ := h
    exact ⟨a, vs, e, q, z, r⟩
  · exact ⟨a, vs, e, .inl h1, h2, h3⟩
theorem TopV.tuple {ds : List D} {v : V} (h : TopV K M H (.tuple ds) v) : ∃ a vs, v = .ref a ∧ SqT K H a vs ∧ ds.length ≤ sizeLine ∧ Rels K M H ds vs := by
  rcases h with h | ⟨a, e, h⟩
  · simp only [Rel] at h
    obtain ⟨a, vs, e, q, z, r⟩ := h
    refine ⟨a, vs, e, ?_, z, r⟩
    rcases q with ⟨q, _⟩ | q
    · exact q.sq
    · exact q.sq
  · exact h.elim
theorem TopV.int {i : Int} {v : V} (h : TopV K M H (.int i) v) : v = .int i := by
  rcases h with h | ⟨a, e, h⟩
  · simpa only [Rel] using h
  · exact h.elim
theorem TopV.bool {i : Bool} {v : V} (h : TopV K M H (.bool i) v) : v = .bl i := by
  rcases h with h | ⟨a, e, h⟩
  · simpa only [Rel] using h
  · exact h.elim
theorem TopV.none {v : V} (h : TopV K M H .none v) : v = .non := by
  rcases h with h | ⟨a, e, h⟩
  · simpa only [Rel] using h
  · exact h.elim
theorem TopV.str {i : Str} {v : V} (h : TopV K M H (.str i) v) : v = .str i := by
  rcases h with h | ⟨a, e, h⟩
  · simpa only [Rel] using h
  · exact h.elim
theorem TopV.dictR {kvs : List (D × D)} {v : V} (h : TopV K M H (.dict kvs) v) : ∃ a, v = .ref a := by
  rcases h with h | ⟨a, e, h⟩
  · simp only [Rel] at h
    split at h
    · obtain ⟨a, e, _⟩ := h
      exact ⟨a, e⟩
    · split at h
      · obtain ⟨a, _, _, _, e, _⟩ := h
        exact ⟨a, e⟩
      · obtain ⟨a, _, e, _⟩ := h
        exact ⟨a, e⟩
  · exact h.elim
theorem TopV.fnc {kvs : List (D × D)} {n : Str} {v : V} (h : TopV K M H (.dict kvs) v) (hf : isFn kvs = some n) : ∃ a, v = .ref a ∧ FnK K n a := by
  rcases h with h | ⟨a, e, h⟩
  · simp only [Rel] at h
    rw [hf] at h
    exact h
  · exact h.elim
theorem isEr_of {kvs : List (D × D)} {n : Str} {d : D} (h : isEr kvs = some (n, d)) : kvs = [(.list [.none], .str n), (.list [], d)] := by
  unfold isEr at h
  split at h
  · cases h; rfl
  · cases h
theorem TopV.err {n : Str} {d : D} {v : V} (h : TopV K M H (errD n d) v) : ∃ (a dx Cl : Addr) (y : V), v = .ref a ∧ (H a = some (ExE (.ref Cl) (some dx) a) ∧ ¬ M a) ∧ PySem.W.nsIn K mainGlobals n = some (some (.ref Cl)) ∧ (H dx = some (.xd [("value", y)]) ∧ ¬ M dx) ∧ Rel K M H d y := by
  rcases h with h | ⟨a, e, h⟩
  · unfold errD at h
    simp only [Rel, isFn, isEr, RelK] at h
    exact h
  · exact h.elim
theorem rel_err {n : Str} {d : D} {a dx Cl : Addr} {y : V} (h1 : H a = some (ExE (.ref Cl) (some dx) a) ∧ ¬ M a) (h2 : PySem.W.nsIn K mainGlobals n = some (some (.ref Cl))) (h3 : H dx = some (.xd [("value", y)]) ∧ ¬ M dx) (h4 : Rel K M H d y) : Rel K M H (errD n d) (.ref a) := by
  unfold errD
  simp only [Rel, isFn, isEr, RelK]
  exact ⟨a, dx, Cl, y, rfl, h1, h2, h3, h4⟩
theorem TopV.dict {kvs : List (D × D)} {v : V} (h : TopV K M H (.dict kvs) v) (hf : isFnD (.dict kvs) = false) : ∃ a kv, v = .ref a ∧ H a = some (.dK kv) := by
  have hf : isFn kvs = Option.none ∧ isEr kvs = Option.none := by
    have h2 : ((isFn kvs).isSome || (isEr kvs).isSome) = false := hf
    generalize isFn kvs = o at h2
    generalize isEr kvs = o2 at h2
    cases o <;> cases o2 <;> first | exact ⟨rfl, rfl⟩ | cases h2
  rcases h with h | ⟨a, e, h⟩
  · simp only [Rel] at h
    rw [hf.1, hf.2] at h
    obtain ⟨a, kv, e, ⟨q, _⟩, _⟩ := h
    exact ⟨a, kv, e, q⟩
  · exact h.elim
mutual
theorem Rel.dp : ∀ (d : D) (v : V), d.canLay0 = true → Rel K M H d v → Dp K H v d
  | .none, v, _, h => by simp only [Rel] at h; rw [h]; exact .non
  | .bool b, v, _, h => by simp only [Rel] at h; rw [h]; exact .bl b
  | .int i, v, _, h => by simp only [Rel] at h; rw [h]; exact .int i
  | .str s, v, _, h => by simp only [Rel] at h; rw [h]; exact .str s
  | .tuple ds, v, c, h => by
    obtain ⟨a, vs, e, q, z, r⟩ := TopV.tuple (.inl h)
    rw [e]
    exact .tup q (Rels.dp ds vs (by simpa only [PyData.canLay0] using c) r)
  | .list ds, v, c, h => by
    obtain ⟨a, vs, e, q, z, r⟩ := TopV.list (.inl h)
    rw [e]
    exact .lst (.inl q) (Rels.dp ds vs (by simpa only [PyData.canLay0] using c) r)
  | .dict kvs, v, c, h => by simp only [PyData.canLay0] at c; cases c
theorem Rels.dp : ∀ (ds : List D) (vs : List V), PyData.canLayAll0 ds = true → Rels K M H ds vs → DpAll K H vs ds
  | [], vs, _, h => by simp only [Rels] at h; rw [h]; exact .nil
  | d :: ds, vs, c, h => by
    simp only [Rels] at h
    obtain ⟨v, r, e, q, u⟩ := h
    simp only [PyData.canLayAll0, Bool.and_eq_true] at c
    rw [e]
    exact .cons (Rel.dp d v c.1 q) (Rels.dp ds r c.2 u)
end
theorem TopV.dp {d : D} {v : V} (c : SeqAt.shaped d = true) (h : TopV K M H d v) : Dp K H v d := by
  have c' := SeqAt.canLay_of_shaped c
  rcases h with h | ⟨a, e, h⟩
  · exact Rel.dp d v c' h
  · cases d with
    | list ds =>
      obtain ⟨vs, h1, h2, h3⟩ := h
      rw [e]
      exact .lst (.inl (.inl h1)) (Rels.dp ds vs (by simpa only [PyData.canLay0] using c') h3)
    | _ => exact h.elim
end

/-! ### a frame -/
/-- the entry of a call: the abstract heap there, the objects that others change, the lists that were lent (slot, place) -/
structure C where
  H0 : Hp
  M0 : Addr → Prop
  lents : List (Nat × Addr)
def Wr (σ : L2.St) (e : Fm) (b : Addr) : Prop := ∃ (i : Nat) (l : Bool) (d : D), e[i]? = some (Slot.own l d) ∧ σ[i]? = some (some (V.ref b))
structure Sr (K : PySem.W.Frag) (c : C) (M : Addr → Prop) (σ : L2.St) (H : Hp) (e : Fm) : Prop where
  len : σ.length = e.length
  val : ∀ (i : Nat) (d : D), e[i]? = some (Slot.val d) → ∃ v, σ[i]? = some (some v) ∧ Rel K M H d v
  own : ∀ (i : Nat) (l : Bool) (d : D), e[i]? = some (Slot.own l d) → ∃ a, σ[i]? = some (some (V.ref a)) ∧ M a ∧ Top K M H d a ∧ (if l = true then (i, a) ∈ c.lents else c.H0 a = none)
  inj : ∀ (i j : Nat) (li lj : Bool) (di dj : D) (a : Addr), e[i]? = some (Slot.own li di) → e[j]? = some (Slot.own lj dj) → σ[i]? = some (some (V.ref a)) → σ[j]? = some (some (V.ref a)) → i = j
  keep : ∀ b x, c.H0 b = some x → (∀ p ∈ c.lents, p.2 ≠ b) → H b = some x
  m0 : ∀ b, c.M0 b → M b
  m1 : ∀ b, M b → c.M0 b ∨ c.H0 b = none
  mh : ∀ b, M b → H b ≠ none
  c0 : ∀ b, c.M0 b → c.H0 b ≠ none
  c1 : ∀ p ∈ c.lents, c.M0 p.2
structure Ext (σ : L2.St) (M : Addr → Prop) (H : Hp) (e : Fm) (M' : Addr → Prop) (H' : Hp) (e' : Fm) : Prop where
  e1 : ∀ b x, H b = some x → ¬ Wr σ e b → H' b = some x
  e2 : ∀ b, M' b → M b ∨ H b = none
  e3 : ∀ b, M b → ¬ Wr σ e b → M' b
  e4 : ∀ b, Wr σ e' b → Wr σ e b
  e5 : ∀ b, H b ≠ none → H' b ≠ none
/-- an operand stands for a value -/
def OR (K : PySem.W.Frag) (c : C) (M : Addr → Prop) (σ : L2.St) (H : Hp) (e : Fm) : Opd → V → Prop
  | .val d, v => Rel K M H d v
  | .slot i, v => σ[i]? = some (some v) ∧ ∃ s, e[i]? = some s ∧ s ≠ Slot.un
  | .fresh d, v => ∃ a, v = .ref a ∧ M a ∧ Top K M H d a ∧ c.H0 a = none ∧ ¬ Wr σ e a
section
variable {K : PySem.W.Frag} {c : C} {M M' M2 : Addr → Prop} {σ : L2.St} {H H' H2 : Hp} {e e' e2 : Fm}
theorem Sr.wr (s : Sr K c M σ H e) {b : Addr} (w : Wr σ e b) : M b := by
  obtain ⟨i, l, d, h1, h2⟩ := w
  obtain ⟨a, h3, h4, _⟩ := s.own i l d h1
  rw [h2] at h3
  cases h3
  exact h4
theorem Ext.refl : Ext σ M H e M H e := ⟨fun _ _ h _ => h, fun _ h => .inl h, fun _ h _ => h, fun _ h => h, fun _ h => h⟩
theorem Ext.trans (x : Ext σ M H e M' H' e') (y : Ext σ M' H' e' M2 H2 e2) : Ext σ M H e M2 H2 e2 where
  e1 := fun b z h w => y.e1 b z (x.e1 b z h w) fun q => w (x.e4 b q)
  e2 := fun b h => by
    rcases y.e2 b h with q | q
    · exact x.e2 b q
    · cases z : H b with
      | none => exact .inr rfl
      | some o => exact absurd q (x.e5 b (by rw [z]; exact fun w => nomatch w))
  e3 := fun b h w => y.e3 b (x.e3 b h w) fun q => w (x.e4 b q)
  e4 := fun b h => x.e4 b (y.e4 b h)
  e5 := fun b h => y.e5 b (x.e5 b h)
theorem Sr.rel (s : Sr K c M σ H e) (x : Ext σ M H e M' H' e') {d : D} {v : V} (h : Rel K M H d v) : Rel K M' H' d v :=
  Rel.ext (fun b z q m => x.e1 b z q fun w => m (s.wr w)) x.e2 d v h
theorem Sr.rels (s : Sr K c M σ H e) (x : Ext σ M H e M' H' e') {d : List D} {v : List V} (h : Rels K M H d v) : Rels K M' H' d v :=
  Rels.ext (fun b z q m => x.e1 b z q fun w => m (s.wr w)) x.e2 d v h
theorem Sr.top (s : Sr K c M σ H e) (x : Ext σ M H e M' H' e') {d : D} {a : Addr} (w : ¬ Wr σ e a) (h : Top K M H d a) : Top K M' H' d a := by
  cases d with
  | list ds =>
    obtain ⟨vs, h1, h2, h3⟩ := h
    exact ⟨vs, x.e1 _ _ h1 w, h2, s.rels x h3⟩
  | _ => exact h.elim
/-- a slot that is told stays told -/
def Keeps (e e' : Fm) : Prop := ∀ (i : Nat) (t : Slot), e[i]? = some t → t ≠ Slot.un → ∃ t', e'[i]? = some t' ∧ t' ≠ Slot.un
theorem Keeps.refl : Keeps e e := fun i t h n => ⟨t, h, n⟩
theorem Keeps.trans (x : Keeps e e') (y : Keeps e' e2) : Keeps e e2 := fun i t h n => by
  obtain ⟨t', h', n'⟩ := x i t h n
  exact y i t' h' n'
/-- behind more of the same expression an operand still stands for its value -/
theorem Sr.opd (s : Sr K c M σ H e) (x : Ext σ M H e M' H' e') (k : Keeps e e') {o : Opd} {v : V} (h : OR K c M σ H e o v) : OR K c M' σ H' e' o v := by
  cases o with
  | val d => exact s.rel x h
  | slot i =>
    obtain ⟨h1, t, h2, h3⟩ := h
    exact ⟨h1, k i t h2 h3⟩
  | fresh d =>
    obtain ⟨a, h1, h2, h3, h4, h5⟩ := h
    exact ⟨a, h1, x.e3 _ h2 h5, s.top x h5 h3, h4, fun w => h5 (x.e4 _ w)⟩
/-- an operand is looked at -/
theorem Sr.der (s : Sr K c M σ H e) {o : Opd} {v : V} (h : OR K c M σ H e o v) {d : D} (hd : der o e = .ok d e') : e' = e ∧ TopV K M H d v := by
  cases o with
  | val d' =>
    simp only [Ev.der, R.ok.injEq] at hd
    obtain ⟨rfl, rfl⟩ := hd
    exact ⟨rfl, .inl h⟩
  | fresh d' =>
    simp only [Ev.der, R.ok.injEq] at hd
    obtain ⟨rfl, rfl⟩ := hd
    obtain ⟨a, h1, h2, h3, h4, h5⟩ := h
    exact ⟨rfl, .inr ⟨a, h1, h3⟩⟩
  | slot i =>
    obtain ⟨h1, t, h2, h3⟩ := h
    simp only [Ev.der, h2] at hd
    cases t with
    | un => exact absurd rfl h3
    | val d' =>
      simp only [R.ok.injEq] at hd
      obtain ⟨rfl, rfl⟩ := hd
      obtain ⟨w, h4, h5⟩ := s.val i d' h2
      rw [h1] at h4
      cases h4
      exact ⟨rfl, .inl h5⟩
    | own l d' =>
      simp only [R.ok.injEq] at hd
      obtain ⟨rfl, rfl⟩ := hd
      obtain ⟨a, h4, h5, h6, _⟩ := s.own i l d' h2
      rw [h1] at h4
      cases h4
      exact ⟨rfl, .inr ⟨a, rfl, h6⟩⟩
theorem OR.peekV {o : Opd} {v : V} (s : Sr K c M σ H e) (h : OR K c M σ H e o v) {d : D} (hd : Ev.der (peek o) e = .ok d e') : e' = e ∧ TopV K M H d v := by
  cases o with
  | val d' => exact s.der h hd
  | slot i => exact s.der h hd
  | fresh d' => exact s.der (o := .fresh d') h hd
/-- fewer objects may change -/
theorem Rel.less (h : ∀ b, M' b → M b) {d : D} {v : V} (r : Rel K M H d v) : Rel K M' H d v := Rel.ext (fun _ _ q _ => q) (fun b q => .inl (h b q)) d v r
theorem Rels.less (h : ∀ b, M' b → M b) {d : List D} {v : List V} (r : Rels K M H d v) : Rels K M' H d v := Rels.ext (fun _ _ q _ => q) (fun b q => .inl (h b q)) d v r
theorem Top.less (h : ∀ b, M' b → M b) {d : D} {a : Addr} (r : Top K M H d a) : Top K M' H d a := by
  cases d with
  | list ds =>
    obtain ⟨vs, h1, h2, h3⟩ := r
    exact ⟨vs, h1, h2, Rels.less h h3⟩
  | _ => exact r.elim
theorem Top.rel (h : ∀ b, M' b → M b) {d : D} {a : Addr} (n : ¬ M' a) (r : Top K M H d a) : Rel K M' H d (.ref a) := by
  cases d with
  | list ds =>
    obtain ⟨vs, h1, h2, h3⟩ := r
    simp only [Rel]
    exact ⟨a, vs, rfl, ⟨.inl h1, n⟩, h2, Rels.less h h3⟩
  | _ => exact r.elim
/-- the object at a changes no more: it is no own slot's -/
theorem Sr.lessM (s : Sr K c M σ H e) {a : Addr} (w : ¬ Wr σ e a) (h0 : c.H0 a = none) : Sr K c (fun b => M b ∧ b ≠ a) σ H e where
  len := s.len
  val := fun i d h => by
    obtain ⟨v, h1, h2⟩ := s.val i d h
    exact ⟨v, h1, h2.less fun b q => q.1⟩
  own := fun i l d h => by
    obtain ⟨p, h1, h2, h3, h4⟩ := s.own i l d h
    exact ⟨p, h1, ⟨h2, fun z => w ⟨i, l, d, h, by rw [← z]; exact h1⟩⟩, h3.less fun b q => q.1, h4⟩
  inj := s.inj
  keep := s.keep
  m0 := fun b h => ⟨s.m0 b h, fun z => s.c0 b h (by rw [z]; exact h0)⟩
  m1 := fun b h => s.m1 b h.1
  mh := fun b h => s.mh b h.1
  c0 := s.c0
  c1 := s.c1
/-- the own slot i becomes a plain one -/
theorem Sr.freeze (s : Sr K c M σ H e) {i : Nat} {d : D} {a : Addr} (h : e[i]? = some (Slot.own false d)) (ha : σ[i]? = some (some (V.ref a))) :
    Sr K c (fun b => M b ∧ b ≠ a) σ H (e.set i (.val d)) ∧ Ext σ M H e (fun b => M b ∧ b ≠ a) H (e.set i (.val d)) ∧ Rel K (fun b => M b ∧ b ≠ a) H d (.ref a) ∧ Keeps e (e.set i (.val d)) := by
  have hi : i < e.length := (List.getElem?_eq_some_iff.mp h).1
  obtain ⟨a', h1, h2, h3, h4⟩ := s.own i false d h
  rw [ha] at h1
  cases h1
  have h0 : c.H0 a = none := by simpa using h4
  have r : Rel K (fun b => M b ∧ b ≠ a) H d (.ref a) := h3.rel (fun b q => q.1) fun q => q.2 rfl
  have get : ∀ (j : Nat) (t : Slot), (e.set i (.val d))[j]? = some t → (j = i ∧ t = .val d) ∨ (j ≠ i ∧ e[j]? = some t) := fun j t q => by
    by_cases z : i = j
    · subst z
      rw [List.getElem?_set_self hi] at q
      cases q
      exact .inl ⟨rfl, rfl⟩
    · rw [List.getElem?_set_ne z] at q
      exact .inr ⟨fun y => z y.symm, q⟩
  refine ⟨⟨?_, ?_, ?_, ?_, s.keep, ?_, ?_, ?_, s.c0, s.c1⟩, ⟨fun _ _ q _ => q, fun b q => .inl q.1, fun b q w => ⟨q, fun z => w ⟨i, false, d, h, by rw [z]; exact ha⟩⟩, fun b q => ?_, fun _ q => q⟩, r, fun j t q n => ?_⟩
  · rw [List.length_set]; exact s.len
  · intro j t q
    rcases get j _ q with ⟨rfl, z⟩ | ⟨z, q⟩
    · cases z
      exact ⟨_, ha, r⟩
    · obtain ⟨v, h5, h6⟩ := s.val j t q
      exact ⟨v, h5, h6.less fun b q => q.1⟩
  · intro j l t q
    rcases get j _ q with ⟨rfl, z⟩ | ⟨z, q⟩
    · cases z
    · obtain ⟨p, h5, h6, h7, h8⟩ := s.own j l t q
      exact ⟨p, h5, ⟨h6, fun y => z (s.inj j i l false t d a q h (by rw [← y]; exact h5) ha)⟩, h7.less fun b q => q.1, h8⟩
  · intro j k lj lk dj dk p q1 q2 q3 q4
    rcases get j _ q1 with ⟨_, z⟩ | ⟨_, q5⟩
    · cases z
    · rcases get k _ q2 with ⟨_, z⟩ | ⟨_, q6⟩
      · cases z
      · exact s.inj j k lj lk dj dk p q5 q6 q3 q4
  · exact fun b q => ⟨s.m0 b q, fun z => s.c0 b q (by rw [z]; exact h0)⟩
  · exact fun b q => s.m1 b q.1
  · exact fun b q => s.mh b q.1
  · obtain ⟨j, l, t, q1, q2⟩ := q
    rcases get j _ q1 with ⟨rfl, z⟩ | ⟨z, q1⟩
    · cases z
    · exact ⟨j, l, t, q1, q2⟩
  · by_cases z : i = j
    · subst z
      exact ⟨_, List.getElem?_set_self hi, fun w => nomatch w⟩
    · exact ⟨t, by rw [List.getElem?_set_ne z]; exact q, n⟩
theorem Sr.born (s : Sr K c M σ H e) {p : Addr} (h : H p = none) : c.H0 p = none := by
  cases z : c.H0 p with
  | none => rfl
  | some x =>
    exfalso
    by_cases q : ∀ r ∈ c.lents, r.2 ≠ p
    · rw [s.keep p x z q] at h; cases h
    · apply q
      intro r hr hp
      exact s.mh p (s.m0 p (by rw [← hp]; exact s.c1 r hr)) h
theorem upd_keep {p : Addr} {o : HO} (h : H p = none) : ∀ b x, H b = some x → upd H p o b = some x := fun b x q => by
  rw [upd_ne (ne_of_none q h)]
  exact q
theorem upd_some {p : Addr} {o : HO} : ∀ b, H b ≠ none → upd H p o b ≠ none := fun b q z => by
  by_cases y : b = p
  · rw [y, upd_same] at z; cases z
  · rw [upd_ne y] at z; exact q z
/-- a new object is laid, which no more changes -/
theorem Sr.lay (s : Sr K c M σ H e) {p : Addr} (h : H p = none) (o : HO) : Sr K c M σ (upd H p o) e ∧ Ext σ M H e M (upd H p o) e := by
  have up := upd_keep (o := o) h
  refine ⟨⟨s.len, fun i d q => ?_, fun i l d q => ?_, s.inj, fun b x q1 q2 => up b x (s.keep b x q1 q2), s.m0, s.m1, fun b q => upd_some b (s.mh b q), s.c0, s.c1⟩, ⟨fun b x q _ => up b x q, fun b q => .inl q, fun b q _ => q, fun b q => q, upd_some⟩⟩
  · obtain ⟨v, h1, h2⟩ := s.val i d q
    exact ⟨v, h1, Rel.ext (fun b x q _ => up b x q) (fun b q => .inl q) d v h2⟩
  · obtain ⟨a, h1, h2, h3, h4⟩ := s.own i l d q
    refine ⟨a, h1, h2, ?_, h4⟩
    cases d with
    | list ds =>
      obtain ⟨vs, h5, h6, h7⟩ := h3
      exact ⟨vs, up _ _ h5, h6, Rels.ext (fun b x q _ => up b x q) (fun b q => .inl q) ds vs h7⟩
    | _ => exact h3.elim
/-- a new object is laid, which may change -/
theorem Sr.layM (s : Sr K c M σ H e) {p : Addr} (h : H p = none) (o : HO) : Sr K c (fun b => M b ∨ b = p) σ (upd H p o) e ∧ Ext σ M H e (fun b => M b ∨ b = p) (upd H p o) e := by
  have up := upd_keep (o := o) h
  have h2' : ∀ b, (M b ∨ b = p) → M b ∨ H b = none := fun b q => by
    rcases q with q | q
    · exact .inl q
    · exact .inr (by rw [q]; exact h)
  refine ⟨⟨s.len, fun i d q => ?_, fun i l d q => ?_, s.inj, fun b x q1 q2 => up b x (s.keep b x q1 q2), fun b q => .inl (s.m0 b q), fun b q => ?_, fun b q => ?_, s.c0, s.c1⟩, ⟨fun b x q _ => up b x q, h2', fun b q _ => .inl q, fun b q => q, upd_some⟩⟩
  · obtain ⟨v, h1, h2⟩ := s.val i d q
    exact ⟨v, h1, Rel.ext (fun b x q _ => up b x q) h2' d v h2⟩
  · obtain ⟨a, h1, h2, h3, h4⟩ := s.own i l d q
    refine ⟨a, h1, .inl h2, ?_, h4⟩
    cases d with
    | list ds =>
      obtain ⟨vs, h5, h6, h7⟩ := h3
      exact ⟨vs, up _ _ h5, h6, Rels.ext (fun b x q _ => up b x q) h2' ds vs h7⟩
    | _ => exact h3.elim
  · rcases q with q | q
    · exact s.m1 b q
    · exact .inr (by rw [q]; exact s.born h)
  · rcases q with q | q
    · exact upd_some b (s.mh b q)
    · rw [q, upd_same]; exact fun z => nomatch z
/-- the list that was just made -/
theorem Sr.newList (s : Sr K c M σ H e) {p : Addr} (h : H p = none) {ds : List D} {vs : List V} (hz : ds.length ≤ sizeLine) (r : Rels K M H ds vs) :
    OR K c (fun b => M b ∨ b = p) σ (upd H p (.lst vs)) e (.fresh (.list ds)) (.ref p) := by
  refine ⟨p, rfl, .inr rfl, ⟨vs, upd_same, hz, Rels.ext (fun b x q _ => upd_keep h b x q) (fun b q => ?_) ds vs r⟩, s.born h, fun w => s.mh p (s.wr w) h⟩
  rcases q with q | q
  · exact .inl q
  · exact .inr (by rw [q]; exact h)
/-- the tuple that was just made -/
theorem Sr.newTup (s : Sr K c M σ H e) {p : Addr} {o : Obj} (ho : o.dict = none) (h : H p = none) {ds : List D} {vs : List V} (hz : ds.length ≤ sizeLine) (r : Rels K M H ds vs) :
    Rel K M (upd H p (.frz o (.tup vs))) (.tuple ds) (.ref p) := by
  simp only [Rel]
  exact ⟨p, vs, rfl, .inl ⟨⟨o, ho, upd_same⟩, fun m => s.mh p m h⟩, hz, Rels.ext (fun b x q _ => upd_keep h b x q) (fun b q => .inl q) ds vs r⟩
/-- a new list is younger than the expression -/
def Fr (H : Hp) (o : Opd) (v : V) : Prop :=
  match o with
  | .fresh _ => ∀ a, v = .ref a → H a = none
  | _ => True
theorem Fr.old (x : Ext σ M H e M' H' e') {o : Opd} {v : V} (h : Fr H' o v) : Fr H o v := by
  cases o with
  | fresh d =>
    intro a q
    have z := h a q
    cases y : H a with
    | none => rfl
    | some u => exact absurd z (x.e5 a (by rw [y]; exact fun w => nomatch w))
  | _ => trivial
/-- an operand is taken: from now on it is plain data -/
theorem Sr.take (s0 : Sr K c M σ H e) (s : Sr K c M' σ H' e') (x : Ext σ M H e M' H' e') {o : Opd} {v : V} (h : OR K c M' σ H' e' o v) (f : Fr H o v) {d : D} (hd : Ev.take o e' = .ok d e2) :
    ∃ M2, Sr K c M2 σ H' e2 ∧ Ext σ M H e M2 H' e2 ∧ Keeps e' e2 ∧ Rel K M2 H' d v := by
  cases o with
  | val d' =>
    simp only [Ev.take, R.ok.injEq] at hd
    obtain ⟨rfl, rfl⟩ := hd
    exact ⟨M', s, x, .refl, h⟩
  | fresh d' =>
    simp only [Ev.take, R.ok.injEq] at hd
    obtain ⟨rfl, rfl⟩ := hd
    obtain ⟨a, h1, h2, h3, h4, h5⟩ := h
    have f' : H a = none := f a h1
    refine ⟨fun b => M' b ∧ b ≠ a, s.lessM h5 h4, ⟨x.e1, fun b q => x.e2 b q.1, fun b q w => ⟨x.e3 b q w, fun z => s0.mh b q (by rw [z]; exact f')⟩, x.e4, x.e5⟩, .refl, ?_⟩
    rw [h1]
    exact h3.rel (fun b q => q.1) fun q => q.2 rfl
  | slot i =>
    obtain ⟨h1, t, h2, h3⟩ := h
    simp only [Ev.take, h2] at hd
    cases t with
    | un => exact absurd rfl h3
    | val d' =>
      simp only [R.ok.injEq] at hd
      obtain ⟨rfl, rfl⟩ := hd
      obtain ⟨w, h4, h5⟩ := s.val i d' h2
      rw [h1] at h4
      cases h4
      exact ⟨M', s, x, .refl, h5⟩
    | own l d' =>
      cases l with
      | true => cases hd
      | false =>
        simp only [R.ok.injEq] at hd
        obtain ⟨rfl, rfl⟩ := hd
        obtain ⟨a, h4, h5, h6, _⟩ := s.own i false d' h2
        rw [h1] at h4
        cases h4
        obtain ⟨q1, q2, q3, q4⟩ := s.freeze h2 h1
        exact ⟨_, q1, x.trans q2, q4, q3⟩
end
end Ev

set_option Elab.async false
set_option linter.all false
set_option maxHeartbeats 2000000
/-! what the evaluator's operations ask, as readings of the hand layer -/
namespace Ev
open PySem L2 PySem.Spec

structure G where
  K : PySem.W.Frag
  mg : Str → Option Value
  W : L2.WX
def XRel (g : G) (M : Addr → Prop) (H : Hp) (cn : Str) (d : D) (cls : Value) (dd : Option Addr) : Prop :=
  ∃ (Cl p : Addr) (v : V), g.mg cn = some (.ref Cl) ∧ cls = .ref Cl ∧ dd = some p ∧ (H p = some (.xd [("value", v)]) ∧ ¬ M p) ∧ Rel g.K M H d v
def Ok {α : Type} (g : G) (c : C) (σ : L2.St) (M : Addr → Prop) (H : Hp) (e : Fm) (r : R α) (Post : α → (Addr → Prop) → Hp → Fm → Prop) : Prop :=
  match r with
  | .ok a e' => ∀ M' H', Sr g.K c M' σ H' e' → Ext σ M H e M' H' e' → Keeps e e' → Post a M' H' e'
  | .exc cn d e' => ∀ M' H' cls dd, Sr g.K c M' σ H' e' → Ext σ M H e M' H' e' → Keeps e e' → XRel g M' H' cn d cls dd → g.W cls dd σ H'
  | .stuck => False
def tE (g : G) (p : M Opd) : TE := fun σ H Q => ∃ c M e, Sr g.K c M σ H e ∧
  Ok g c σ M H e (p e) fun o M' H' e' => ∀ v, OR g.K c M' σ H' e' o v → Fr H o v → Q v H'
def tT (g : G) (p : M Bool) : TT := fun σ H Q => ∃ c M e, Sr g.K c M σ H e ∧
  Ok g c σ M H e (p e) fun b M' H' e' => Q b H'
section
variable {α β : Type} {g : G} {c : C} {σ : L2.St} {M : Addr → Prop} {H : Hp} {e : Fm}
theorem Ok.imp {r : R α} {P P' : α → (Addr → Prop) → Hp → Fm → Prop} (h : Ok g c σ M H e r P)
    (f : ∀ a M' H' e', Sr g.K c M' σ H' e' → Ext σ M H e M' H' e' → Keeps e e' → P a M' H' e' → P' a M' H' e') : Ok g c σ M H e r P' := by
  cases r with
  | ok a e' => exact fun M' H' s x k => f a M' H' e' s x k (h M' H' s x k)
  | exc cn d e' => exact h
  | stuck => exact h
theorem Ok.bind {p : Ev.M α} {f : α → Ev.M β} {P : β → (Addr → Prop) → Hp → Fm → Prop} (h : Ok g c σ M H e (Ev.M.bind p f e) P) :
    Ok g c σ M H e (p e) fun a M1 H1 e1 => Ok g c σ M1 H1 e1 (f a e1) P := by
  unfold Ev.M.bind at h
  cases hp : p e with
  | ok a e1 =>
    rw [hp] at h
    simp only at h
    intro M1 H1 s1 x1 k1
    cases hf : f a e1 with
    | ok b e2 =>
      rw [hf] at h
      exact fun M2 H2 s2 x2 k2 => h M2 H2 s2 (x1.trans x2) (k1.trans k2)
    | exc cn d e2 =>
      rw [hf] at h
      exact fun M2 H2 cls dd s2 x2 k2 => h M2 H2 cls dd s2 (x1.trans x2) (k1.trans k2)
    | stuck => rw [hf] at h; exact h
  | exc cn d e1 => rw [hp] at h; exact h
  | stuck => rw [hp] at h; exact h
theorem Ok.opt {x : Option α} {P : α → (Addr → Prop) → Hp → Fm → Prop} (h : Ok g c σ M H e (Ev.M.opt x e) P) :
    ∃ a, x = some a ∧ ∀ M' H', Sr g.K c M' σ H' e → Ext σ M H e M' H' e → P a M' H' e := by
  cases x with
  | none => exact h.elim
  | some a => exact ⟨a, rfl, fun M' H' s x => h M' H' s x .refl⟩
theorem Ok.optB {x : Option α} {f : α → Ev.M β} {P : β → (Addr → Prop) → Hp → Fm → Prop} (h : Ok g c σ M H e (Ev.M.bind (Ev.M.opt x) f e) P) :
    ∃ a, x = some a ∧ Ok g c σ M H e (f a e) P := by
  cases x with
  | none => exact h.elim
  | some a => exact ⟨a, rfl, h⟩
theorem Ok.pure {a : α} {P : α → (Addr → Prop) → Hp → Fm → Prop} (h : Ok g c σ M H e (Ev.M.pure a e) P) : ∀ M' H', Sr g.K c M' σ H' e → Ext σ M H e M' H' e → P a M' H' e :=
  fun M' H' s x => h M' H' s x .refl
theorem Ok.der {o : Opd} {v : V} {f : D → Ev.M β} {P : β → (Addr → Prop) → Hp → Fm → Prop} (s : Sr g.K c M σ H e) (r : OR g.K c M σ H e o v) (h : Ok g c σ M H e (Ev.M.bind (Ev.der (peek o)) f e) P) :
    ∃ d, TopV g.K M H d v ∧ Ok g c σ M H e (f d e) P := by
  unfold Ev.M.bind at h
  cases hd : Ev.der (peek o) e with
  | ok d e1 =>
    rw [hd] at h
    obtain ⟨rfl, t⟩ := OR.peekV s r hd
    exact ⟨d, t, h⟩
  | exc cn d e1 =>
    exfalso
    cases o <;> simp only [peek, Ev.der] at hd
    · cases hd
    · revert hd
      split <;> (intro hd; cases hd)
    · cases hd
  | stuck => rw [hd] at h; exact h.elim
theorem Ok.derL {o : Opd} {v : V} {P : D → (Addr → Prop) → Hp → Fm → Prop} (s : Sr g.K c M σ H e) (r : OR g.K c M σ H e o v) (h : Ok g c σ M H e (Ev.der (peek o) e) P) :
    ∃ d, TopV g.K M H d v ∧ P d M H e := by
  cases hd : Ev.der (peek o) e with
  | ok d e1 =>
    rw [hd] at h
    obtain ⟨rfl, t⟩ := OR.peekV s r hd
    exact ⟨d, t, h M H s .refl .refl⟩
  | exc cn d e1 =>
    exfalso
    cases o <;> simp only [peek, Ev.der] at hd
    · cases hd
    · revert hd
      split <;> (intro hd; cases hd)
    · cases hd
  | stuck => rw [hd] at h; exact h.elim
/-- the end of an operation's reading: what is told is given on -/
def Fin (g : G) (c : C) (M : Addr → Prop) (σ : L2.St) (H : Hp) (e : Fm) (o : Opd) (Q : VK) : Prop :=
  ∀ M' H' v, Sr g.K c M' σ H' e → Ext σ M H e M' H' e → OR g.K c M' σ H' e o v → Fr H o v → Q v H'
theorem Fin.val {d : D} {v : V} {Q : VK} (s : Sr g.K c M σ H e) (f : Fin g c M σ H e (.val d) Q) (r : Rel g.K M H d v) : Q v H := f M H v s .refl r trivial
theorem Fin.int {i : Int} {Q : VK} (s : Sr g.K c M σ H e) (f : Fin g c M σ H e (.val (.int i)) Q) : Q (.int i) H := f.val s (by simp only [Rel])
theorem Fin.str {i : Str} {Q : VK} (s : Sr g.K c M σ H e) (f : Fin g c M σ H e (.val (.str i)) Q) : Q (.str i) H := f.val s (by simp only [Rel])
theorem Fin.bool {b : Bool} {Q : VK} (s : Sr g.K c M σ H e) (f : Fin g c M σ H e (.val (.bool b)) Q) : Q (.bl b) H := f.val s (by simp only [Rel])
theorem Fin.list {ds : List D} {vs : List V} {Q : VK} (s : Sr g.K c M σ H e) (f : Fin g c M σ H e (.fresh (.list ds)) Q) (hz : ds.length ≤ sizeLine) (r : Rels g.K M H ds vs) :
    ∀ p, H p = none → Q (.ref p) (upd H p (.lst vs)) := fun p hp => by
  obtain ⟨s1, x1⟩ := s.layM hp (.lst vs)
  refine f _ _ _ s1 x1 (s.newList hp hz r) ?_
  intro a q
  cases q
  exact hp
theorem Fin.tup {ds : List D} {vs : List V} {Q : VK} (s : Sr g.K c M σ H e) (f : Fin g c M σ H e (.val (.tuple ds)) Q) (hz : ds.length ≤ sizeLine) (r : Rels g.K M H ds vs) :
    ∀ (p : Addr) (o : Obj), o.dict = none → H p = none → Q (.ref p) (upd H p (.frz o (.tup vs))) := fun p o ho hp => by
  obtain ⟨s1, x1⟩ := s.lay hp (.frz o (.tup vs))
  exact f _ _ _ s1 x1 (s.newTup ho hp hz r) trivial
/-- a two-place operation keeps to its reading -/
def OpS (g : G) (r : R2) (f : D → D → Option Opd) : Prop :=
  ∀ (c : C) (M : Addr → Prop) (σ : L2.St) (H : Hp) (e : Fm) (x y : V) (d1 d2 : D) (o : Opd) (Q : VK), Sr g.K c M σ H e → TopV g.K M H d1 x → TopV g.K M H d2 y → f d1 d2 = some o → Fin g c M σ H e o Q → r x y H Q
def UnS (g : G) (r : V → Hp → VK → Prop) (f : D → Option Opd) : Prop :=
  ∀ (c : C) (M : Addr → Prop) (σ : L2.St) (H : Hp) (e : Fm) (x : V) (d1 : D) (o : Opd) (Q : VK), Sr g.K c M σ H e → TopV g.K M H d1 x → f d1 = some o → Fin g c M σ H e o Q → r x H Q
theorem two_ok {p q : Ev.M Opd} {r : R2} {f : D → D → Option Opd} (hr : OpS g r f) {σ : L2.St} {H : Hp} {Q : VK} (h : tE g (two p q f) σ H Q) : tOp r (tE g p) (tE g q) σ H Q := by
  obtain ⟨c, M, e, s, h⟩ := h
  refine ⟨c, M, e, s, (Ok.bind h).imp fun o1 M1 H1 e1 s1 x1 k1 h1 v1 r1 f1 => ?_⟩
  refine ⟨c, M1, e1, s1, (Ok.bind h1).imp fun o2 M2 H2 e2 s2 x2 k2 h2 v2 r2 f2 => ?_⟩
  obtain ⟨d1, t1, h2⟩ := Ok.der s2 (s1.opd x2 k2 r1) h2
  obtain ⟨d2, t2, h2⟩ := Ok.der s2 r2 h2
  obtain ⟨o, ho, h2⟩ := Ok.opt h2
  exact hr c M2 σ H2 e2 v1 v2 d1 d2 o Q s2 t1 t2 ho fun M' H' v s' x' r' fr => h2 M' H' s' x' v r' (fr.old (x1.trans x2))
theorem one_ok {p : Ev.M Opd} {r : V → Hp → VK → Prop} {f : D → Option Opd} (hr : UnS g r f) {σ : L2.St} {H : Hp} {Q : VK} (h : tE g ((pk p).bind fun d => Ev.M.opt (f d)) σ H Q) : tUn r (tE g p) σ H Q := by
  obtain ⟨c, M, e, s, h⟩ := h
  refine ⟨c, M, e, s, (Ok.bind (Ok.bind h)).imp fun o1 M1 H1 e1 s1 x1 k1 h1 v1 r1 f1 => ?_⟩
  obtain ⟨d1, t1, h1⟩ := Ok.derL s1 r1 h1
  obtain ⟨o, ho, h1⟩ := Ok.opt h1
  exact hr c M1 σ H1 e1 v1 d1 o Q s1 t1 ho fun M' H' v s' x' r' fr => h1 M' H' s' x' v r' (fr.old x1)
end

/-! ### new tuples, known whole -/
section
open PyProof.Rows HT
variable {X : Cx}
theorem tup_obj {P : Program} {w : World} {H : Hp} {h : Heap} {us : List Value} {xs : List V} (z : xs.length ≤ sizeLine) (r : Vals xs us) (hz : h.objs.size = h.objs.size) :
    ObjOk P w H (h.push { cls := .type "tuple", data := .seq us.toArray }) h.objs.size (.frz { cls := .type "tuple", data := .seq us.toArray } (.tup xs)) :=
  ⟨Heap.get?_push_size _ rfl, z, us, r, IsTup.new _ _⟩
def tTupF (t : TA) : TE := fun σ H Q => t σ H fun xs H1 => xs.length ≤ sizeLine ∧ ∀ (p : Addr) (o : Obj), o.dict = none → H1 p = none → Q (.ref p) (upd H1 p (.frz o (.tup xs)))
theorem pe_tupF {es : List Expr} {t : TA} {pos : Pos} {x1} (h : PA X es t) : PE X (.Tuple es x1 pos) (tTupF t) := by
  refine ⟨fun pins s σ H Q I hq => ?_⟩
  refine wpAny_Tuple_spliced (thn (h.run pos pins s σ H _ I hq) fun us s1 ⟨xs, H1, I1, r, z, q⟩ => ⟨by rw [← r.length]; exact z, ?_⟩)
  have hf : H1 s1.heap.objs.size = none := I1.hok.fresh (Nat.le_refl _)
  exact ⟨.ref s1.heap.objs.size, _, I1.laid (t' := s1.toks) (fun b u e => Heap.get?_push_of_some _ e) (Nat.le_refl _) (tup_obj z r rfl), rfl, q _ _ rfl hf⟩
def rCatF (K : PySem.W.Frag) : R2 := fun x y H Q => ∃ a b xs ys, x = .ref a ∧ y = .ref b ∧ SqT K H a xs ∧ SqT K H b ys ∧ xs.length + ys.length ≤ sizeLine ∧
  (xs = [] → Q (.ref b) H) ∧ (xs ≠ [] → ys = [] → Q (.ref a) H) ∧ (xs ≠ [] → ys ≠ [] → ∀ (p : Addr) (o : Obj), o.dict = none → H p = none → Q (.ref p) (upd H p (.frz o (.tup (xs ++ ys)))))
theorem op_catF : OpR X (binaryOp .Add) (rCatF X.K) := by
  intro pins s σ H x y v u Q I rx ry h
  obtain ⟨a, b, xs, ys, rfl, rfl, ha, hb, hz, q0, q1, q2⟩ := h
  cases rx
  cases ry
  obtain ⟨its, r1, p1, _⟩ := I.tuple ha
  obtain ⟨its2, r2, p2, _⟩ := I.tuple hb
  by_cases hx : xs = []
  · subst hx
    cases r1
    exact cat_tup0 p1 p2 ⟨.ref b, H, I, rfl, q0 rfl⟩
  · refine HT.cat_tup p1 p2 (fun z => hx (r1.nil_iff.mp z)) (fun z => ⟨.ref a, H, I, rfl, q1 hx (r2.nil_iff.mp z)⟩) (fun z => ?_) (by rw [← r1.length, ← r2.length]; exact hz)
    exact ⟨.ref s.heap.objs.size, _, I.laid (t' := s.toks) (fun b ob q => Heap.get?_push_of_some _ q) (Nat.le_refl _) (tup_obj (by rw [List.length_append]; exact hz) (r1.append r2) rfl), rfl, q2 hx (fun w => z (r2.nil_iff.mpr w)) _ _ rfl (I.hok.fresh (Nat.le_refl _))⟩
def rSlF (K : PySem.W.Frag) : V → Option Int → Option Int → Hp → VK → Prop := fun x lo hi H Q => ∃ a xs, x = .ref a ∧ SqT K H a xs ∧
  (HT.sIx xs.length 0 lo = 0 ∧ HT.sIx xs.length xs.length hi = xs.length → Q (.ref a) H) ∧ (¬ (HT.sIx xs.length 0 lo = 0 ∧ HT.sIx xs.length xs.length hi = xs.length) → ∀ (p : Addr) (o : Obj), o.dict = none → H p = none → Q (.ref p) (upd H p (.frz o (.tup (cutV xs lo hi)))))
theorem sl_tupF : SlR X (rSlF X.K) := by
  intro pins s σ H x v vl vu lo hi sl Q I rx hs pl pu h
  obtain ⟨a, xs, rfl, hx, q1, q2⟩ := h
  by_cases hw : HT.sIx xs.length 0 lo = 0 ∧ HT.sIx xs.length xs.length hi = xs.length
  · exact sl_tupA pins s σ H _ v vl vu lo hi sl Q I rx hs pl pu ⟨a, xs, rfl, hx, q1, fun z => absurd hw z⟩
  · cases rx
    obtain ⟨its, r, ht, hz⟩ := I.tuple hx
    have hlen : its.toArray.size = xs.length := by rw [List.size_toArray]; exact r.length.symm
    refine ⟨"tuple", _, PyProof.Rows.slot_tuple_getitem.lookup, ht.typeIs, ?_⟩
    refine HT.getItem_tuple_cut ht hs pl pu (by rw [hlen]; exact hw) ?_ (by rw [hlen]; exact hz)
    rw [hlen]
    exact ⟨.ref s.heap.objs.size, _, I.laid (t' := s.toks) (fun b ob q => Heap.get?_push_of_some _ q) (Nat.le_refl _) (tup_obj (Nat.le_trans (cutV_length xs lo hi) hz) ((r.drop (HT.sIx xs.length 0 lo)).take (HT.sIx xs.length xs.length hi - HT.sIx xs.length 0 lo)) rfl), rfl, q2 hw _ _ rfl (I.hok.fresh (Nat.le_refl _))⟩
def rRepF (K : PySem.W.Frag) : R2 := fun x y H Q => ∃ l k xs, x = .ref l ∧ y = .int k ∧ SqT K H l xs ∧ xs ≠ [] ∧ 2 ≤ k ∧ k ≤ 1000 ∧ xs.length ≤ 1000 ∧ ∀ (p : Addr) (o : Obj), o.dict = none → H p = none → Q (.ref p) (upd H p (.frz o (.tup (List.replicate k.toNat xs).flatten)))
theorem op_repF : OpR X (binaryOp .Mult) (rRepF X.K) := by
  intro pins s σ H x y v u Q I rx ry h
  obtain ⟨l, k, xs, rfl, rfl, hT, hne, h1, h2, hz, q⟩ := h
  cases rx
  obtain ⟨t, rfl⟩ := ry
  obtain ⟨its, r, ⟨⟨cls, dd, data, sl⟩, ho, hc, n, hd⟩, hs⟩ := I.tuple hT
  simp only at hc hd
  subst hc hd
  have hle : its.length = xs.length := r.length.symm
  have hn : its ≠ [] := fun e => hne (by
    rw [e] at hle
    exact List.eq_nil_of_length_eq_zero hle.symm)
  have hi : its.toArray.isEmpty = false := by
    cases its with
    | nil => exact absurd rfl hn
    | cons a b => rfl
  have hsz0 : its.toArray.size = xs.length := by rw [List.size_toArray, hle]
  have hm : ((its.toArray.size : Nat) : Int) * k ≤ 1000000 := by
    rw [hsz0]
    have a1 : ((xs.length : Nat) : Int) * k ≤ 1000 * k := Int.mul_le_mul_of_nonneg_right (by omega) (by omega)
    omega
  have flen : (List.replicate k.toNat its).flatten.length ≤ sizeLine := by
    rw [PyProof.Rows.lm_len_rep_flat, hle, sizeLine_eq]
    have a1 : k.toNat * xs.length ≤ 1000 * 1000 := Nat.mul_le_mul (by omega) hz
    omega
  have c0 : (decide (k < -(2 ^ 63)) || decide (k ≥ 2 ^ 63)) = false := by
    rw [decide_eq_false (by omega), decide_eq_false (by omega)] <;> rfl
  have c1 : (its.toArray.isEmpty || k == 1) = false := by
    rw [hi, Bool.false_or]
    exact beq_eq_false_iff_ne.mpr (by omega)
  have c2 : (decide (k ≤ 0) || its.toArray.isEmpty) = false := by
    rw [hi, Bool.or_false]
    exact decide_eq_false (by omega)
  have c4 : Builtin.Tuple.tupleTooMany (((its.toArray.size : Nat) : Int) * k) = false := by
    unfold Builtin.Tuple.tupleTooMany
    rw [sizeLine_eq]
    exact decide_eq_false (by omega)
  refine wpAny_binaryOp_repeat_ref (T := "tuple") (U := "int") (by decide) ⟨_, ho, rfl⟩ (fun s' => typeIs_int s' k t) noFill_tuple_mul F.fills_int_mul F.slot_int_rmul repeat_tuple F.slot_int_index.lookup
    (call_meets F.slot_int_rmul (typeIs_int s k t) F.entry_int_rmul (F.args_int_rmul_2 _ _) (int_rmul_tuple k t l its.toArray n dd sl)
      ⟨ho, rfl, ⟨_, ho, rfl⟩, call_meets F.slot_tuple_mul ⟨_, ho, rfl⟩ F.entry_tuple_mul (F.args_tuple_mul_2 _ _) (tuple_mulW l its.toArray n dd sl k t c0 c1 c2 (by omega) c4 (by rw [size_rep, List.size_toArray]; exact flen)) ⟨ho, ?_⟩⟩)
  rw [size_rep]
  exact ⟨.ref s.heap.objs.size, _, I.laid (t' := s.toks) (fun b ob q => Heap.get?_push_of_some _ q) (Nat.le_refl _) (tup_obj (by rw [PyProof.Rows.lm_len_rep_flat, sizeLine_eq]; have a1 : k.toNat * xs.length ≤ 1000 * 1000 := Nat.mul_le_mul (by omega) hz; omega) (r.rep k.toNat) rfl), rfl, q _ _ rfl (I.hok.fresh (Nat.le_refl _))⟩
theorem call_tupleF : CallR X (.type "tuple") (fun xs H Q => ∃ p ys, xs = [V.ref p] ∧ ((SqL X.K H p ys ∧ ∀ (l : Addr) (o : Obj), o.dict = none → H l = none → Q (.ref l) (upd H l (.frz o (.tup ys)))) ∨ (SqT X.K H p ys ∧ Q (.ref p) H))) := by
  intro pins s σ H xs us Q I r h
  obtain ⟨p, ys, rfl, h⟩ := h
  obtain ⟨u, rfl, rx⟩ := L2.vals1 r
  cases rx
  rcases h with ⟨hq, q⟩ | ⟨hq, q⟩
  · obtain ⟨its, r', pl, hz⟩ := I.list hq
    have hlen := r'.length
    refine call_tuple_list pl.isList (fun h' kp => ?_) (by simp only [List.size_toArray] <;> omega)
    have I1 : Inv X pins σ H { s with heap := h' } := I.kept (t' := s.toks) kp
    exact ⟨.ref h'.objs.size, _, I1.laid (t' := s.toks) (fun b o e => Heap.get?_push_of_some _ e) (Nat.le_refl _) (tup_obj hz r' rfl), rfl, q _ _ rfl (I1.hok.fresh (Nat.le_refl _))⟩
  · obtain ⟨its, r', pl, hz⟩ := I.tuple hq
    exact call_tuple_same pl ⟨.ref p, H, I, rfl, q⟩
end

/-! ### operators -/
section
variable {X : Cx} {g : G}
def rCatR : R2 := fun x y H Q => ∃ l b xs zs, x = V.ref l ∧ y = V.ref b ∧ Rd H l (.lst xs) ∧ Rd H b (.lst zs) ∧ xs.length + zs.length ≤ sizeLine ∧ ∀ p, H p = none → Q (.ref p) (upd H p (.lst (xs ++ zs)))
theorem rdM {pins : List (Addr × Obj)} {σ : L2.St} {H : Hp} {s : Shared} {l : Addr} {xs : List V} (I : Inv X pins σ H s) (hH : Rd H l (.lst xs)) :
    xs.length ≤ sizeLine ∧ ∃ (its : List Value) (n : Nat), Vals xs its ∧ xs.length = its.length ∧ s.heap.get? l = some { cls := .type "list", data := .seq its.toArray n } := by
  obtain ⟨z, its, n, r, e⟩ := (show ObjOk X.prog X.w H s.heap l (.lst xs) from hH.ok I.hok)
  exact ⟨z, its, n, r, r.length, e⟩
theorem op_catR : OpR X (binaryOp .Add) rCatR := by
  intro pins s σ H x y v u Q I rx ry h
  obtain ⟨l, b, xs, zs, rfl, rfl, hH, hB, hz, q⟩ := h
  cases rx
  cases ry
  obtain ⟨z, its, n, r, hl, e⟩ := rdM I hH
  obtain ⟨z2, its2, n2, r2, hl2, e2⟩ := rdM I hB
  refine PySem.P.add_list e e2 ?_ (by rw [List.size_toArray, List.size_toArray]; omega)
  have ea : its.toArray ++ its2.toArray = (its ++ its2).toArray := by simp
  rw [ea]
  exact ⟨.ref _, _, I.lnew (t' := s.toks) (r.append r2) (by rw [List.length_append]; omega), rfl, q _ I.fresh⟩
theorem ops_add : OpS g (fun x y H Q => (∃ i j, x = V.int i ∧ y = V.int j ∧ Q (.int (i + j)) H) ∨ rCatR x y H Q ∨ rCatF g.K x y H Q ∨ (∃ i j, x = V.str i ∧ y = V.str j ∧ i.length + j.length ≤ sizeLine ∧ Q (.str (i ++ j)) H)) (binD .add) := by
  intro c M σ H e x y d1 d2 o Q s t1 t2 ho fin
  unfold binD at ho
  split at ho <;> first | (rename_i hh; cases hh; done) | skip
  · cases ho
    exact .inl ⟨_, _, t1.int, t2.int, fin.int s⟩
  · split at ho
    · rename_i hz
      cases ho
      obtain ⟨a, vs, rfl, h1, z1, r1⟩ := t1.list
      obtain ⟨b, ws, rfl, h2, z2, r2⟩ := t2.list
      refine .inr (.inl ⟨a, b, vs, ws, rfl, rfl, h1, h2, by rw [← r1.length, ← r2.length]; exact hz, fin.list s (by rw [List.length_append]; exact hz) (r1.append r2)⟩)
    · cases ho
  · split at ho
    · rename_i hz
      cases ho
      obtain ⟨a, vs, rfl, h1, z1, r1⟩ := t1.tuple
      obtain ⟨b, ws, rfl, h2, z2, r2⟩ := t2.tuple
      refine .inr (.inr (.inl ⟨a, b, vs, ws, rfl, rfl, h1, h2, by rw [← r1.length, ← r2.length]; exact hz, fun q => ?_, fun q q2 => ?_, fun q q2 => fin.tup s (by rw [List.length_append]; exact hz) (r1.append r2)⟩))
      · subst q
        have e0 := r1.length
        rename_i xs ys _
        have : xs = [] := by simpa using e0
        subst this
        refine fin.val s ?_
        rcases t2 with t2 | ⟨_, _, t2⟩
        · simpa using t2
        · exact t2.elim
      · subst q2
        have e0 := r2.length
        rename_i xs ys _
        have : ys = [] := by simpa using e0
        subst this
        refine fin.val s ?_
        rcases t1 with t1 | ⟨_, _, t1⟩
        · simpa using t1
        · exact t1.elim
    · cases ho
  · split at ho
    · rename_i hz
      cases ho
      exact .inr (.inr (.inr ⟨_, _, t1.str, t2.str, hz, fin.str s⟩))
    · cases ho
  all_goals cases ho

theorem ops_sub : OpS g (fun x y H Q => ∃ i j, x = V.int i ∧ y = V.int j ∧ Q (.int (i - j)) H) (binD .sub) := by
  intro c M σ H e x y d1 d2 o Q s t1 t2 ho fin
  unfold binD at ho
  split at ho <;> first | (rename_i hh; cases hh; done) | skip
  · cases ho
    exact ⟨_, _, t1.int, t2.int, fin.int s⟩
  all_goals cases ho
def CMul2 (i j : Int) : Prop := CMul i j ∨ CMulW i j
theorem op_mul2 : OpR X (binaryOp .Mult) (rI CMul2 fun i j => .int (i * j)) := by
  intro pins s σ H x y v u Q I rx ry h
  obtain ⟨i, j, e1, e2, hc, q⟩ := h
  rcases hc with hc | hc
  · exact op_mul pins s σ H x y v u Q I rx ry ⟨i, j, e1, e2, hc, q⟩
  · exact op_mulW pins s σ H x y v u Q I rx ry ⟨i, j, e1, e2, hc, q⟩
/-- a list, frozen or not, times an int -/
def rRepR : R2 := fun x y H Q => ∃ l k xs, x = V.ref l ∧ y = V.int k ∧ Rd H l (.lst xs) ∧ -(2 ^ 62) < k ∧ k < 2 ^ 62 ∧ xs.length * k.toNat ≤ sizeLine ∧ ∀ p, H p = none → Q (.ref p) (upd H p (.lst (List.replicate k.toNat xs).flatten))
theorem rep_flat (its : List Value) (m : Nat) : List.foldl (fun a b => a ++ b) #[] (List.replicate m its.toArray) = (List.replicate m its).flatten.toArray := by
  have := foldl_rep its m []
  simpa using this
theorem op_repR : OpR X (binaryOp .Mult) rRepR := by
  intro pins s σ H x y v u Q I rx ry h
  obtain ⟨l, k, xs, rfl, rfl, hH, h1, h2, hz, q⟩ := h
  cases rx
  obtain ⟨t, rfl⟩ := ry
  obtain ⟨_, its, n, r, hl, e⟩ := rdM I hH
  have hk : its.toArray.size * k.toNat ≤ sizeLine := by simpa [← hl] using hz
  have c1 : ¬ its.toArray.size * k.toNat > (2 ^ 63 - 1) / 8 := fun z => by
    have : (sizeLine : Nat) ≤ (2 ^ 63 - 1) / 8 := by decide
    omega
  have c2 : ¬ (!Builtin.List.listFitsIndex k) = true := by rw [fitsIndex_both (by omega) (by omega)]; exact Bool.false_ne_true
  have c3 : ¬ Builtin.List.listTooLong (its.toArray.size * k.toNat) = true := by rw [notLongL hk]; exact Bool.false_ne_true
  have new : List.foldl (fun a b => a ++ b) #[] (List.replicate (if its.toArray.isEmpty = true then 0 else k.toNat) its.toArray) = (List.replicate k.toNat its).flatten.toArray := by
    rw [rep_flat]
    cases its with
    | nil => simp
    | cons a r => rw [if_neg (by simp)]
  have inner := call_meets F.slot_list_mul (Q := EP X pins σ Q) (E := X.xe) (A := X.A) (prog := X.prog) (w := X.w) (s := s) (self := .ref l) ⟨_, e, rfl⟩ F.entry_list_mul (F.args_list_mul_2 _ _) (AutoListH.list___mul___list_int_3 l its.toArray n k t c2 c1 c3) ⟨e, by
    rw [new]
    exact ⟨.ref _, _, I.lnew (t' := s.toks) (r.rep k.toNat) (by rw [PyProof.Rows.lm_len_rep_flat, Nat.mul_comm]; exact hz), rfl, q _ I.fresh⟩⟩
  exact wpAny_binaryOp_repeat_ref (T := "list") (U := "int") (by decide) ⟨_, e, rfl⟩ (fun s' => typeIs_int s' k t) noFill_list_mul F.fills_int_mul F.slot_int_rmul repeat_list F.slot_int_index.lookup
    (call_meets F.slot_int_rmul (typeIs_int s k t) F.entry_int_rmul (F.args_int_rmul_2 _ _) (int___rmul___int_list k t l its.toArray n) ⟨e, rfl, ⟨_, e, rfl⟩, inner⟩)
def rMul (K : PySem.W.Frag) : R2 := fun x y H Q => rI CMul2 (fun i j => .int (i * j)) x y H Q ∨ rRepR x y H Q ∨ rRepF K x y H Q
theorem Rels.rep {K : PySem.W.Frag} {M : Addr → Prop} {H : Hp} {ds : List D} {vs : List V} (r : Rels K M H ds vs) : ∀ n : Nat, Rels K M H (List.replicate n ds).flatten (List.replicate n vs).flatten
  | 0 => by simpa using Rels.nil
  | n + 1 => by
    rw [List.replicate_succ, List.replicate_succ, List.flatten_cons, List.flatten_cons]
    exact r.append (Rels.rep r n)
theorem rep_len {α : Type} (xs : List α) (n : Nat) : (List.replicate n xs).flatten.length = n * xs.length := by
  induction n with
  | zero => simp
  | succ n ih => rw [List.replicate_succ, List.flatten_cons, List.length_append, ih, Nat.succ_mul, Nat.add_comm]
theorem ops_mul : OpS g (rMul g.K) (binD .mul) := by
  intro c M σ H e x y d1 d2 o Q s t1 t2 ho fin
  unfold binD at ho
  split at ho <;> first | (rename_i hh; cases hh; done) | skip
  · split at ho
    · rename_i hc
      cases ho
      refine .inl ⟨_, _, t1.int, t2.int, ?_, fin.int s⟩
      unfold mulOk at hc
      simp only [Bool.or_eq_true, Bool.and_eq_true, decide_eq_true_eq] at hc
      rcases hc with hc | hc | hc
      · have := lt_log hc
        exact .inl (.inl ⟨by omega, by omega⟩)
      · have := lt_log hc
        exact .inl (.inr ⟨by omega, by omega⟩)
      · exact .inr hc
    · cases ho
  · split at ho
    · rename_i xs k _ hc
      cases ho
      obtain ⟨a, vs, rfl, h1, z1, r1⟩ := t1.list
      have hk := lt_log hc.1
      refine .inr (.inl ⟨a, k, vs, rfl, t2.int, h1, by omega, by omega, by rw [← r1.length]; exact hc.2, fin.list s ?_ (Rels.rep r1 _)⟩)
      rw [rep_len, Nat.mul_comm]
      exact hc.2
    · cases ho
  · split at ho
    · rename_i xs k _ hc
      cases ho
      obtain ⟨a, vs, rfl, h1, z1, r1⟩ := t1.tuple
      refine .inr (.inr ⟨a, k, vs, rfl, t2.int, h1, fun z => hc.2.2.2 ?_, hc.1, hc.2.1, by rw [← r1.length]; exact hc.2.2.1, fin.tup s ?_ (Rels.rep r1 _)⟩)
      · have := r1.length
        rw [z] at this
        exact List.eq_nil_of_length_eq_zero this
      · rw [rep_len]
        have h3 : k.toNat * xs.length ≤ 1000 * 1000 := Nat.mul_le_mul (by omega) hc.2.2.1
        exact Nat.le_trans h3 (by decide)
    · cases ho
  all_goals cases ho
theorem ops_fdiv : OpS g (rI CDivW fun i j => .int (i / j)) (binD .fdiv) := by
  intro c M σ H e x y d1 d2 o Q s t1 t2 ho fin
  unfold binD at ho
  split at ho <;> first | (rename_i hh; cases hh; done) | skip
  · split at ho
    · rename_i hc
      cases ho
      exact ⟨_, _, t1.int, t2.int, hc, fin.int s⟩
    · cases ho
  all_goals cases ho
theorem ops_mod : OpS g (rI (fun _ j => 0 < j) fun i j => .int (i % j)) (binD .mod) := by
  intro c M σ H e x y d1 d2 o Q s t1 t2 ho fin
  unfold binD at ho
  split at ho <;> first | (rename_i hh; cases hh; done) | skip
  · split at ho
    · rename_i hc
      cases ho
      exact ⟨_, _, t1.int, t2.int, hc, fin.int s⟩
    · cases ho
  all_goals cases ho
def CPowW (i j : Int) : Prop := 0 ≤ j ∧ j ≤ 1000 ∧ i.natAbs.log2 < 10000
theorem op_powW : OpR X (binaryOp .Pow) (rI CPowW fun i j => .int (i ^ j.toNat)) := opI fun i j _ _ _ _ _ hc q => by
  obtain ⟨h0, h1, h2⟩ := (show 0 ≤ j ∧ j ≤ 1000 ∧ i.natAbs.log2 < 10000 from hc)
  refine PyProof.Rows.pow_int h0 ?_ q
  have hb : Builtin.Int.intBits i ≤ 10000 := by
    unfold Builtin.Int.intBits
    split <;> omega
  have h3 : ((Builtin.Int.intBits i : Nat) : Int) * j ≤ 10000 * j := Int.mul_le_mul_of_nonneg_right (by omega) h0
  omega
theorem ops_pow : OpS g (rI CPowW fun i j => .int (i ^ j.toNat)) (binD .pow) := by
  intro c M σ H e x y d1 d2 o Q s t1 t2 ho fin
  unfold binD at ho
  split at ho <;> first | (rename_i hh; cases hh; done) | skip
  · split at ho
    · rename_i hc
      cases ho
      exact ⟨_, _, t1.int, t2.int, hc, fin.int s⟩
    · cases ho
  all_goals cases ho
theorem ops_shl : OpS g (rI CPow fun i j => .int (i * 2 ^ j.toNat)) (binD .shl) := by
  intro c M σ H e x y d1 d2 o Q s t1 t2 ho fin
  unfold binD at ho
  split at ho <;> first | (rename_i hh; cases hh; done) | skip
  · split at ho
    · rename_i hc
      cases ho
      exact ⟨_, _, t1.int, t2.int, hc, fin.int s⟩
    · cases ho
  all_goals cases ho
/-- the reading of an operator, by its name -/
def rB (K : PySem.W.Frag) : Bop → R2
  | .add => fun x y H Q => (∃ i j, x = V.int i ∧ y = V.int j ∧ Q (.int (i + j)) H) ∨ rCatR x y H Q ∨ rCatF K x y H Q ∨ (∃ i j, x = V.str i ∧ y = V.str j ∧ i.length + j.length ≤ sizeLine ∧ Q (.str (i ++ j)) H)
  | .sub => fun x y H Q => ∃ i j, x = V.int i ∧ y = V.int j ∧ Q (.int (i - j)) H
  | .mul => rMul K
  | .fdiv => rI CDivW fun i j => .int (i / j)
  | .mod => rI (fun _ j => 0 < j) fun i j => .int (i % j)
  | .pow => rI CPowW fun i j => .int (i ^ j.toNat)
  | .shl => rI CPow fun i j => .int (i * 2 ^ j.toNat)
def bopO : Bop → Operator
  | .add => .Add | .sub => .Sub | .mul => .Mult | .fdiv => .FloorDiv | .mod => .Mod | .pow => .Pow | .shl => .LShift
theorem opr_bin (op : Bop) : OpR X (binaryOp (bopO op)) (rB X.K op) := by
  cases op with
  | add => exact OpR.or op_add (OpR.or op_catR (OpR.or op_catF op_add_str))
  | sub => exact op_sub
  | mul => exact OpR.or op_mul2 (OpR.or op_repR op_repF)
  | fdiv => exact op_fdivW
  | mod => exact op_mod
  | pow => exact op_powW
  | shl => exact op_shl
theorem ops_bin (op : Bop) : OpS g (rB g.K op) (binD op) := by
  cases op with
  | add => exact ops_add
  | sub => exact ops_sub
  | mul => exact ops_mul
  | fdiv => exact ops_fdiv
  | mod => exact ops_mod
  | pow => exact ops_pow
  | shl => exact ops_shl

/-! ### comparisons -/
def rInT (K : PySem.W.Frag) (neg : Bool) : R2 := fun x y H Q => ∃ d ds, Dp K H x d ∧ Dp K H y (.tuple ds) ∧ SeqAt.shaped d = true ∧ SeqAt.shaped (.tuple ds) = true ∧ Q (.bl (if neg then !(ds.any fun z => PyData.eqv z d) else ds.any fun z => PyData.eqv z d)) H
theorem op_inT (hu : X.A.units + 65 < cLine) : OpR X (compareOp .In) (rInT X.K false) := by
  intro pins s σ H x y v u Q I rx ry h
  obtain ⟨d, ds, hd, he, sd, se, q⟩ := h
  obtain ⟨_, r1⟩ := Dp.reads I d x v hd rx
  obtain ⟨_, r2⟩ := Dp.reads I (.tuple ds) y u he ry
  refine SeqAt.in_tuple_reads r2 r1 (SeqAt.canLay_of_shaped se) (SeqAt.canLay_of_shaped sd) ?_ ⟨.bl _, H, I, rfl, q⟩
  exact PyProof.Rows.room_in_shaped sd hu
theorem op_notInT (hu : X.A.units + 65 < cLine) : OpR X (compareOp .NotIn) (rInT X.K true) := by
  intro pins s σ H x y v u Q I rx ry h
  obtain ⟨d, ds, hd, he, sd, se, q⟩ := h
  obtain ⟨_, r1⟩ := Dp.reads I d x v hd rx
  obtain ⟨_, r2⟩ := Dp.reads I (.tuple ds) y u he ry
  refine SeqAt.notIn_tuple_reads r2 r1 (SeqAt.canLay_of_shaped se) (SeqAt.canLay_of_shaped sd) ?_ ⟨.bl _, H, I, rfl, q⟩
  exact PyProof.Rows.room_in_shaped sd hu
theorem tup_ints {M : Addr → Prop} {H : Hp} : ∀ {ds : List D} {vs : List V} {ns : List Int}, Rels g.K M H ds vs → ds.mapM intD = some ns → vs = ns.map V.int
  | [], vs, ns, r, h => by
    simp only [Rels] at r
    cases h
    exact r
  | d :: ds, vs, ns, r, h => by
    simp only [Rels] at r
    obtain ⟨v, rs, rfl, q, t⟩ := r
    rw [List.mapM_cons] at h
    cases d <;> simp only [intD] at h <;> first | (cases h; done) | skip
    rename_i n
    cases hr : List.mapM intD ds with
    | none => rw [hr] at h; cases h
    | some ns' =>
      rw [hr] at h
      cases h
      rw [tup_ints t hr, show v = V.int n from by simpa only [Rel] using q]
      rfl
def rC (K : PySem.W.Frag) : Cop → R2
  | .lt => fun x y H Q => rI0 (fun i j => .bl (decide (i < j))) x y H Q ∨ rLtT K x y H Q
  | .le => rI0 fun i j => .bl (decide (i ≤ j))
  | .gt => rI0 fun i j => .bl (decide (j < i))
  | .ge => rI0 fun i j => .bl (decide (j ≤ i))
  | .eq => rEqD K
  | .ne => rNeD K
  | .is => fun x y H Q => (y = .non ∧ Q (.bl (decide (x = .non))) H) ∨ rIsB x y H Q
  | .isnot => fun x y H Q => (y = .non ∧ Q (.bl (!decide (x = .non))) H) ∨ rNotB x y H Q
  | .isin => fun x y H Q => rInD K x y H Q ∨ rInT K false x y H Q ∨ ∃ i j, x = V.str i ∧ y = V.str j ∧ Q (.bl (inS i j)) H
  | .notin => fun x y H Q => rNotInD K x y H Q ∨ rInT K true x y H Q ∨ ∃ i j, x = V.str i ∧ y = V.str j ∧ Q (.bl (!inS i j)) H
def copO : Cop → CmpOp
  | .lt => .Lt | .le => .LtE | .gt => .Gt | .ge => .GtE | .eq => .Eq | .ne => .NotEq | .is => .Is | .isnot => .IsNot | .isin => .In | .notin => .NotIn
theorem opr_cmp (op : Cop) (hu : X.A.units + 65 < cLine) : OpR X (compareOp (copO op)) (rC X.K op) := by
  cases op with
  | lt => exact OpR.or op_lt (op_ltT (by omega))
  | le => exact op_le
  | gt => exact op_gt
  | ge => exact op_ge
  | eq => exact op_eqD (by omega)
  | ne => exact op_neD (by omega)
  | is => exact OpR.or op_isN op_isBl
  | isnot => exact OpR.or op_notN op_notBl
  | isin => exact OpR.or (op_inD hu) (OpR.or (op_inT hu) op_in_str)
  | notin => exact OpR.or (op_notInD hu) (OpR.or (op_notInT hu) op_notin_str)
theorem TopV.isNon {M : Addr → Prop} {H : Hp} {d : D} {v : V} (t : TopV g.K M H d v) : decide (v = .non) = isNoneD d := by
  cases d with
  | none => rw [t.none]; rfl
  | bool b => rw [t.bool]; rfl
  | int i => rw [t.int]; rfl
  | str i => rw [t.str]; rfl
  | list ds => obtain ⟨a, vs, rfl, _⟩ := t.list; rfl
  | tuple ds => obtain ⟨a, vs, rfl, _⟩ := t.tuple; rfl
  | dict ds => obtain ⟨a, rfl⟩ := t.dictR; rfl
/-- a comparison's reading, for any use of its bool -/
theorem cmp_ok {op : Cop} {c : C} {M : Addr → Prop} {H : Hp} {e : Fm} {x y : V} {d1 d2 : D} {b : Bool} {Q : VK} (t1 : TopV g.K M H d1 x) (t2 : TopV g.K M H d2 y) (ho : cmpD op d1 d2 = some b) (fin : Q (.bl b) H) : rC g.K op x y H Q := by
  have e1 := t1.isNon
  cases op <;> unfold cmpD at ho
  · split at ho <;> first | (rename_i hh; cases hh; done) | skip
    · cases ho; exact .inl ⟨_, _, t1.int, t2.int, fin⟩
    · rename_i xs ys _
      cases hx : xs.mapM intD with
      | none => rw [hx] at ho; cases ho
      | some ns =>
        rw [hx] at ho
        simp only [Option.bind_some] at ho
        cases hy : ys.mapM intD with
        | none => rw [hy] at ho; cases ho
        | some ms =>
          rw [hy] at ho
          cases ho
          obtain ⟨a, vs, rfl, h1, z1, r1⟩ := t1.tuple
          obtain ⟨b, ws, rfl, h2, z2, r2⟩ := t2.tuple
          refine .inr ⟨a, b, ns, ms, rfl, rfl, ?_, ?_, fin⟩
          · rw [← tup_ints r1 hx]; exact h1
          · rw [← tup_ints r2 hy]; exact h2
    all_goals cases ho
  · split at ho <;> first | (rename_i hh; cases hh; done) | skip
    all_goals first | (cases ho; exact ⟨_, _, t1.int, t2.int, fin⟩) | cases ho
  · split at ho <;> first | (rename_i hh; cases hh; done) | skip
    all_goals first | (cases ho; exact ⟨_, _, t1.int, t2.int, fin⟩) | cases ho
  · split at ho <;> first | (rename_i hh; cases hh; done) | skip
    all_goals first | (cases ho; exact ⟨_, _, t1.int, t2.int, fin⟩) | cases ho
  · simp only [eqG] at ho
    split at ho
    · rename_i hs
      rw [Bool.and_eq_true] at hs
      cases ho
      exact ⟨_, _, t1.dp hs.1, t2.dp hs.2, hs.1, hs.2, fin⟩
    · cases ho
  · simp only [eqG] at ho
    split at ho
    · rename_i hs
      rw [Bool.and_eq_true] at hs
      cases ho
      exact ⟨_, _, t1.dp hs.1, t2.dp hs.2, hs.1, hs.2, fin⟩
    · cases ho
  · cases d2 <;> first | (cases ho; done) | skip
    · simp only [Option.some.injEq] at ho
      refine .inl ⟨t2.none, ?_⟩
      rw [e1, ho]
      exact fin
    · cases d1 <;> first | (cases ho; done) | skip
      simp only [Option.some.injEq] at ho
      subst ho
      exact .inr ⟨_, _, t1.bool, t2.bool, fin⟩
    all_goals (cases d1 <;> cases ho)
  · cases d2 <;> first | (cases ho; done) | skip
    · simp only [Option.some.injEq] at ho
      refine .inl ⟨t2.none, ?_⟩
      rw [e1]
      rw [ho]
      exact fin
    · cases d1 <;> first | (cases ho; done) | skip
      simp only [Option.some.injEq] at ho
      subst ho
      exact .inr ⟨_, _, t1.bool, t2.bool, fin⟩
    all_goals (cases d1 <;> cases ho)
  · cases d2 <;> first | (cases ho; done) | skip
    all_goals first
      | (simp only at ho
         split at ho
         · rename_i hs
           rw [Bool.and_eq_true] at hs
           cases ho
           exact .inl ⟨_, _, t1.dp hs.1, t2.dp hs.2, hs.1, hs.2, fin⟩
         · cases ho)
      | (simp only at ho
         split at ho
         · rename_i hs
           rw [Bool.and_eq_true] at hs
           cases ho
           exact .inr (.inl ⟨_, _, t1.dp hs.1, t2.dp hs.2, hs.1, hs.2, fin⟩)
         · cases ho)
      | (cases d1 <;> first | (cases ho; done) | (cases ho; exact .inr (.inr ⟨_, _, t1.str, t2.str, fin⟩)))
  · cases d2 <;> first | (cases ho; done) | skip
    all_goals first
      | (simp only at ho
         split at ho
         · rename_i hs
           rw [Bool.and_eq_true] at hs
           cases ho
           exact .inl ⟨_, _, t1.dp hs.1, t2.dp hs.2, hs.1, hs.2, fin⟩
         · cases ho)
      | (simp only at ho
         split at ho
         · rename_i hs
           rw [Bool.and_eq_true] at hs
           cases ho
           exact .inr (.inl ⟨_, _, t1.dp hs.1, t2.dp hs.2, hs.1, hs.2, fin⟩)
         · cases ho)
      | (cases d1 <;> first | (cases ho; done) | (cases ho; exact .inr (.inr ⟨_, _, t1.str, t2.str, fin⟩)))
theorem ops_cmp (op : Cop) : OpS g (rC g.K op) fun a b => (cmpD op a b).map fun b => .val (.bool b) := by
  intro c M σ H e x y d1 d2 o Q s t1 t2 ho fin
  simp only at ho
  cases hc : cmpD op d1 d2 with
  | none => rw [hc] at ho; cases ho
  | some b =>
    rw [hc] at ho
    cases ho
    exact cmp_ok (c := c) (e := e) t1 t2 hc (fin.bool s)

/-! ### truth -/
theorem truth_ok {M : Addr → Prop} {H : Hp} {d : D} {v : V} {b : Bool} (t : TopV g.K M H d v) (h : truth d = some b) : TruV g.K v H b := by
  cases d with
  | none => rw [t.none]; cases h; rfl
  | bool b => rw [t.bool]; cases h; rfl
  | int i => rw [t.int]; cases h; rfl
  | str z =>
    rw [t.str]
    simp only [truth] at h
    split at h
    · rename_i hz
      cases h
      exact ⟨hz, rfl⟩
    · cases h
  | list ds =>
    obtain ⟨a, vs, rfl, h1, _, r⟩ := t.list
    cases h
    exact .inl ⟨vs, .inl h1, by rw [r.isEmpty]⟩
  | tuple ds =>
    obtain ⟨a, vs, rfl, h1, _, r⟩ := t.tuple
    cases h
    exact .inr (.inl ⟨vs, h1, by rw [r.isEmpty]⟩)
  | dict ds => cases h
/-! ### items, slices -/
theorem atI_rels {M : Addr → Prop} {H : Hp} {ds : List D} {vs : List V} {i : Int} {d : D} (r : Rels g.K M H ds vs) (h : atI ds i = some d) : ∃ v, atI vs i = some v ∧ Rel g.K M H d v := by
  unfold atI at h ⊢
  rw [← r.length]
  cases hj : ixN ds.length i with
  | none => rw [hj] at h; cases h
  | some j =>
    rw [hj] at h
    exact r.get h
theorem ops_idx : OpS g (fun x y H Q => rIxL g.K x y H Q ∨ rIxT g.K x y H Q ∨ rIxS x y H Q) fun a b => (idxD a b).map .val := by
  intro c M σ H e x y d1 d2 o Q s t1 t2 ho fin
  simp only at ho
  cases hd : idxD d1 d2 with
  | none => rw [hd] at ho; cases ho
  | some d =>
    rw [hd] at ho
    cases ho
    unfold idxD at hd
    split at hd
    · obtain ⟨a, vs, rfl, h1, z1, r1⟩ := t1.list
      obtain ⟨v, h2, h3⟩ := atI_rels r1 hd
      exact .inl ⟨a, vs, _, v, rfl, t2.int, .inl h1, h2, fin.val s h3⟩
    · obtain ⟨a, vs, rfl, h1, z1, r1⟩ := t1.tuple
      obtain ⟨v, h2, h3⟩ := atI_rels r1 hd
      exact .inr (.inl ⟨a, vs, _, v, rfl, t2.int, h1, h2, fin.val s h3⟩)
    · split at hd
      · rename_i z i hz
        cases hc : atI z.cps.toList i with
        | none => rw [hc] at hd; cases hd
        | some ch =>
          rw [hc] at hd
          cases hd
          exact .inr (.inr ⟨z, i, ch, t1.str, t2.int, hz, hc, fin.str s⟩)
      · cases hd
    · cases hd
theorem cut_rels {M : Addr → Prop} {H : Hp} {ds : List D} {vs : List V} (lo hi : Option Int) (r : Rels g.K M H ds vs) : Rels g.K M H (cutL ds lo hi) (cutV vs lo hi) := by
  unfold cutL cutV
  rw [r.length]
  exact (r.drop _).take _
theorem cut_len {ds : List D} (lo hi : Option Int) : (cutL ds lo hi).length ≤ ds.length := by
  unfold cutL
  rw [List.length_take, List.length_drop]
  omega
theorem cut_whole {ds : List D} {lo hi : Option Int} (h : HT.sIx ds.length 0 lo = 0 ∧ HT.sIx ds.length ds.length hi = ds.length) : cutL ds lo hi = ds := by
  unfold cutL
  rw [h.1, h.2]
  simp
def rSlc (K : PySem.W.Frag) : V → Option Int → Option Int → Hp → VK → Prop := fun x lo hi H Q => rSlL K x lo hi H Q ∨ rSlF K x lo hi H Q ∨ rSlS x lo hi H Q
theorem slr_slc : SlR X (rSlc X.K) := SlR.or sl_list (SlR.or sl_tupF sl_str)
theorem slc_ok {c : C} {M : Addr → Prop} {σ : L2.St} {H : Hp} {e : Fm} {x : V} {d : D} {lo hi : Option Int} {o : Opd} {Q : VK} (s : Sr g.K c M σ H e) (t : TopV g.K M H d x) (ho : slcD d lo hi = some o) (fin : Fin g c M σ H e o Q) : rSlc g.K x lo hi H Q := by
  unfold slcD at ho
  split at ho
  · cases ho
    obtain ⟨a, vs, rfl, h1, z1, r1⟩ := t.list
    exact .inl ⟨a, vs, rfl, .inl h1, fin.list s (Nat.le_trans (cut_len lo hi) z1) (cut_rels lo hi r1)⟩
  · cases ho
    obtain ⟨a, vs, rfl, h1, z1, r1⟩ := t.tuple
    refine .inr (.inl ⟨a, vs, rfl, h1, fun w => ?_, fun _ => fin.tup s (Nat.le_trans (cut_len lo hi) z1) (cut_rels lo hi r1)⟩)
    refine fin.val s ?_
    rw [← r1.length] at w
    rw [cut_whole w]
    rcases t with t | ⟨_, _, t⟩
    · exact t
    · exact t.elim
  · split at ho
    · rename_i hz
      cases ho
      exact .inr (.inr ⟨_, t.str, hz, fin.str s⟩)
    · cases ho
  · cases ho
end
/-! ### turned round: [::-1] -/
section
open PyProof.Rows HT
variable {prog : Program} {w : World} {A : Around} {E : Value → Shared → Prop} {s : Shared}
theorem turn_at (n : Nat) : Builtin.Slice.sliceAdjust none none (-1) (n : Int) = ((n : Int) - 1, -1) := by
  unfold Builtin.Slice.sliceAdjust
  rfl
theorem turn_many (n : Nat) : Builtin.Slice.slicePlaces ((n : Int) - 1) (-1) (-1) = n := by
  unfold Builtin.Slice.slicePlaces
  have h1 : ¬ ((-1 : Int) > 0) := by decide
  simp only [h1, if_false]
  split
  · have : (-(-1) : Int) = 1 := by decide
    simp only [this, Int.ediv_one]
    omega
  · omega
theorem turn_pick (xs : Array Value) : ((List.range xs.size).filterMap fun (m : Nat) => xs[(((xs.size : Int) - 1) + (m : Int) * (-1)).toNat]?).toArray = xs.toList.reverse.toArray := by
  have h2 : (List.range xs.size).filterMap (fun (m : Nat) => xs[(((xs.size : Int) - 1) + (m : Int) * (-1)).toNat]?) = ((List.range xs.size).map fun k => xs.size - 1 - k).filterMap (xs[·]?) := by
    rw [List.filterMap_map]
    congr 1
    funext m
    show xs[(((xs.size : Int) - 1) + (m : Int) * (-1)).toNat]? = xs[xs.size - 1 - m]?
    congr 1
    omega
  rw [h2, PySem.W.krv_range, List.filterMap_reverse, PySem.W.krv_all]
theorem turn_applied {sl : Addr} {vs : Value} {n : Nat} {Q : Int × Int × Nat → Shared → Prop} (hs : s.heap.IsSliceOf sl .none .none vs) (ps : IsPart vs (some (-1)))
    (h : Q ((n : Int) - 1, -1, n) s) : wpAny (model prog w) A (Builtin.Slice.sliceApplied (.ref sl) (pure (n : Int))) Q E s := by
  obtain ⟨os, h1, h2, h3⟩ := id hs
  unfold Builtin.Slice.sliceApplied Builtin.Slice.sliceFields
  refine wpAny_bind (wpAny_bind (wpAny_field h1 h3 (x := .none) rfl (wpAny_bind (wpAny_field h1 h3 (x := .none) rfl (wpAny_bind (wpAny_field h1 h3 (x := vs) rfl (wpAny_pure ?_)))))))
  refine wpAny_bind (slicePart_ ps ?_)
  show wpAny _ _ (if ((-1 : Int) == 0) = true then _ else _) _ _ s
  rw [if_neg (by decide)]
  refine wpAny_bind (slicePart_none (wpAny_bind (slicePart_none (wpAny_bind (wpAny_pure ?_)))))
  show wpAny _ _ (match Builtin.Slice.sliceAdjust none none (-1) (n : Int) with | (a, b) => pure (a, (-1 : Int), Builtin.Slice.slicePlaces a b (-1))) _ _ s
  rw [turn_at]
  show wpAny _ _ (pure ((n : Int) - 1, (-1 : Int), Builtin.Slice.slicePlaces ((n : Int) - 1) (-1) (-1))) _ _ s
  rw [turn_many]
  exact wpAny_pure h
theorem turn_tup {t sl : Addr} {xs : Array Value} {vs : Value} {Q : Value → Shared → Prop} (ht : IsTup s.heap t xs) (hs : s.heap.IsSliceOf sl .none .none vs) (ps : IsPart vs (some (-1))) (hz : xs.size ≤ sizeLine)
    (h : Q (.ref s.heap.objs.size) { s with heap := s.heap.push { cls := .type "tuple", data := .seq xs.toList.reverse.toArray } }) : wpAny (model prog w) A (getItem (.ref t) (.ref sl)) Q E s := by
  have hok : sizeOk (.seq xs.toList.reverse.toArray) := by
    show xs.toList.reverse.toArray.size ≤ sizeLine
    rw [List.size_toArray, List.length_reverse, Array.length_toList]
    exact hz
  obtain ⟨os, h1, h2, h3⟩ := id hs
  have hT : s.TypeIs (.ref sl) "slice" := ⟨os, h1, h2⟩
  unfold getItem
  try with_reducible refine wpAny_holding ?_
  first | refine wpAny_bind (wpAny_pure ?_) | skip
  refine wpAny_bind (wpAny_sequenceKey ht.typeIs (by decide) ?_)
  refine wpAny_bind (wpAny_callSpecial?_slot (name := Str.ofString "__getitem__") ht.typeIs PyProof.Rows.slot_tuple_getitem (wpAny_call_entry PyProof.Rows.slot_tuple_getitem ht.typeIs entry_tuple_getitem ?_ (args_tuple_getitem _ _)))
  show wpAny _ _ (Builtin.Tuple.tupleItemsOf (.ref t) >>= _) _ _ s
  refine wpAny_bind (tupleItemsOf_ ht (wpAny_bind (wpAny_typeOf hT ?_)))
  rw [if_pos (by decide)]
  refine wpAny_bind (turn_applied hs ps ?_)
  have hno : ¬ ((((xs.size : Int) - 1 == 0) && ((-1 : Int) == 1) && (xs.size == xs.size)) = true) := by
    rw [show ((-1 : Int) == 1) = false by decide, Bool.and_false, Bool.false_and]
    exact Bool.false_ne_true
  show wpAny _ _ (if (((xs.size : Int) - 1 == 0) && ((-1 : Int) == 1) && (xs.size == xs.size)) = true then _ else _) _ _ s
  rw [if_neg hno, turn_pick]
  first
    | exact wpAny_bind (m := Builtin.Tuple.tupleExact _) (wpAny_newObj_type (wpAny_pure ⟨_, rfl, wpAny_pure h⟩) hok)
    | exact wpAny_bind (m := Builtin.Tuple.tupleExact _) (wpAny_newObj_type (wpAny_bind (wpAny_pure (wpAny_pure ⟨_, rfl, wpAny_pure h⟩))) hok)
    | exact wpAny_bind (wpAny_bind (m := Builtin.Tuple.tupleExact _) (wpAny_newObj_type (wpAny_pure (wpAny_pure ⟨_, rfl, wpAny_pure h⟩)) hok))
    | exact wpAny_bind (wpAny_bind (m := Builtin.Tuple.tupleExact _) (wpAny_newObj_type (wpAny_pure ⟨_, rfl, wpAny_pure h⟩) hok))
end
section
open PyProof.Rows HT
variable {X : Cx}
def tTurn (K : PySem.W.Frag) (te : TE) : TE := fun σ H Q => te σ H fun x H1 => (∃ a xs, x = .ref a ∧ SqL K H1 a xs ∧ ∀ p, H1 p = none → Q (.ref p) (upd H1 p (.lst xs.reverse))) ∨
  (∃ a xs, x = .ref a ∧ SqT K H1 a xs ∧ ∀ (p : Addr) (o : Obj), o.dict = none → H1 p = none → Q (.ref p) (upd H1 p (.frz o (.tup xs.reverse))))
theorem pe_turn {e : Expr} {te : TE} {k : Nat} {p1 p2 p3 pos : Pos} (he : PE X e te) : PE X (.Subscript e (.Slice none none (some (.UnaryOp .USub (.Constant (.int 1) k p1) p2)) p3) pos) (tTurn X.K te) := by
  refine ⟨fun pins s σ H Q I h => Subscript_ (thn (he.run pins s σ H _ I h) fun v s1 ⟨x, H1, I1, r1, q1⟩ => ?_)⟩
  have hm : PO X (some (.UnaryOp .USub (.Constant (.int 1) k p1) p2)) (tPart (tUn (rU fun i => .int (-i)) (tC (.int 1)))) := po_some (pe_un un_neg pe_int)
  refine wpAny_Slice (thn (po_none.run pins s1 σ H1 (fun o G => o = none ∧ G = H1) I1 ⟨rfl, rfl⟩) fun vl s2 ⟨l, H2, I2, pl, c1, c2⟩ => ?_)
  subst c1 c2
  refine thn (po_none.run pins s2 σ H2 (fun o G => o = none ∧ G = H2) I2 ⟨rfl, rfl⟩) fun vu s3 ⟨u, H3, I3, pu, c1, c2⟩ => ?_
  subst c1 c2
  refine thn (hm.run pins s3 σ H3 (fun o G => o = some (-1) ∧ G = H3) I3 ⟨1, rfl, -1, rfl, rfl, rfl⟩) fun vs s4 ⟨o, H4, I4, ps, c1, c2⟩ => ?_
  subst c1 c2
  have I5 : Inv X pins σ H4 { s4 with heap := s4.heap.push { cls := .type "slice", data := .fields #[vl, vu, vs] } } := I4.kept (t' := s4.toks) fun b ob q => Heap.get?_push_of_some _ q
  rcases q1 with ⟨a, xs, c1, hx, q⟩ | ⟨a, xs, c1, hx, q⟩
  · subst c1
    cases r1
    obtain ⟨its, r, ht, hz⟩ := I5.list hx
    have hlen := r.length
    refine tail_any (ops := [.ref a, .ref s4.heap.objs.size]) ht.isList.typeIs (PySem.slot_list_getitem.lookup) (wpAny_getItem_list_slice ht.isList (Heap.IsSliceOf.new _ vl vu vs) pl pu ps (by decide) ?_ (by rw [List.size_toArray]; omega)) (by with_unfolding_all rfl)
    rw [PySem.W.krv_pick]
    exact ⟨.ref _, _, I5.laid (t' := s4.toks) (o := .lst xs.reverse) (fun b ob q => Heap.get?_push_of_some _ q) (Nat.le_refl _) ⟨by rw [List.length_reverse]; exact hz, _, 0, r.reverse, Heap.get?_push_size _ rfl⟩, rfl, q _ (I5.hok.fresh (Nat.le_refl _))⟩
  · subst c1
    cases r1
    cases pl
    cases pu
    obtain ⟨its, r, ht, hz⟩ := I5.tuple hx
    have hlen := r.length
    refine tail_any (ops := [.ref a, .ref s4.heap.objs.size]) ht.typeIs (PyProof.Rows.slot_tuple_getitem.lookup) (turn_tup ht (Heap.IsSliceOf.new _ .none .none vs) ps (by rw [List.size_toArray]; omega) ?_) (by with_unfolding_all rfl)
    exact ⟨.ref _, _, I5.laid (t' := s4.toks) (fun b ob q => Heap.get?_push_of_some _ q) (Nat.le_refl _) (tup_obj (by rw [List.length_reverse]; exact hz) r.reverse rfl), rfl, q _ _ rfl (I5.hok.fresh (Nat.le_refl _))⟩
end
end Ev

set_option Elab.async false
set_option linter.all false
set_option maxHeartbeats 2000000
set_option maxRecDepth 100000
/-! the built-in functions and methods, by values -/
namespace Ev
open PySem L2 PySem.Spec

/-! ### sorted of a tuple -/
section
open PyProof.Rows
variable {prog : Program} {w : World} {A : Around} {E : Value → Shared → Prop} {s : Shared}
theorem collectT {l : Addr} {vs : List Value} {Q : List Value → Shared → Prop} (hl : s.heap.IsTuple l vs.toArray) (hsz : vs.length ≤ sizeLine)
    (h : Q vs { s with heap := (s.heap.push (seqObj "list" #[] 0)).update s.heap.objs.size (Obj.mapSeq (· ++ vs.toArray)) }) : wpAny (model prog w) A (collect (.ref l)) Q E s := by
  obtain ⟨o, ho, hc, n, hd⟩ := id hl
  have ho' : (s.heap.push (seqObj "list" #[] 0)).get? l = some o := Heap.get?_push_of_some _ ho
  have ht : (Value.type "tuple" == Value.type "tuple") = true := rfl
  unfold collect
  refine wpAny_bind (wpAny_runValue (codeAny_builtin entry_proto_collect' (?_ : wpAny _ _ (do again (.builtin "list.__iadd__" ⟨[← newList [], .ref l], []⟩)) _ _ s)))
  refine wpAny_bind (wpAny_newList (wpAny_pure ⟨Code.quiet_builtin _ (by decide +kernel), codeAny_builtin entry_list_iadd' (?_ : wpAny _ _ (Builtin.List.listExtendWith (.ref s.heap.objs.size) (.ref l) (.ref s.heap.objs.size)) _ _ { s with heap := s.heap.push (seqObj "list" #[] 0) })⟩))
  unfold Builtin.List.listExtendWith
  refine wpAny_bind (wpAny_typeOf (T := "tuple") ⟨o, ho', hc⟩ ?_)
  rw [if_pos (by rw [ht]; simp)]
  refine wpAny_bind (listItems_at ho' hd (wpAny_bind (listItems_at (xs := #[]) (n := 0) (Heap.get?_push_size _ rfl) rfl ?_)))
  rw [if_neg (by simp)]
  refine wpAny_bind (listUpdate_at (xs := #[]) (n := 0) (Heap.get?_push_size _ rfl) rfl (wpAny_pure ?_) (Nat.zero_le _) (by show (#[] ++ vs.toArray).size ≤ sizeLine + 1; simp only [Array.size_append, List.size_toArray, List.length_nil]; omega))
  refine wpAny_bind (m := load s.heap.objs.size) (wpAny_load (get?_update_seq (Heap.get?_push_size _ rfl) _) ?_)
  show wpAny (model prog w) A (pure ((#[] : Array Value) ++ vs.toArray).toList) Q E _
  have e : ((#[] : Array Value) ++ vs.toArray).toList = vs := by simp
  rw [e]
  exact wpAny_pure h
theorem sortedT {l : Addr} {vs : List Value} {ltv : Value → Value → Bool} {Q : Value → Shared → Prop} (O : SrtO.Swo ltv) (hl : s.heap.IsTuple l vs.toArray) (hz : vs.length ≤ sizeLine)
    (hS : 2 ≤ vs.length → ∀ (h₁ : Heap) (a : Addr), h₁.get? a = some (seqObj "list" vs.toArray 0) → (∀ b o, s.heap.get? b = some o → b ≠ a ∧ h₁.get? b = some o) → SrtO.SortableO prog w A.in1.in1 { s with heap := h₁ } a vs ltv)
    (h : ∀ out : List Value, SrtO.Srtd ltv out → SrtO.Stb ltv out vs → Q (.ref (s.heap.objs.size + 1)) { s with heap := sortedAll s.heap vs out.toArray }) :
    wpAny (model prog w) A (call (.builtin "sorted") [.ref l]) Q E s := by
  refine Calls.call_function_entry kind_sorted plain_sorted entry_sorted (args_sorted1 _) ?_
  unfold Builtin.«sorted»
  refine wpAny_bind (m := checkCount "sorted" 1 1 _) (wpAny_pure (wpAny_bind (collectT hl hz (wpAny_bind (wpAny_newList ?_ hz)))))
  generalize hg : (s.heap.push (seqObj "list" #[] 0)).update s.heap.objs.size (Obj.mapSeq (· ++ vs.toArray)) = hh
  have hsz : hh.objs.size = s.heap.objs.size + 1 := by rw [← hg, Heap.size_update, size_push']
  have hoL : (hh.push (seqObj "list" vs.toArray 0)).get? (s.heap.objs.size + 1) = some (seqObj "list" vs.toArray 0) := by
    rw [← hsz]; exact Heap.get?_push_size _ rfl
  have keep : ∀ b o, s.heap.get? b = some o → b ≠ s.heap.objs.size + 1 ∧ (hh.push (seqObj "list" vs.toArray 0)).get? b = some o := fun b o q => by
    have hlt : b < s.heap.objs.size := Heap.lt_size q
    refine ⟨Nat.ne_of_lt (Nat.lt_succ_of_lt hlt), Heap.get?_push_of_some _ ?_⟩
    rw [← hg, Heap.get?_update_ne _ _ _ _ (Nat.ne_of_lt hlt)]
    exact Heap.get?_push_of_some _ q
  show wpAny _ _ _ _ _ { s with heap := hh.push (seqObj "list" vs.toArray 0) }
  rw [hsz]
  refine wpAny_bind (wpAny_holding (wpAny_call_entry slot_list_sort ⟨_, hoL, rfl⟩ entry_list_sort (SrtO.list_sort_ord O hoL hz (fun h2 => hS h2 _ _ hoL keep) fun out hs hb => ⟨_, rfl, wpAny_pure ⟨_, rfl, ?_⟩⟩) (args_list_sort _)))
  have := h out hs hb
  unfold sortedAll at this
  rw [hg] at this
  exact this
end
def rSortedIT (K : PySem.W.Frag) : List V → Hp → VK → Prop := fun vs H Q => ∃ (a : Addr) (ns : List Int), vs = [V.ref a] ∧ (SqL K H a (ns.map V.int) ∨ SqT K H a (ns.map V.int)) ∧
  ∀ (ns' : List Int) (p : Addr), ns'.Perm ns → ns'.Pairwise (· ≤ ·) → H p = none → Q (.ref p) (upd H p (.lst (ns'.map V.int)))
section
variable {X : Cx}
theorem cr_sortedIT : CallR X (.builtin "sorted") (rSortedIT X.K) := by
  intro pins s σ H vs us Q I r h
  obtain ⟨a, ns, rfl, hs, q⟩ := h
  rcases hs with hs | hs
  · exact cr_sortedI pins s σ H _ us Q I r ⟨a, ns, rfl, hs, q⟩
  · obtain ⟨its, rv, hl, hz⟩ := I.tuple hs
    rw [Vals.ref1 r]
    have hi := rv.ints
    refine sortedT SrtO.swo_int hl (by rw [← rv.length]; exact hz) (fun h2 h₁ a' _ _ => SrtO.ints_sortable hi h2) fun out h1 h2 => ?_
    obtain ⟨k1, k2, k3⟩ := SrtO.ints_out hi h1 h2
    obtain ⟨ep, he'⟩ := PyProof.Rows.sortedAll_at s.heap its out.toArray
    have hlen : ((out.map SrtO.iv).map V.int).length ≤ sizeLine := by
      rw [List.length_map, k2.length_eq]
      rwa [List.length_map] at hz
    exact ⟨.ref _, upd H (s.heap.objs.size + 1) (.lst ((out.map SrtO.iv).map V.int)), I.laid (t' := s.toks) (fun _ _ => PyProof.Rows.sortedAll_old) (Nat.le_succ _) ⟨hlen, out, ep, vals_of_ints k1, he'⟩, rfl, q _ _ k2 k3 (I.hok.fresh (Nat.le_succ _))⟩
end

/-! ### sorted of tuples of ints -/
theorem lex_asym : ∀ a b : List Int, HT.lexLt a b = true → HT.lexLt b a = false
  | [], [], h => by cases h
  | [], _ :: _, _ => rfl
  | _ :: _, [], h => by cases h
  | x :: xs, y :: ys, h => by
    rw [HT.lexLt_cons] at h ⊢
    by_cases e : x = y
    · subst e
      rw [if_pos rfl] at h ⊢
      exact lex_asym xs ys h
    · rw [if_neg e] at h
      rw [if_neg fun z => e z.symm]
      have := of_decide_eq_true h
      exact decide_eq_false (by omega)
theorem lex_tr : ∀ a b c : List Int, HT.lexLt b a = false → HT.lexLt c b = false → HT.lexLt c a = false
  | [], b, c, h1, h2 => by cases c <;> rfl
  | _ :: _, [], c, h1, h2 => by cases h1
  | _ :: _, _ :: _, [], h1, h2 => by cases h2
  | x :: xs, y :: ys, z :: zs, h1, h2 => by
    rw [HT.lexLt_cons] at h1 h2 ⊢
    by_cases e1 : y = x
    · subst e1
      rw [if_pos rfl] at h1
      by_cases e2 : z = y
      · subst e2
        rw [if_pos rfl] at h2 ⊢
        exact lex_tr xs ys zs h1 h2
      · rw [if_neg e2] at h2 ⊢
        exact h2
    · rw [if_neg e1] at h1
      have h1 := of_decide_eq_false h1
      by_cases e2 : z = y
      · subst e2
        rw [if_neg e1]
        exact decide_eq_false h1
      · rw [if_neg e2] at h2
        have h2 := of_decide_eq_false h2
        rw [if_neg (by omega)]
        exact decide_eq_false (by omega)
theorem lex_eq : ∀ a b : List Int, HT.lexLt a b = false → HT.lexLt b a = false → a = b
  | [], [], _, _ => rfl
  | [], _ :: _, h, _ => by cases h
  | _ :: _, [], _, h => by cases h
  | x :: xs, y :: ys, h1, h2 => by
    rw [HT.lexLt_cons] at h1 h2
    by_cases e : x = y
    · subst e
      rw [if_pos rfl] at h1 h2
      rw [lex_eq xs ys h1 h2]
    · rw [if_neg e] at h1
      rw [if_neg fun z => e z.symm] at h2
      have h1 := of_decide_eq_false h1
      have h2 := of_decide_eq_false h2
      omega
section
open PyProof.Rows
variable {prog : Program} {w : World} {A : Around} {E : Value → Shared → Prop} {s : Shared}
theorem katlex {b : Bool} {Q : Bool → Shared → Prop} {xs ys : List Value} {ns ms : List Int} (i : Nat) (hx : IntsAre xs ns) (hy : IntsAre ys ms) (h : Q (HT.lexLt ns ms) s) :
    PySem.W.KatLex prog w A b (decide (xs.length < ys.length)) Q (xs.zip ys) i s := by
  induction hx generalizing ys ms i with
  | nil =>
    cases hy with
    | nil => exact PySem.W.kat_nil h
    | cons q u hy => exact PySem.W.kat_nil (by simpa using (show Q true s from h))
  | @cons p t xs ns hx ih =>
    cases hy with
    | nil => exact PySem.W.kat_nil (by simpa using (show Q false s from h))
    | @cons q u ys ms hy =>
      refine PySem.W.kat_cons (wpAny_eqBool_int ?_)
      rw [HT.lexLt_cons] at h
      by_cases e : p = q
      · subst e
        rw [if_pos rfl] at h
        rw [beq_self_eq_true]
        refine PySem.W.kat_yes ?_
        have := ih (i + 1) hy h
        have el : decide ((Value.int p t :: xs).length < (Value.int p u :: ys).length) = decide (xs.length < ys.length) := by simp
        rw [el]
        exact this
      · rw [if_neg e] at h
        rw [show (p == q) = false from beq_eq_false_iff_ne.mpr e]
        exact PySem.W.kat_no (TS.oneLt_ints _ h)
/-- tuples of ints, none of them empty -/
def TupsI (h : Heap) (k : Value → List Int) (vs : List Value) : Prop := ∀ v ∈ vs, TS.TupInts h v (k v) ∧ k v ≠ []
theorem tupsI_firsts {h : Heap} {k : Value → List Int} : ∀ vs : List Value, TupsI h k vs → ∃ fs, PySem.W.KatTups h vs fs ∧ fs.length = vs.length ∧ ∀ f ∈ fs, ∃ n t, f = Value.int n t
  | [], _ => ⟨[], .nil, rfl, fun f hf => nomatch hf⟩
  | v :: vs, x => by
    obtain ⟨fs, kt, hl, hi⟩ := tupsI_firsts vs fun u hu => x u (List.mem_cons_of_mem _ hu)
    obtain ⟨⟨a, xs, rfl, ⟨o, ho, hc, n, hd⟩, ii⟩, hne⟩ := x _ List.mem_cons_self
    cases q : xs.toList with
    | nil =>
      rw [q] at ii
      have := ii.length
      simp only [List.length_nil] at this
      exact absurd (List.eq_nil_of_length_eq_zero this.symm) hne
    | cons y ys =>
      obtain ⟨m, t, hy⟩ := ii.all y (by rw [q]; exact List.mem_cons_self)
      refine ⟨y :: fs, PySem.W.KatTups.cons ho hc hd ?_ kt, by simp [hl], fun f hf => ?_⟩
      · have z := congrArg (fun l : List Value => l[0]?) q
        simpa using z
      · rcases List.mem_cons.mp hf with rfl | hf
        · exact ⟨m, t, hy⟩
        · exact hi f hf
theorem tupsI_sortable {k : Value → List Int} {a : Addr} {vs : List Value} (h2 : 2 ≤ vs.length) (x : TupsI s.heap k vs) (hna : ∀ v ∈ vs, v ≠ .ref a) : SrtO.SortableO prog w A s a vs fun u v => HT.lexLt (k u) (k v) := by
  intro h' keep
  have x' : TupsI h' k vs := fun v hv => by
    obtain ⟨⟨b, xs, e, ⟨o, ho, hc, hd⟩, ii⟩, hne⟩ := x v hv
    refine ⟨⟨b, xs, e, ⟨o, keep b o (fun z => hna v hv (by rw [e, z])) ho, hc, hd⟩, ii⟩, hne⟩
  obtain ⟨fs, kt, hl, hi⟩ := tupsI_firsts vs x'
  refine ⟨_, fun Q E hq => PySem.W.kat_kind (s := { s with heap := h' }) (T := Value.type "int") kt (by omega) (fun f hf => ?_) rfl hq, fun p q hp hq => ?_⟩
  · obtain ⟨n, t, rfl⟩ := hi f hf
    exact PySem.W.Looks.of_pure rfl
  · obtain ⟨⟨b, xs, e, ⟨o, ho, hc, n, hd⟩, ii⟩, hne⟩ := x' _ hp
    obtain ⟨⟨b', ys, e', ⟨o', ho', hc', n', hd'⟩, ii'⟩, hne'⟩ := x' _ hq
    rw [e, e']
    refine PySem.W.kat_lt ho hd ho' hd' ?_
    have := katlex (prog := prog) (w := w) (A := A) (s := { s with heap := h' }) (b := Value.type "int" != Value.type "tuple") (Q := fun r s' => s' = { s with heap := h' } ∧ r = HT.lexLt (k p.1) (k q.1)) 0 ii ii' ⟨rfl, rfl⟩
    simpa using this
end

def rSortedTI (K : PySem.W.Frag) : List V → Hp → VK → Prop := fun vs H Q => ∃ (a : Addr) (ps : List (V × List Int)), vs = [V.ref a] ∧ (SqL K H a (ps.map Prod.fst) ∨ SqT K H a (ps.map Prod.fst)) ∧
  (∀ p ∈ ps, (∃ t, p.1 = V.ref t ∧ SqT K H t (p.2.map V.int)) ∧ p.2 ≠ []) ∧
  ∀ (qs : List (V × List Int)) (p : Addr), qs.Perm ps → qs.Pairwise (fun x y => HT.lexLt y.2 x.2 = false) → H p = none → Q (.ref p) (upd H p (.lst (qs.map Prod.fst)))
section
variable {X : Cx} {pins : List (Addr × Obj)} {σ : L2.St} {H : Hp} {s : Shared}
theorem ti_pairs (I : Inv X pins σ H s) : ∀ {ps : List (V × List Int)} {us : List Value}, Vals (ps.map Prod.fst) us → (∀ p ∈ ps, (∃ t, p.1 = V.ref t ∧ SqT X.K H t (p.2.map V.int)) ∧ p.2 ≠ []) →
    ps = us.map (fun u => (backV u, TS.intsOf s.heap u)) ∧ TupsI s.heap (TS.intsOf s.heap) us ∧ ∀ u ∈ us, ∃ a, u = Value.ref a
  | [], us, r, h => by
    cases r
    exact ⟨rfl, (fun v hv => by cases hv), (fun v hv => by cases hv)⟩
  | p :: ps, us, r, h => by
    obtain ⟨x, ns⟩ := p
    cases r with
    | cons r rr =>
      rename_i u us
      obtain ⟨e1, e2, e3⟩ := ti_pairs I rr fun q hq => h q (List.mem_cons_of_mem _ hq)
      obtain ⟨⟨t, rfl, ht⟩, hne⟩ := h _ List.mem_cons_self
      cases r
      obtain ⟨its, rv, p1, hz⟩ := I.tuple ht
      have ti : TS.TupInts s.heap (.ref t) ns := ⟨t, its.toArray, rfl, p1, by simpa using rv.ints⟩
      have ei := ti.ints
      refine ⟨?_, fun v hv => ?_, fun v hv => ?_⟩
      · rw [List.map_cons, ← e1, ei]
        rfl
      · rcases List.mem_cons.mp hv with rfl | hv
        · rw [ei]; exact ⟨ti, hne⟩
        · exact e2 v hv
      · rcases List.mem_cons.mp hv with rfl | hv
        · exact ⟨t, rfl⟩
        · exact e3 v hv
theorem swo_ti (h : Heap) : SrtO.Swo fun u v => HT.lexLt (TS.intsOf h u) (TS.intsOf h v) := ⟨fun x y => lex_asym _ _, fun x y z h1 h2 => lex_tr _ _ _ h1 h2⟩
theorem tups_at {h h' : Heap} {us : List Value} (x : TupsI h (TS.intsOf h) us) (k : ∀ b o, h.get? b = some o → h'.get? b = some o) : TupsI h' (TS.intsOf h) us := fun v hv => by
  obtain ⟨q1, q2⟩ := x v hv
  exact ⟨q1.keeps fun b o e _ => k b o e, q2⟩
theorem cr_sortedTI : CallR X (.builtin "sorted") (rSortedTI X.K) := by
  intro pins s σ H vs us Q I r h
  obtain ⟨a, ps, rfl, hs, hp, q⟩ := h
  rw [Vals.ref1 r]
  have fin : ∀ its : List Value, Vals (ps.map Prod.fst) its → its.length ≤ sizeLine → ∀ out : List Value, SrtO.Srtd (fun u v => HT.lexLt (TS.intsOf s.heap u) (TS.intsOf s.heap v)) out → SrtO.Stb (fun u v => HT.lexLt (TS.intsOf s.heap u) (TS.intsOf s.heap v)) out its →
      EP X pins σ Q (.ref (s.heap.objs.size + 1)) { s with heap := PyProof.Rows.sortedAll s.heap its out.toArray } := fun its rv hz out h1 h2 => by
    obtain ⟨e1, e2, e3⟩ := ti_pairs I rv hp
    obtain ⟨ep, he'⟩ := PyProof.Rows.sortedAll_at s.heap its out.toArray
    have ef : (out.map fun u => (backV u, TS.intsOf s.heap u)).map Prod.fst = out.map backV := by rw [List.map_map]; rfl
    have hl : (out.map backV).length ≤ sizeLine := by
      rw [List.length_map, h2.perm.length_eq]
      exact hz
    refine ⟨.ref _, upd H (s.heap.objs.size + 1) (.lst (out.map backV)), I.laid (t' := s.toks) (fun _ _ => PyProof.Rows.sortedAll_old) (Nat.le_succ _) ⟨hl, out, ep, vals_back fun u hu => e3 u (h2.perm.mem_iff.mp hu), he'⟩, rfl, ?_⟩
    rw [← ef]
    refine q _ _ ?_ (List.pairwise_map.mpr h1) (I.hok.fresh (Nat.le_succ _))
    have := h2.perm.map fun u => (backV u, TS.intsOf s.heap u)
    rw [← e1] at this
    exact this
  have ok : ∀ its : List Value, Vals (ps.map Prod.fst) its → 2 ≤ its.length → ∀ (h₁ : Heap) (a' : Addr), h₁.get? a' = some (PyProof.Rows.seqObj "list" its.toArray 0) → (∀ b o, s.heap.get? b = some o → b ≠ a' ∧ h₁.get? b = some o) →
      SrtO.SortableO X.prog X.w X.A.in1.in1 { s with heap := h₁ } a' its fun u v => HT.lexLt (TS.intsOf s.heap u) (TS.intsOf s.heap v) := fun its rv h2 h₁ a' _ keep => by
    obtain ⟨e1, e2, e3⟩ := ti_pairs I rv hp
    refine tupsI_sortable (s := { s with heap := h₁ }) (k := TS.intsOf s.heap) h2 (tups_at e2 fun b o e => (keep b o e).2) fun v hv e => ?_
    obtain ⟨⟨b, xs, eb, ⟨o, ho, _⟩, _⟩, _⟩ := e2 v hv
    rw [e] at eb
    cases eb
    exact (keep _ o ho).1 rfl
  rcases hs with hs | hs
  · obtain ⟨its, rv, hl, hz⟩ := I.list hs
    have hz' : its.length ≤ sizeLine := by rw [← rv.length]; exact hz
    exact SrtO.sorted_ord (swo_ti s.heap) hl.isList hz' (ok its rv) (fin its rv hz')
  · obtain ⟨its, rv, hl, hz⟩ := I.tuple hs
    have hz' : its.length ≤ sizeLine := by rw [← rv.length]; exact hz
    exact sortedT (swo_ti s.heap) hl hz' (ok its rv) (fin its rv hz')
end
theorem insL_perm (x : List Int) : ∀ l : List (List Int), (insL x l).Perm (x :: l)
  | [] => .refl _
  | y :: r => by
    unfold insL
    split
    · exact ((insL_perm x r).cons y).trans (.swap x y r)
    · exact .refl _
theorem sortL_perm : ∀ l : List (List Int), (sortL l).Perm l
  | [] => .refl _
  | x :: r => (insL_perm x _).trans ((sortL_perm r).cons x)
theorem insL_sorted (x : List Int) : ∀ l : List (List Int), l.Pairwise (fun a b => HT.lexLt b a = false) → (insL x l).Pairwise (fun a b => HT.lexLt b a = false)
  | [], _ => by simp [insL]
  | y :: r, h => by
    have h1 := List.pairwise_cons.mp h
    unfold insL
    split
    · rename_i q
      refine List.pairwise_cons.mpr ⟨fun z hz => ?_, insL_sorted x r h1.2⟩
      rcases List.mem_cons.mp ((insL_perm x r).mem_iff.mp hz) with rfl | hz
      · exact lex_asym _ _ q
      · exact h1.1 z hz
    · rename_i q
      refine List.pairwise_cons.mpr ⟨fun z hz => ?_, h⟩
      rcases List.mem_cons.mp hz with rfl | hz
      · simpa using q
      · exact lex_tr _ _ _ (by simpa using q) (h1.1 z hz)
theorem sortL_sorted : ∀ l : List (List Int), (sortL l).Pairwise (fun a b => HT.lexLt b a = false)
  | [] => .nil
  | x :: r => insL_sorted x _ (sortL_sorted r)
theorem sortL_one {l l' : List (List Int)} (p : l'.Perm l) (s' : l'.Pairwise (fun a b => HT.lexLt b a = false)) (s : l.Pairwise (fun a b => HT.lexLt b a = false)) : l' = l :=
  p.eq_of_pairwise (fun a b _ _ h1 h2 => lex_eq a b h2 h1) s' s
/-! ### the mathematics of sorted, max, min -/
theorem insI_perm (x : Int) : ∀ l : List Int, (insI x l).Perm (x :: l)
  | [] => .refl _
  | y :: r => by
    unfold insI
    split
    · exact .refl _
    · exact ((insI_perm x r).cons y).trans (.swap x y r)
theorem sortI_perm : ∀ l : List Int, (sortI l).Perm l
  | [] => .refl _
  | x :: r => (insI_perm x _).trans ((sortI_perm r).cons x)
theorem insI_sorted (x : Int) : ∀ l : List Int, l.Pairwise (· ≤ ·) → (insI x l).Pairwise (· ≤ ·)
  | [], _ => by simp [insI]
  | y :: r, h => by
    have h1 := List.pairwise_cons.mp h
    unfold insI
    split
    · rename_i q
      refine List.pairwise_cons.mpr ⟨fun z hz => ?_, h⟩
      rcases List.mem_cons.mp hz with rfl | hz
      · exact q
      · exact Int.le_trans q (h1.1 z hz)
    · rename_i q
      refine List.pairwise_cons.mpr ⟨fun z hz => ?_, insI_sorted x r h1.2⟩
      have := (insI_perm x r).mem_iff.mp hz
      rcases List.mem_cons.mp this with rfl | hz
      · omega
      · exact h1.1 z hz
theorem sortI_sorted : ∀ l : List Int, (sortI l).Pairwise (· ≤ ·)
  | [] => .nil
  | x :: r => insI_sorted x _ (sortI_sorted r)
theorem sorted_one {l l' : List Int} (p : l'.Perm l) (s' : l'.Pairwise (· ≤ ·)) (s : l.Pairwise (· ≤ ·)) : l' = l :=
  p.eq_of_pairwise (fun a b _ _ h1 h2 => Int.le_antisymm h1 h2) s' s
theorem maxI_spec : ∀ (l : List Int) (m : Int), maxI m l ∈ m :: l ∧ ∀ y ∈ m :: l, y ≤ maxI m l
  | [], m => ⟨List.mem_cons_self, fun y h => by
    rcases List.mem_cons.mp h with rfl | h
    · exact Int.le_refl _
    · cases h⟩
  | x :: r, m => by
    unfold maxI
    have ih := maxI_spec r (if m < x then x else m)
    refine ⟨?_, fun y h => ?_⟩
    · rcases List.mem_cons.mp ih.1 with q | q
      · rw [q]
        split <;> simp
      · exact List.mem_cons_of_mem _ (List.mem_cons_of_mem _ q)
    · have h0 := ih.2 _ List.mem_cons_self
      rcases List.mem_cons.mp h with rfl | h
      · refine Int.le_trans ?_ h0
        split <;> omega
      · rcases List.mem_cons.mp h with rfl | h
        · refine Int.le_trans ?_ h0
          split <;> omega
        · exact ih.2 y (List.mem_cons_of_mem _ h)
theorem minI_spec : ∀ (l : List Int) (m : Int), minI m l ∈ m :: l ∧ ∀ y ∈ m :: l, minI m l ≤ y
  | [], m => ⟨List.mem_cons_self, fun y h => by
    rcases List.mem_cons.mp h with rfl | h
    · exact Int.le_refl _
    · cases h⟩
  | x :: r, m => by
    unfold minI
    have ih := minI_spec r (if x < m then x else m)
    refine ⟨?_, fun y h => ?_⟩
    · rcases List.mem_cons.mp ih.1 with q | q
      · rw [q]
        split <;> simp
      · exact List.mem_cons_of_mem _ (List.mem_cons_of_mem _ q)
    · have h0 := ih.2 _ List.mem_cons_self
      rcases List.mem_cons.mp h with rfl | h
      · refine Int.le_trans h0 ?_
        split <;> omega
      · rcases List.mem_cons.mp h with rfl | h
        · refine Int.le_trans h0 ?_
          split <;> omega
        · exact ih.2 y (List.mem_cons_of_mem _ h)

/-! ### lists of one kind -/
section
variable {K : PySem.W.Frag} {M : Addr → Prop} {H : Hp}
theorem mapM_cons {α β : Type} {f : α → Option β} {x : α} {r : List α} {ys : List β} (h : (x :: r).mapM f = some ys) : ∃ y ys', f x = some y ∧ r.mapM f = some ys' ∧ ys = y :: ys' := by
  rw [List.mapM_cons] at h
  cases hx : f x with
  | none => rw [hx] at h; cases h
  | some y =>
    rw [hx] at h
    cases hr : r.mapM f with
    | none => rw [hr] at h; cases h
    | some ys' =>
      rw [hr] at h
      cases h
      exact ⟨y, ys', rfl, rfl, rfl⟩
theorem rels_ints : ∀ {ds : List D} {vs : List V} {ns : List Int}, Rels K M H ds vs → ds.mapM intD = some ns → vs = ns.map V.int ∧ ds = ns.map PyData.int
  | [], vs, ns, r, h => by
    simp only [Rels] at r
    cases h
    exact ⟨r, rfl⟩
  | d :: ds, vs, ns, r, h => by
    simp only [Rels] at r
    obtain ⟨v, rs, rfl, q, t⟩ := r
    obtain ⟨n, ns', h1, h2, rfl⟩ := mapM_cons h
    obtain ⟨e1, e2⟩ := rels_ints t h2
    cases d <;> first | (cases h1; done) | skip
    cases h1
    rw [(show v = V.int _ from by simpa only [Rel] using q), e1, e2]
    exact ⟨rfl, rfl⟩
theorem rels_bools : ∀ {ds : List D} {vs : List V} {ns : List Bool}, Rels K M H ds vs → ds.mapM boolD = some ns → vs = ns.map V.bl
  | [], vs, ns, r, h => by
    simp only [Rels] at r
    cases h
    exact r
  | d :: ds, vs, ns, r, h => by
    simp only [Rels] at r
    obtain ⟨v, rs, rfl, q, t⟩ := r
    obtain ⟨n, ns', h1, h2, rfl⟩ := mapM_cons h
    have e1 := rels_bools t h2
    cases d <;> first | (cases h1; done) | skip
    cases h1
    rw [(show v = V.bl _ from by simpa only [Rel] using q), e1]
    rfl
theorem rels_of_ints : ∀ ns : List Int, Rels K M H (ns.map PyData.int) (ns.map V.int)
  | [] => Rels.nil
  | n :: r => Rels.cons (by simp only [Rel]) (rels_of_ints r)
theorem tupI_ok {d : D} {v : V} {ns : List Int} (r : Rel K M H d v) (h : tupI d = some ns) : d = tupOf ns ∧ (∃ t, v = V.ref t ∧ SqT K H t (ns.map V.int)) ∧ ns ≠ [] := by
  cases d <;> first | (cases h; done) | skip
  rename_i ds
  simp only [tupI] at h
  split at h
  · cases h
  · rename_i hne
    have t : TopV K M H (.tuple ds) v := .inl r
    obtain ⟨a, vs, rfl, h1, z, r1⟩ := t.tuple
    obtain ⟨e1, e2⟩ := rels_ints r1 h
    refine ⟨by rw [tupOf, ← e2], ⟨a, rfl, by rw [← e1]; exact h1⟩, fun e => hne ?_⟩
    rw [e2, e]
    rfl
theorem rels_tups : ∀ {ds : List D} {vs : List V} {ks : List (List Int)}, Rels K M H ds vs → ds.mapM tupI = some ks → ∃ ps : List (V × List Int), ps.map Prod.fst = vs ∧ ps.map Prod.snd = ks ∧ (∀ p ∈ ps, Rel K M H (tupOf p.2) p.1 ∧ (∃ t, p.1 = V.ref t ∧ SqT K H t (p.2.map V.int)) ∧ p.2 ≠ []) ∧ ds = ks.map tupOf
  | [], vs, ks, r, h => by
    simp only [Rels] at r
    cases h
    exact ⟨[], by rw [r]; rfl, rfl, (fun p hp => by cases hp), rfl⟩
  | d :: ds, vs, ks, r, h => by
    simp only [Rels] at r
    obtain ⟨v, rs, rfl, q, t⟩ := r
    obtain ⟨n, ns', h1, h2, rfl⟩ := mapM_cons h
    obtain ⟨ps, e1, e2, e3, e4⟩ := rels_tups t h2
    obtain ⟨z1, z2, z3⟩ := tupI_ok q h1
    refine ⟨(v, n) :: ps, by simp [e1], by simp [e2], fun p hp => ?_, by rw [z1, e4]; rfl⟩
    rcases List.mem_cons.mp hp with rfl | hp
    · exact ⟨by rw [← z1]; exact q, z2, z3⟩
    · exact e3 p hp
theorem rels_pairs : ∀ {qs : List (V × List Int)}, (∀ q ∈ qs, Rel K M H (tupOf q.2) q.1) → Rels K M H (qs.map (tupOf ∘ Prod.snd)) (qs.map Prod.fst)
  | [], _ => Rels.nil
  | q :: qs, h => Rels.cons (h q List.mem_cons_self) (rels_pairs fun z hz => h z (List.mem_cons_of_mem _ hz))
theorem TopV.items {d : D} {xs : List D} {v : V} (t : TopV K M H d v) (h : items d = some xs) : ∃ a vs, v = .ref a ∧ (SqL K H a vs ∨ SqT K H a vs) ∧ xs.length ≤ sizeLine ∧ Rels K M H xs vs := by
  cases d <;> first | (cases h; done) | skip
  · cases h
    obtain ⟨a, vs, e, h1, z, r⟩ := t.list
    exact ⟨a, vs, e, .inl (.inl h1), z, r⟩
  · cases h
    obtain ⟨a, vs, e, h1, z, r⟩ := t.tuple
    exact ⟨a, vs, e, .inr h1, z, r⟩
end

/-! ### the built-in functions -/
def TopVs (K : PySem.W.Frag) (M : Addr → Prop) (H : Hp) : List D → List V → Prop
  | [], vs => vs = []
  | d :: ds, vs => ∃ v r, vs = v :: r ∧ TopV K M H d v ∧ TopVs K M H ds r
inductive BV where | bi (n : String) | ty (n : String)
def biName : Bi → String
  | .len => "len" | .int => "int" | .list => "list" | .tuple => "tuple" | .all => "all" | .any => "any" | .sum => "sum" | .min1 => "min" | .max1 => "max" | .min2 => "min" | .max2 => "max" | .abs => "abs" | .sorted => "sorted" | .str => "str"
def biIsTy : Bi → Bool
  | .int => true | .list => true | .tuple => true | .str => true | _ => false
def biVal (b : Bi) : Value := if biIsTy b then .type (biName b) else .builtin (biName b)
def rBi (K : PySem.W.Frag) : Bi → List V → Hp → VK → Prop
  | .len => fun xs H Q => (∃ p ys, xs = [V.ref p] ∧ (SqL K H p ys ∨ SqT K H p ys) ∧ Q (.int ys.length) H) ∨ ∃ z : Str, xs = [V.str z] ∧ z.length ≤ sizeLine ∧ Q (.int z.length) H
  | .str => fun xs H Q => ∃ i : Int, xs = [.int i] ∧ i.natAbs.log2 < 1920 ∧ Q (.str (toString i)) H
  | .int => fun xs H Q => ((∃ i, xs = [.int i] ∧ Q (.int i) H) ∨ ∃ k, xs = [.bl k] ∧ Q (.int (if k then 1 else 0)) H) ∨ ∃ a n, xs = [.str a] ∧ PySem.intText? a = some n ∧ a.length ≤ 640 ∧ Q (.int n) H
  | .list => fun xs H Q => ∃ p ys, xs = [.ref p] ∧ (SqL K H p ys ∨ SqT K H p ys) ∧ ∀ l, H l = none → Q (.ref l) (upd H l (.lst ys))
  | .tuple => fun xs H Q => ∃ p ys, xs = [.ref p] ∧ ((SqL K H p ys ∧ ∀ (l : Addr) (o : Obj), o.dict = none → H l = none → Q (.ref l) (upd H l (.frz o (.tup ys)))) ∨ (SqT K H p ys ∧ Q (.ref p) H))
  | .all => rAll K
  | .any => rAny K
  | .sum => rSum K
  | .min1 => rMin K
  | .max1 => rMax K
  | .min2 => fun xs H Q => ∃ i j, xs = [.int i, .int j] ∧ Q (.int (if j < i then j else i)) H
  | .max2 => fun xs H Q => ∃ i j, xs = [.int i, .int j] ∧ Q (.int (if j > i then j else i)) H
  | .abs => fun xs H Q => ∃ i, xs = [.int i] ∧ Q (.int (if i < 0 then -i else i)) H
  | .sorted => fun xs H Q => rSortedIT K xs H Q ∨ rSortedTI K xs H Q
theorem boot_bi (b : Bi) : bootBuiltins (biName b : String) = some (biVal b) := by
  cases b <;> decide +kernel
section
variable {X : Cx}
theorem CallR.or2 {f : Value} {r r' : List V → Hp → VK → Prop} (h : CallR X f r) (h' : CallR X f r') : CallR X f (fun xs H Q => r xs H Q ∨ r' xs H Q) := by
  intro pins s σ H xs us Q I hr q
  rcases q with q | q
  · exact h pins s σ H xs us Q I hr q
  · exact h' pins s σ H xs us Q I hr q
theorem cr_bi (hc : X.calm = true) (b : Bi) : CallR X (biVal b) (rBi X.K b) := by
  cases b with
  | len => exact CallR.or2 call_len_seq call_len_str
  | int => exact CallR.or2 call_int1 call_int_str
  | str => exact call_str_int
  | list => exact call_list_of
  | tuple => exact call_tupleF
  | all => exact cr_all hc
  | any => exact cr_any hc
  | sum => exact cr_sum hc
  | min1 => exact cr_min hc
  | max1 => exact cr_max hc
  | min2 => exact call_min2 hc
  | max2 => exact call_max2 hc
  | abs => exact call_abs
  | sorted =>
    intro pins s σ H xs us Q I r h
    rcases h with h | h
    · exact cr_sortedIT pins s σ H xs us Q I r h
    · exact cr_sortedTI pins s σ H xs us Q I r h
variable {g : G} {c : C} {σ : L2.St} {M : Addr → Prop} {H : Hp} {e : Fm}
theorem TopVs.one {d : D} {vs : List V} (h : TopVs g.K M H [d] vs) : ∃ v, vs = [v] ∧ TopV g.K M H d v := by
  obtain ⟨v, r, e, t, n⟩ := h
  have : r = [] := n
  exact ⟨v, by rw [e, this], t⟩
theorem TopVs.two {d1 d2 : D} {vs : List V} (h : TopVs g.K M H [d1, d2] vs) : ∃ v w, vs = [v, w] ∧ TopV g.K M H d1 v ∧ TopV g.K M H d2 w := by
  obtain ⟨v, r, e, t, u⟩ := h
  obtain ⟨w, e2, u⟩ := TopVs.one (g := g) u
  exact ⟨v, w, by rw [e, e2], t, u⟩
theorem bi_ok {b : Bi} {ds : List D} {vs : List V} {o : Opd} {Q : VK} (s : Sr g.K c M σ H e) (tt : TopVs g.K M H ds vs) (ho : biD b ds = some o) (fin : Fin g c M σ H e o Q) : rBi g.K b vs H Q := by
  unfold biD at ho
  split at ho
  · rename_i d
    obtain ⟨v, rfl, t⟩ := TopVs.one tt
    cases d <;> first | (cases ho; done) | skip
    · rename_i zs
      simp only [lenD] at ho
      split at ho
      · rename_i hz
        cases ho
        exact .inr ⟨zs, by rw [t.str], hz, fin.int s⟩
      · cases ho
    · cases ho
      obtain ⟨a, vs, rfl, h1, z, r⟩ := t.list
      refine .inl ⟨a, vs, rfl, .inl (.inl h1), ?_⟩
      rw [← r.length]
      exact fin.int s
    · cases ho
      obtain ⟨a, vs, rfl, h1, z, r⟩ := t.tuple
      refine .inl ⟨a, vs, rfl, .inr h1, ?_⟩
      rw [← r.length]
      exact fin.int s
  · cases ho
    obtain ⟨v, rfl, t⟩ := TopVs.one tt
    exact .inl (.inl ⟨_, by rw [t.int], fin.int s⟩)
  · cases ho
    obtain ⟨v, rfl, t⟩ := TopVs.one tt
    exact .inl (.inr ⟨_, by rw [t.bool], fin.int s⟩)
  · obtain ⟨v, rfl, t⟩ := TopVs.one tt
    split at ho
    · rename_i hz
      cases hn : PySem.intText? _ with
      | none => rw [hn] at ho; cases ho
      | some n =>
        rw [hn] at ho
        cases ho
        exact .inr ⟨_, n, by rw [t.str], hn, hz, fin.int s⟩
    · cases ho
  · obtain ⟨v, rfl, t⟩ := TopVs.one tt
    split at ho
    · rename_i hz
      cases ho
      exact ⟨_, by rw [t.int], hz, fin.str s⟩
    · cases ho
  · cases hx : items _ with
    | none => rw [hx] at ho; cases ho
    | some xs =>
      rw [hx] at ho
      cases ho
      obtain ⟨v, rfl, t⟩ := TopVs.one tt
      obtain ⟨a, vs, rfl, h1, z, r⟩ := t.items hx
      exact ⟨a, vs, rfl, h1, fin.list s z r⟩
  · rename_i d
    obtain ⟨v, rfl, t⟩ := TopVs.one tt
    cases d <;> first | (cases ho; done) | skip
    · cases ho
      obtain ⟨a, vs, rfl, h1, z, r⟩ := t.list
      exact ⟨a, vs, rfl, .inl ⟨.inl h1, fin.tup s z r⟩⟩
    · cases ho
      have t' := t
      obtain ⟨a, vs, rfl, h1, z, r⟩ := t.tuple
      refine ⟨a, vs, rfl, .inr ⟨h1, fin.val s ?_⟩⟩
      rcases t' with t' | ⟨_, _, t'⟩
      · exact t'
      · exact t'.elim
  · cases hx : List.mapM boolD _ with
    | none => rw [hx] at ho; cases ho
    | some bs =>
      rw [hx] at ho
      cases ho
      obtain ⟨v, rfl, t⟩ := TopVs.one tt
      obtain ⟨a, vs, rfl, h1, z, r⟩ := t.list
      refine ⟨a, bs, rfl, ?_, fin.bool s⟩
      rw [← rels_bools r hx]
      exact .inl h1
  · cases hx : List.mapM boolD _ with
    | none => rw [hx] at ho; cases ho
    | some bs =>
      rw [hx] at ho
      cases ho
      obtain ⟨v, rfl, t⟩ := TopVs.one tt
      obtain ⟨a, vs, rfl, h1, z, r⟩ := t.list
      refine ⟨a, bs, rfl, ?_, fin.bool s⟩
      rw [← rels_bools r hx]
      exact .inl h1
  · cases hx : List.mapM intD _ with
    | none => rw [hx] at ho; cases ho
    | some ns =>
      rw [hx] at ho
      cases ho
      obtain ⟨v, rfl, t⟩ := TopVs.one tt
      obtain ⟨a, vs, rfl, h1, z, r⟩ := t.list
      refine ⟨a, ns, rfl, ?_, fin.int s⟩
      rw [← (rels_ints r hx).1]
      exact .inl h1
  · cases hx : List.mapM intD _ with
    | none => rw [hx] at ho; cases ho
    | some ns =>
      rw [hx] at ho
      obtain ⟨v, rfl, t⟩ := TopVs.one tt
      obtain ⟨a, vs, rfl, h1, z, r⟩ := t.list
      cases ns with
      | nil => cases ho
      | cons n ns =>
        cases ho
        have sp := minI_spec ns n
        refine ⟨a, n :: ns, rfl, ?_, by simp, fun m hm hle => ?_⟩
        · rw [← (rels_ints r hx).1]
          exact .inl h1
        · rw [Int.le_antisymm (hle _ sp.1) (sp.2 m hm)]
          exact fin.int s
  · cases hx : List.mapM intD _ with
    | none => rw [hx] at ho; cases ho
    | some ns =>
      rw [hx] at ho
      obtain ⟨v, rfl, t⟩ := TopVs.one tt
      obtain ⟨a, vs, rfl, h1, z, r⟩ := t.list
      cases ns with
      | nil => cases ho
      | cons n ns =>
        cases ho
        have sp := maxI_spec ns n
        refine ⟨a, n :: ns, rfl, ?_, by simp, fun m hm hle => ?_⟩
        · rw [← (rels_ints r hx).1]
          exact .inl h1
        · rw [Int.le_antisymm (sp.2 m hm) (hle _ sp.1)]
          exact fin.int s
  · cases ho
    obtain ⟨v, w, rfl, t, u⟩ := TopVs.two tt
    exact ⟨_, _, by rw [t.int, u.int], fin.int s⟩
  · cases ho
    obtain ⟨v, w, rfl, t, u⟩ := TopVs.two tt
    exact ⟨_, _, by rw [t.int, u.int], fin.int s⟩
  · cases ho
    obtain ⟨v, rfl, t⟩ := TopVs.one tt
    exact ⟨_, by rw [t.int], fin.int s⟩
  · cases hx : items _ with
    | none => rw [hx] at ho; cases ho
    | some xs =>
      rw [hx] at ho
      simp only [Option.bind_some] at ho
      obtain ⟨v, rfl, t⟩ := TopVs.one tt
      obtain ⟨a, vs, rfl, h1, z, r⟩ := t.items hx
      cases hy : List.mapM intD xs with
      | none =>
        rw [hy] at ho
        simp only at ho
        cases hk : List.mapM tupI xs with
        | none => rw [hk] at ho; cases ho
        | some ks =>
          rw [hk] at ho
          cases ho
          obtain ⟨ps, e1, e2, e3, e4⟩ := rels_tups r hk
          refine .inr ⟨a, ps, rfl, by rw [e1]; exact h1, fun p hp => (e3 p hp).2, fun qs p hp hw hn => ?_⟩
          have e5 : qs.map Prod.snd = sortL ks := by
            refine sortL_one ?_ (List.pairwise_map.mpr hw) (sortL_sorted ks)
            have := hp.map Prod.snd
            rw [e2] at this
            exact this.trans (sortL_perm ks).symm
          have fin : Fin g c M σ H e (.fresh (.list ((sortL ks).map tupOf))) Q := fin
          rw [← e5] at fin
          refine fin.list s ?_ ?_ p hn
          · rw [List.length_map, List.length_map, hp.length_eq, ← List.length_map (f := Prod.fst), e1, ← r.length]
            exact z
          · rw [List.map_map]
            exact rels_pairs fun q hq => (e3 q (hp.mem_iff.mp hq)).1
      | some ns =>
        rw [hy] at ho
        cases ho
        obtain ⟨e1, e2⟩ := rels_ints r hy
        refine .inl ⟨a, ns, rfl, by rw [← e1]; exact h1, fun ns' p hp hs hn => ?_⟩
        have : ns' = sortI ns := sorted_one (hp.trans (sortI_perm ns).symm) hs (sortI_sorted ns)
        rw [this]
        refine fin.list s ?_ (rels_of_ints _) p hn
        rw [List.length_map, (sortI_perm ns).length_eq, ← List.length_map (f := PyData.int), ← e2]
        exact z
  · cases ho
end
end Ev

set_option Elab.async false
set_option linter.all false
set_option maxHeartbeats 4000000
set_option maxRecDepth 100000
/-! the check that a piece of the text is the evaluator's; expressions -/
namespace Ev
open PySem L2 PySem.Spec

/-! ### names -/
def visB (sc : Scope) (x : Str) : Bool :=
  match sc.names.lookup x with
  | some .local => true | some .cell => true | some .free => true | _ => false
def locB (sc : Scope) (x : Str) : Bool :=
  match sc.names.lookup x with
  | some .local => true | some .cell => true | _ => false
def glB (sc : Scope) (x : Str) : Bool :=
  match sc.names.lookup x with
  | some .globalImplicit => true | _ => false
def nmB (x : Str) : Bool := !(x == ("__debug__" : Str)) && !(x == ("__classdict__" : Str)) && !decide (x = ("__name__" : Str))
theorem visB_ok {sc : Scope} {x : Str} (h : visB sc x = true) : Vis sc x := by
  unfold visB at h
  unfold Vis
  split at h <;> first | (rename_i q; simp [q]; done) | cases h
theorem locB_ok {sc : Scope} {x : Str} (h : locB sc x = true) : L2.Loc sc x := by
  unfold locB at h
  unfold L2.Loc
  split at h <;> first | (rename_i q; simp [q]; done) | cases h
theorem glB_ok {sc : Scope} {x : Str} (h : glB sc x = true) : sc.names.lookup x = some .globalImplicit := by
  unfold glB at h
  split at h <;> first | assumption | cases h
theorem nmB_ok {x : Str} (h : nmB x = true) : (x == ("__debug__" : Str)) = false ∧ (x == ("__classdict__" : Str)) = false ∧ x ≠ ("__name__" : Str) := by
  unfold nmB at h
  simp only [Bool.and_eq_true, Bool.not_eq_true', decide_eq_false_iff_not] at h
  exact ⟨h.1.1, h.1.2, h.2⟩

/-! ### lists of expressions -/
section
variable {X : Cx} {g : G}
/-- taken data, one behind the other -/
def tTs (g : G) (p : Ev.M (List D)) : TA := fun σ H Q => ∃ c M e, Sr g.K c M σ H e ∧
  Ok g c σ M H e (p e) fun ds M' H' e' => ∀ vs, Rels g.K M' H' ds vs → Q vs H'
def ORs (K : PySem.W.Frag) (c : C) (M : Addr → Prop) (σ : L2.St) (H : Hp) (e : Fm) : List Opd → List V → Prop
  | [], vs => vs = []
  | o :: os, vs => ∃ v r, vs = v :: r ∧ OR K c M σ H e o v ∧ ORs K c M σ H e os r
def tAs (g : G) (p : Ev.M (List Opd)) : TA := fun σ H Q => ∃ c M e, Sr g.K c M σ H e ∧
  Ok g c σ M H e (p e) fun os M' H' e' => ∀ vs, ORs g.K c M' σ H' e' os vs → (∀ o ∈ os, ∀ d, o ≠ Opd.fresh d) → Q vs H'
/-- an operand that is no new list any more -/
theorem OR.peek {K : PySem.W.Frag} {c : C} {M M' : Addr → Prop} {σ : L2.St} {H H' : Hp} {e e' : Fm} (s0 : Sr K c M σ H e) (s : Sr K c M' σ H' e') (x : Ext σ M H e M' H' e') {o : Opd} {v : V}
    (h : OR K c M' σ H' e' o v) (f : Fr H o v) : ∃ M2, Sr K c M2 σ H' e' ∧ Ext σ M H e M2 H' e' ∧ OR K c M2 σ H' e' (Ev.peek o) v := by
  cases o with
  | val d => exact ⟨M', s, x, h⟩
  | slot i => exact ⟨M', s, x, h⟩
  | fresh d =>
    obtain ⟨M2, h1, h2, _, h4⟩ := s0.take s x h f (d := d) (e2 := e') rfl
    exact ⟨M2, h1, h2, h4⟩
variable {σ : L2.St} {H : Hp}
theorem ts_nil {Q : List V → Hp → Prop} (h : tTs g (Ev.M.pure []) σ H Q) : tNil σ H Q := by
  obtain ⟨c, M, e, s, h⟩ := h
  exact h M H s .refl .refl [] Rels.nil
theorem take_exc {o : Opd} {e e' : Fm} {cn : Str} {d : D} : take o e ≠ .exc cn d e' := by
  intro ht
  cases o <;> simp only [take] at ht
  · cases ht
  · revert ht
    split <;> (intro ht; cases ht)
  · cases ht
theorem Ok.tk {c : C} {M : Addr → Prop} {e : Fm} {p : Ev.M Opd} {P : D → (Addr → Prop) → Hp → Fm → Prop} (s : Sr g.K c M σ H e) (h : Ok g c σ M H e (Ev.tk p e) P) :
    Ok g c σ M H e (p e) fun o M1 H1 e1 => ∀ v, OR g.K c M1 σ H1 e1 o v → Fr H o v → ∃ d M2 e2, Sr g.K c M2 σ H1 e2 ∧ Rel g.K M2 H1 d v ∧ Ext σ M H e M2 H1 e2 ∧ Keeps e e2 ∧ P d M2 H1 e2 := by
  unfold Ev.tk Ev.M.bind at h
  cases hp : p e with
  | ok o e1 =>
    rw [hp] at h
    intro M1 H1 s1 x1 k1 v r f
    simp only at h
    cases ht : take o e1 with
    | stuck => rw [ht] at h; exact h.elim
    | exc cn d e2 => exact absurd ht take_exc
    | ok d e2 =>
      rw [ht] at h
      obtain ⟨M2, s2, x2, k2, rd⟩ := s.take s1 x1 r f ht
      exact ⟨d, M2, e2, s2, rd, x2, k1.trans k2, h M2 H1 s2 x2 (k1.trans k2)⟩
  | exc cn d e1 => rw [hp] at h; exact h
  | stuck => rw [hp] at h; exact h
theorem ts_cons {p : Ev.M Opd} {q : Ev.M (List D)} {Q : List V → Hp → Prop} (h : tTs g ((tk p).bind fun d => q.bind fun ds => Ev.M.pure (d :: ds)) σ H Q) : tCons (tE g p) (tTs g q) σ H Q := by
  obtain ⟨c, M, e, s, h⟩ := h
  refine ⟨c, M, e, s, (Ok.tk s (Ok.bind h)).imp fun o1 M1 H1 e1 s1 x1 k1 h1 v1 r1 f1 => ?_⟩
  obtain ⟨d, M2, e2, s2, rd, x2, k2, h2⟩ := h1 v1 r1 f1
  refine ⟨c, M2, e2, s2, (Ok.bind h2).imp fun ds M3 H3 e3 s3 x3 k3 h3 vs rs => ?_⟩
  exact h3 M3 H3 s3 .refl .refl (v1 :: vs) (Rels.cons (s2.rel x3 rd) rs)
theorem as_nil {Q : List V → Hp → Prop} (h : tAs g (Ev.M.pure []) σ H Q) : tNil σ H Q := by
  obtain ⟨c, M, e, s, h⟩ := h
  exact h M H s .refl .refl [] rfl (fun o q => nomatch q)
theorem peek_ne {o : Opd} {d : D} : Ev.peek o ≠ Opd.fresh d := by
  cases o <;> simp [Ev.peek]
/-- behind an operand that is looked at, as a start of its own -/
theorem Ok.pk {α : Type} {c : C} {M : Addr → Prop} {e : Fm} {p : Ev.M Opd} {f : Opd → Ev.M α} {P : α → (Addr → Prop) → Hp → Fm → Prop} (s : Sr g.K c M σ H e) (h : Ok g c σ M H e (Ev.M.bind p f e) P) :
    Ok g c σ M H e (p e) fun o M1 H1 e1 => ∀ v, OR g.K c M1 σ H1 e1 o v → Fr H o v → ∃ M2, Sr g.K c M2 σ H1 e1 ∧ OR g.K c M2 σ H1 e1 (Ev.peek o) v ∧ Ext σ M H e M2 H1 e1 ∧ Keeps e e1 ∧ Ok g c σ M2 H1 e1 (f o e1) P := by
  unfold Ev.M.bind at h
  cases hp : p e with
  | ok o e1 =>
    rw [hp] at h
    intro M1 H1 s1 x1 k1 v r fr
    obtain ⟨M2, s2, x2, r2⟩ := OR.peek s s1 x1 r fr
    refine ⟨M2, s2, r2, x2, k1, ?_⟩
    simp only at h
    cases hf : f o e1 with
    | ok b e2 =>
      rw [hf] at h
      exact fun M3 H3 s3 x3 k3 => h M3 H3 s3 (x2.trans x3) (k1.trans k3)
    | exc cn d e2 =>
      rw [hf] at h
      exact fun M3 H3 cls dd s3 x3 k3 => h M3 H3 cls dd s3 (x2.trans x3) (k1.trans k3)
    | stuck => rw [hf] at h; exact h
  | exc cn d e1 => rw [hp] at h; exact h
  | stuck => rw [hp] at h; exact h
theorem as_cons {p : Ev.M Opd} {q : Ev.M (List Opd)} {Q : List V → Hp → Prop} (h : tAs g (p.bind fun x => q.bind fun os => Ev.M.pure (Ev.peek x :: os)) σ H Q) : tCons (tE g p) (tAs g q) σ H Q := by
  obtain ⟨c, M, e, s, h⟩ := h
  refine ⟨c, M, e, s, (Ok.pk s h).imp fun o1 M1 H1 e1 s1 x1 k1 h1 v1 r1 f1 => ?_⟩
  obtain ⟨M2, s2, r2, x2, k2, h2⟩ := h1 v1 r1 f1
  refine ⟨c, M2, e1, s2, (Ok.bind h2).imp fun os M3 H3 e3 s3 x3 k3 h3 vs rs nf => ?_⟩
  refine h3 M3 H3 s3 .refl .refl (v1 :: vs) ⟨v1, vs, rfl, s2.opd x3 k3 r2, rs⟩ fun o ho d => ?_
  rcases List.mem_cons.mp ho with rfl | ho
  · exact peek_ne
  · exact nf o ho d
/-- the data of operands -/
theorem ORs.ders {α : Type} {c : C} {M : Addr → Prop} {e : Fm} (s : Sr g.K c M σ H e) : ∀ {os : List Opd} {vs : List V} {f : List D → Ev.M α} {P : α → (Addr → Prop) → Hp → Fm → Prop}, ORs g.K c M σ H e os vs → Ok g c σ M H e (Ev.M.bind (derAll os) f e) P →
    ∃ ds, TopVs g.K M H ds vs ∧ Ok g c σ M H e (f ds e) P
  | [], vs, f, P, r, h => ⟨[], r, h⟩
  | o :: os, vs, f, P, r, h => by
    obtain ⟨v, rs, rfl, q, t⟩ := r
    have ho : ∀ d e', Ev.der o e = .ok d e' → e' = e ∧ TopV g.K M H d v := fun d e' hd => s.der q hd
    unfold derAll Ev.M.bind at h
    cases hd : Ev.der o e with
    | stuck =>
      simp only [Ev.M.bind, hd] at h
      exact h.elim
    | exc cn d e1 =>
      exfalso
      cases o <;> simp only [Ev.der] at hd
      · cases hd
      · revert hd
        split <;> (intro hd; cases hd)
      · cases hd
    | ok d e1 =>
      obtain ⟨rfl, td⟩ := ho d e1 hd
      simp only [Ev.M.bind, hd] at h
      obtain ⟨ds, h1, h2⟩ := ORs.ders (f := fun ds => f (d :: ds)) (P := P) s t (by
        unfold Ev.M.bind
        cases hr : derAll os e1 with
        | ok ds e2 =>
          rw [hr] at h
          exact h
        | exc cn d' e2 =>
          rw [hr] at h
          exact h
        | stuck =>
          rw [hr] at h
          exact h)
      exact ⟨d :: ds, ⟨v, rs, rfl, td, h1⟩, h2⟩
end

/-! ### tests -/
section
variable {X : Cx} {g : G} {σ : L2.St} {H : Hp}
theorem tst_ok {p : Ev.M Opd} {Q : Bool → Hp → Prop} (h : tT g (tst p) σ H Q) : tE g p σ H fun x H' => ∃ k, TruV g.K x H' k ∧ Q k H' := by
  obtain ⟨c, M, e, s, h⟩ := h
  refine ⟨c, M, e, s, (Ok.bind (Ok.bind h)).imp fun o1 M1 H1 e1 s1 x1 k1 h1 v1 r1 f1 => ?_⟩
  obtain ⟨d, t, h2⟩ := Ok.derL s1 r1 h1
  obtain ⟨b, hb, h3⟩ := Ok.opt h2
  exact ⟨b, truth_ok t hb, h3 M1 H1 s1 .refl⟩
theorem pt_def {ex : Expr} {p : Ev.M Opd} (h : PE X ex (tE g p)) (hg : g.K = X.K) (he : ∀ whole, isTrue ex X.env whole = (do let v ← whole; standAt ex.pos; holding [v] (truthy v))) : PT X ex (tT g (tst p)) := by
  have q := pt_truth h he
  exact ⟨fun pins s σ H Q I hw => q.run pins s σ H Q I (by rw [← hg]; exact tst_ok hw)⟩
theorem PE.mono {ex : Expr} {t t' : TE} (h : PE X ex t) (f : ∀ σ H Q, t' σ H Q → t σ H Q) : PE X ex t' := ⟨fun pins s σ H Q I q => h.run pins s σ H Q I (f σ H Q q)⟩
theorem PT.mono {ex : Expr} {t t' : TT} (h : PT X ex t) (f : ∀ σ H Q, t' σ H Q → t σ H Q) : PT X ex t' := ⟨fun pins s σ H Q I q => h.run pins s σ H Q I (f σ H Q q)⟩
theorem PW.mono {ex : Expr} {t t' : TT} (h : PW X ex t) (f : ∀ σ H Q, t' σ H Q → t σ H Q) : PW X ex t' := ⟨fun wh pins s σ H Q I q => h.run wh pins s σ H Q I (f σ H Q q)⟩
theorem PA.mono {ex : List Expr} {t t' : TA} (h : PA X ex t) (f : ∀ σ H Q, t' σ H Q → t σ H Q) : PA X ex t' := ⟨fun pos pins s σ H Q I q => h.run pos pins s σ H Q I (f σ H Q q)⟩
theorem PK.mono {ex : List Keyword} {t t' : TA} (h : PK X ex t) (f : ∀ σ H Q, t' σ H Q → t σ H Q) : PK X ex t' := ⟨fun pos pins s σ H Q I q => h.run pos pins s σ H Q I (f σ H Q q)⟩
/-- an end that tells a bool -/
def IsB (p : Ev.M Opd) : Prop := ∀ e o e', p e = .ok o e' → ∃ b, o = Opd.val (.bool b)
theorem tst_bool {p : Ev.M Opd} (hb : IsB p) {Q : Bool → Hp → Prop} (h : tT g (tst p) σ H Q) : tE g p σ H fun x H' => ∃ k, x = .bl k ∧ Q k H' := by
  obtain ⟨c, M, e, s, h⟩ := tst_ok h
  refine ⟨c, M, e, s, ?_⟩
  cases hp : p e with
  | ok o e' =>
    rw [hp] at h
    intro M' H' s' x' k' v r f
    obtain ⟨b, rfl⟩ := hb e o e' hp
    obtain ⟨k, t, q⟩ := h M' H' s' x' k' v r f
    have hv : v = .bl b := by simpa only [OR, Rel] using r
    subst hv
    have : k = b := t
    subst this
    exact ⟨k, rfl, q⟩
  | exc cn d e' => rw [hp] at h; exact h
  | stuck => rw [hp] at h; exact h
theorem optB_ok {x : Option Bool} {e e' : Fm} {o : Opd} (h : Ev.M.opt (x.map fun b => Opd.val (.bool b)) e = .ok o e') : ∃ b, o = Opd.val (.bool b) := by
  cases x with
  | none => cases h
  | some b => cases h; exact ⟨b, rfl⟩
theorem isB_two {p q : Ev.M Opd} {f : D → D → Option Bool} : IsB (two p q fun a b => (f a b).map fun b => .val (.bool b)) := by
  intro e o e' h
  unfold two Ev.M.bind at h
  simp only at h
  split at h
  · split at h
    · split at h
      · split at h
        · exact optB_ok h
        · cases h
        · cases h
      · cases h
      · cases h
    · cases h
    · cases h
  · cases h
  · cases h
theorem tst_val {p : Ev.M Bool} {f : Bool → Bool} : tst (p.bind fun b => Ev.M.pure (Opd.val (.bool (f b)))) = p.bind fun b => Ev.M.pure (f b) := by
  funext e
  unfold tst Ev.pk Ev.M.bind
  cases hp : p e <;> rfl
theorem not_ok {p : Ev.M Bool} {Q : VK} (h : tE g (p.bind fun b => Ev.M.pure (.val (.bool (!b)))) σ H Q) : tT g p σ H fun b H1 => Q (.bl (!b)) H1 := by
  obtain ⟨c, M, e, s, h⟩ := h
  refine ⟨c, M, e, s, (Ok.bind h).imp fun b M1 H1 e1 s1 x1 k1 h1 => ?_⟩
  exact h1 M1 H1 s1 .refl .refl (.bl (!b)) (by simp only [OR, Rel]) trivial
theorem notT_ok {p : Ev.M Bool} {Q : Bool → Hp → Prop} (h : tT g (p.bind fun b => Ev.M.pure (!b)) σ H Q) : tT g p σ H fun b H1 => Q (!b) H1 := by
  obtain ⟨c, M, e, s, h⟩ := h
  exact ⟨c, M, e, s, (Ok.bind h).imp fun b M1 H1 e1 s1 x1 k1 h1 => h1 M1 H1 s1 .refl .refl⟩
theorem notV_ok {p : Ev.M Opd} {Q : VK} (h : tE g ((tst p).bind fun b => Ev.M.pure (.val (.bool (!b)))) σ H Q) : tNotT g.K (tE g p) σ H Q := tst_ok (not_ok h)
/-- and, or, by value -/
theorem bop_ok {k : Bool} {p q : Ev.M Opd} {Q : VK} (h : tE g (p.bind fun x => (Ev.der (Ev.peek x)).bind fun dx => (Ev.M.opt (truth dx)).bind fun t => if t = k then q else Ev.M.pure x) σ H Q) :
    tE g p σ H fun x H1 => ∃ t, TruV g.K x H1 t ∧ if t = k then tE g q σ H1 Q else Q x H1 := by
  obtain ⟨c, M, e, s, h⟩ := h
  refine ⟨c, M, e, s, (Ok.bind h).imp fun o1 M1 H1 e1 s1 x1 k1 h1 v1 r1 f1 => ?_⟩
  obtain ⟨d, t, h2⟩ := Ok.der s1 r1 h1
  obtain ⟨b, hb, h3⟩ := Ok.optB h2
  refine ⟨b, truth_ok t hb, ?_⟩
  by_cases hk : b = k
  · rw [if_pos hk] at h3 ⊢
    exact ⟨c, M1, e1, s1, h3.imp fun o M2 H2 e2 s2 x2 k2 h4 v r f => h4 v r (f.old x1)⟩
  · rw [if_neg hk] at h3 ⊢
    exact h3 M1 H1 s1 .refl .refl v1 r1 f1
theorem bopT_ok {k : Bool} {p q : Ev.M Opd} {Q : Bool → Hp → Prop} (h : tT g (tst (p.bind fun x => (Ev.der (Ev.peek x)).bind fun dx => (Ev.M.opt (truth dx)).bind fun t => if t = k then q else Ev.M.pure x)) σ H Q) :
    tT g (tst p) σ H fun t H1 => if t = k then tT g (tst q) σ H1 Q else Q t H1 := by
  have e0 : tst (p.bind fun x => (Ev.der (Ev.peek x)).bind fun dx => (Ev.M.opt (truth dx)).bind fun t => if t = k then q else Ev.M.pure x) = (tst p).bind fun t => if t = k then tst q else Ev.M.pure t := by
    funext e
    unfold tst Ev.pk Ev.M.bind
    cases hp : p e with
    | stuck => rfl
    | exc cn d e1 => rfl
    | ok o e1 =>
      simp only
      cases hd : Ev.der (Ev.peek o) e1 with
      | stuck => rfl
      | exc cn d e2 => rfl
      | ok d e2 =>
        have ee : e2 = e1 := by
          cases o <;> simp only [Ev.peek, Ev.der] at hd
          · cases hd; rfl
          · revert hd
            split <;> (intro hd; cases hd) <;> rfl
          · cases hd; rfl
        subst ee
        simp only
        cases ht : truth d with
        | none => rfl
        | some b =>
          simp only [Ev.M.opt, Ev.M.pure]
          by_cases hk : b = k
          · simp only [hk, if_true]
          · simp only [hk, if_false, Ev.M.pure, hd, ht]
  rw [e0] at h
  obtain ⟨c, M, e, s, h⟩ := h
  refine ⟨c, M, e, s, (Ok.bind h).imp fun t M1 H1 e1 s1 x1 k1 h1 => ?_⟩
  by_cases hk : t = k
  · rw [if_pos hk] at h1 ⊢
    exact ⟨c, M1, e1, s1, h1⟩
  · rw [if_neg hk] at h1 ⊢
    exact h1 M1 H1 s1 .refl .refl
/-- a if t else b, as a test -/
theorem pt_ite {a b t : Expr} {ta tb tc : TT} {pos : Pos} (hc : PT X t tc) (ha : PT X a ta) (hb : PT X b tb) : PT X (.IfExp t a b pos) (fun σ H Q => tc σ H fun k H1 => if k = true then ta σ H1 Q else tb σ H1 Q) := by
  refine ⟨fun pins s σ H Q I h => ?_⟩
  show wpAny _ _ (do if ← isTrue t X.env (eval t X.env) then isTrue a X.env (eval a X.env) else isTrue b X.env (eval b X.env)) _ _ s
  refine wpAny_bind (thn (hc.run pins s σ H _ I h) fun d s1 ⟨H1, I1, q1⟩ => ?_)
  cases d with
  | true => exact ha.run pins s1 σ H1 Q I1 q1
  | false => exact hb.run pins s1 σ H1 Q I1 q1
theorem iteT_ok {q : Ev.M Bool} {a b : Ev.M Opd} {Q : Bool → Hp → Prop} (h : tT g (tst (q.bind fun t => if t then a else b)) σ H Q) : tT g q σ H fun k H1 => if k = true then tT g (tst a) σ H1 Q else tT g (tst b) σ H1 Q := by
  have e0 : tst (q.bind fun t => if t then a else b) = q.bind fun t => if t then tst a else tst b := by
    funext e
    unfold tst Ev.pk Ev.M.bind
    cases hp : q e with
    | stuck => rfl
    | exc cn d e1 => rfl
    | ok t e1 => cases t <;> rfl
  rw [e0] at h
  obtain ⟨c, M, e, s, h⟩ := h
  refine ⟨c, M, e, s, (Ok.bind h).imp fun t M1 H1 e1 s1 x1 k1 h1 => ?_⟩
  cases t with
  | true => rw [if_pos rfl] at h1 ⊢; exact ⟨c, M1, e1, s1, h1⟩
  | false => rw [if_neg Bool.false_ne_true] at h1 ⊢; exact ⟨c, M1, e1, s1, h1⟩
theorem ite_ok {q : Ev.M Bool} {a b : Ev.M Opd} {Q : VK} (h : tE g (q.bind fun t => if t then a else b) σ H Q) : tIf (tT g q) (tE g a) (tE g b) σ H Q := by
  obtain ⟨c, M, e, s, h⟩ := h
  refine ⟨c, M, e, s, (Ok.bind h).imp fun t M1 H1 e1 s1 x1 k1 h1 => ?_⟩
  cases t with
  | true =>
    rw [if_pos rfl] at h1 ⊢
    exact ⟨c, M1, e1, s1, h1.imp fun o M2 H2 e2 s2 x2 k2 h2 v r f => h2 v r (f.old x1)⟩
  | false =>
    rw [if_neg Bool.false_ne_true] at h1 ⊢
    exact ⟨c, M1, e1, s1, h1.imp fun o M2 H2 e2 s2 x2 k2 h2 v r f => h2 v r (f.old x1)⟩
end
end Ev

set_option Elab.async false
set_option linter.all false
set_option maxHeartbeats 4000000
set_option maxRecDepth 100000
/-! calls of the text's own defs -/
namespace Ev
open PySem L2 PySem.Spec

def lentAs : List Bool → List V → List Addr
  | true :: ls, .ref a :: vs => a :: lentAs ls vs
  | _ :: ls, _ :: vs => lentAs ls vs
  | _, _ => []
section
variable (K : PySem.W.Frag) (M : Addr → Prop) (H : Hp)
def ArgR : List Bool → List D → List V → Prop
  | [], [], [] => True
  | l :: ls, d :: ds, v :: vs => (if l = true then ∃ a, v = .ref a ∧ M a ∧ Top K M H d a else Rel K M H d v) ∧ ArgR ls ds vs
  | _, _, _ => False
def LentR : List Addr → List D → Prop
  | [], [] => True
  | a :: as, d :: ls => M a ∧ Top K M H d a ∧ LentR as ls
  | _, _ => False
end
def OutR (K : PySem.W.Frag) (H : Hp) (M' : Addr → Prop) (H' : Hp) (fr : Bool) (d : D) (v : V) : Prop :=
  if fr = true then ∃ a, v = .ref a ∧ M' a ∧ Top K M' H' d a ∧ H a = none else Rel K M' H' d v
structure Aft (M0 : Addr → Prop) (H : Hp) (as : List Addr) (M' : Addr → Prop) (H' : Hp) : Prop where
  same : ∀ b x, H b = some x → b ∉ as → H' b = some x
  up : ∀ b, M0 b → M' b
  dn : ∀ b, M' b → M0 b ∨ H b = none
  mh : ∀ b, M' b → H' b ≠ none
  kp : ∀ b, H b ≠ none → H' b ≠ none
/-- a def's promise: it hands back what the evaluator says -/
def spEv (K : PySem.W.Frag) (mg : Str → Option Value) (cf : CF) (i : Nat) (fn : Fn) : Sp := fun vs H Q E =>
  ∃ (M0 : Addr → Prop) (ds : List D), (∀ b, M0 b → H b ≠ none) ∧ vs.length = fn.ps.length ∧ ArgR K M0 H fn.lent ds vs ∧ (lentAs fn.lent vs).Nodup ∧
    match cf i ds with
    | .ok fr d ls => ∀ v M' H', Aft M0 H (lentAs fn.lent vs) M' H' → OutR K H M' H' fr d v → LentR K M' H' (lentAs fn.lent vs) ls → Q v H'
    | .exc cn d => ∀ M' H' cls dd, Aft M0 H (lentAs fn.lent vs) M' H' → XRel ⟨K, mg, fun _ _ _ _ => True⟩ M' H' cn d cls dd → E cls dd H'
    | .stuck => False
mutual
theorem noRef_rel {K : PySem.W.Frag} {M M2 : Addr → Prop} {H : Hp} (hm : ∀ b, M2 b → M b ∨ ∃ xs, H b = some (.lst xs)) : ∀ (d : D) (v : V), noRef d = true → Rel K M H d v → Rel K M2 H d v
  | .none, v, _, h => by simpa only [Rel] using h
  | .bool b, v, _, h => by simpa only [Rel] using h
  | .int i, v, _, h => by simpa only [Rel] using h
  | .str s, v, _, h => by simpa only [Rel] using h
  | .tuple ds, v, n, h => by
    simp only [Rel] at h ⊢
    obtain ⟨a, vs, e, q, z, r⟩ := h
    refine ⟨a, vs, e, ?_, z, noRefs_rel hm ds vs (by simpa only [noRef] using n) r⟩
    rcases q with ⟨q, m⟩ | q
    · refine .inl ⟨q, fun w => ?_⟩
      rcases hm a w with w | ⟨xs, w⟩
      · exact m w
      · obtain ⟨o, _, q⟩ := q
        rw [w] at q
        cases q
    · exact .inr q
  | .list ds, v, n, h => by simp only [noRef] at n; cases n
  | .dict kvs, v, n, h => by simp only [noRef] at n; cases n
theorem noRefs_rel {K : PySem.W.Frag} {M M2 : Addr → Prop} {H : Hp} (hm : ∀ b, M2 b → M b ∨ ∃ xs, H b = some (.lst xs)) : ∀ (ds : List D) (vs : List V), noRefs ds = true → Rels K M H ds vs → Rels K M2 H ds vs
  | [], vs, _, h => by simpa only [Rels] using h
  | d :: ds, vs, n, h => by
    simp only [Rels] at h ⊢
    simp only [noRefs, Bool.and_eq_true] at n
    obtain ⟨v, r, e, q, t⟩ := h
    exact ⟨v, r, e, noRef_rel hm d v n.1 q, noRefs_rel hm ds r n.2 t⟩
end
theorem noRef_top {K : PySem.W.Frag} {M M2 : Addr → Prop} {H : Hp} (hm : ∀ b, M2 b → M b ∨ ∃ xs, H b = some (.lst xs)) {d : D} {a : Addr} (n : lstNoRef d = true) (h : Top K M H d a) : Top K M2 H d a := by
  cases d with
  | list ds =>
    obtain ⟨vs, h1, h2, h3⟩ := h
    exact ⟨vs, h1, h2, noRefs_rel hm ds vs n h3⟩
  | _ => exact h.elim
/-- the slots that are lent, and where they point -/
def SlA (σ : L2.St) (e : Fm) : List Nat → List Addr → Prop
  | [], [] => True
  | i :: is, a :: as => (σ[i]? = some (some (V.ref a)) ∧ ∃ l d, e[i]? = some (Slot.own l d)) ∧ SlA σ e is as
  | _, _ => False
section
variable {g : G} {c : C} {σ : L2.St} {M : Addr → Prop} {H : Hp} {e : Fm}
theorem SlA.mem : ∀ {is : List Nat} {as : List Addr} {a : Addr}, SlA σ e is as → a ∈ as → ∃ i ∈ is, σ[i]? = some (some (V.ref a)) ∧ ∃ l d, e[i]? = some (Slot.own l d)
  | [], [], _, _, h => nomatch h
  | [], _ :: _, _, q, _ => q.elim
  | _ :: _, [], _, q, _ => q.elim
  | i :: is, b :: as, a, q, h => by
    rcases List.mem_cons.mp h with rfl | h
    · exact ⟨i, List.mem_cons_self, q.1⟩
    · obtain ⟨j, h1, h2⟩ := SlA.mem q.2 h
      exact ⟨j, List.mem_cons_of_mem _ h1, h2⟩
theorem SlA.at : ∀ {is : List Nat} {as : List Addr} {i : Nat}, SlA σ e is as → i ∈ is → ∃ a ∈ as, σ[i]? = some (some (V.ref a)) ∧ ∃ l d, e[i]? = some (Slot.own l d)
  | [], _, _, _, h => nomatch h
  | _ :: _, [], _, q, _ => q.elim
  | j :: is, b :: as, i, q, h => by
    rcases List.mem_cons.mp h with rfl | h
    · exact ⟨b, List.mem_cons_self, q.1⟩
    · obtain ⟨a, h1, h2⟩ := SlA.at q.2 h
      exact ⟨a, List.mem_cons_of_mem _ h1, h2⟩
theorem SlA.nodup (s : Sr g.K c M σ H e) : ∀ {is : List Nat} {as : List Addr}, SlA σ e is as → is.Nodup → as.Nodup
  | [], [], _, _ => .nil
  | [], _ :: _, q, _ => q.elim
  | _ :: _, [], q, _ => q.elim
  | i :: is, a :: as, q, n => by
    have n' := List.nodup_cons.mp n
    refine List.nodup_cons.mpr ⟨fun h => ?_, SlA.nodup s q.2 n'.2⟩
    obtain ⟨j, h1, h2, lj, dj, h3⟩ := SlA.mem q.2 h
    obtain ⟨⟨h4, li, di, h5⟩, _⟩ := q
    have : i = j := s.inj i j li lj di dj a h5 h3 h4 h2
    exact n'.1 (by rw [this]; exact h1)
/-- the borrowed objects -/
def Bo (σ : L2.St) (bo : List Nat) (b : Addr) : Prop := ∃ i ∈ bo, σ[i]? = some (some (V.ref b))
theorem arg_slots (s : Sr g.K c M σ H e) : ∀ {lent : List Bool} {os : List Opd} {vs : List V} {ds : List D} {ln bo : List Nat}, ORs g.K c M σ H e os vs → argD e lent os = some (ds, ln, bo) →
    SlA σ e ln (lentAs lent vs) ∧ (∀ i ∈ bo, ∃ l d, e[i]? = some (Slot.own l d)) ∧ vs.length = lent.length
  | [], [], vs, ds, ln, bo, r, h => by
    cases h
    cases (show vs = [] from r)
    exact ⟨trivial, fun _ h => (nomatch h), rfl⟩
  | [], _ :: _, vs, ds, ln, bo, r, h => by simp only [argD] at h; cases h
  | l :: ls, [], vs, ds, ln, bo, r, h => by cases l <;> simp only [argD] at h <;> cases h
  | true :: ls, .val d :: os, vs, ds, ln, bo, r, h => by simp only [argD] at h; cases h
  | l :: ls, .fresh d :: os, vs, ds, ln, bo, r, h => by cases l <;> simp only [argD] at h <;> cases h
  | true :: ls, .slot i :: os, vs, ds, ln, bo, r, h => by
    obtain ⟨v, rs, rfl, q, t⟩ := r
    simp only [argD] at h
    split at h
    · rename_i l d ds' ln' bo' h1 h2
      cases h
      obtain ⟨z1, z2, z3⟩ := arg_slots s t h2
      obtain ⟨a, h3, h4, h5, h6⟩ := s.own i l d h1
      have : v = .ref a := by rw [q.1] at h3; cases h3; rfl
      subst this
      exact ⟨⟨⟨q.1, l, d, h1⟩, z1⟩, z2, by simp [z3]⟩
    · cases h
  | false :: ls, .slot i :: os, vs, ds, ln, bo, r, h => by
    obtain ⟨v, rs, rfl, q, t⟩ := r
    have e0 : lentAs (false :: ls) (v :: rs) = lentAs ls rs := by cases v <;> rfl
    simp only [argD] at h
    split at h
    · rename_i l d ds' ln' bo' h1 h2
      cases h
      obtain ⟨z1, z2, z3⟩ := arg_slots s t h2
      rw [e0]
      refine ⟨z1, fun j hj => ?_, by simp [z3]⟩
      rcases List.mem_cons.mp hj with rfl | hj
      · exact ⟨l, d, h1⟩
      · exact z2 j hj
    · rename_i d ds' ln' bo' h1 h2
      cases h
      obtain ⟨z1, z2, z3⟩ := arg_slots s t h2
      rw [e0]
      exact ⟨z1, z2, by simp [z3]⟩
    · cases h
  | false :: ls, .val d :: os, vs, ds, ln, bo, r, h => by
    obtain ⟨v, rs, rfl, q, t⟩ := r
    have e0 : lentAs (false :: ls) (v :: rs) = lentAs ls rs := by cases v <;> rfl
    simp only [argD] at h
    split at h
    · rename_i ds' ln' bo' h2
      cases h
      obtain ⟨z1, z2, z3⟩ := arg_slots s t h2
      rw [e0]
      exact ⟨z1, z2, by simp [z3]⟩
    · cases h
theorem arg_rel {B : Addr → Prop} (s : Sr g.K c M σ H e) : ∀ {lent : List Bool} {os : List Opd} {vs : List V} {ds : List D} {ln bo : List Nat}, ORs g.K c M σ H e os vs → argD e lent os = some (ds, ln, bo) →
    (∀ i ∈ ln, ∀ a, σ[i]? = some (some (V.ref a)) → ¬ B a) → (∀ i ∈ bo, ∀ a, σ[i]? = some (some (V.ref a)) → B a) → ArgR g.K (fun b => M b ∧ ¬ B b) H lent ds vs
  | [], [], vs, ds, ln, bo, r, h, _, _ => by
    cases h
    cases (show vs = [] from r)
    trivial
  | [], _ :: _, vs, ds, ln, bo, r, h, _, _ => by simp only [argD] at h; cases h
  | l :: ls, [], vs, ds, ln, bo, r, h, _, _ => by cases l <;> simp only [argD] at h <;> cases h
  | true :: ls, .val d :: os, vs, ds, ln, bo, r, h, _, _ => by simp only [argD] at h; cases h
  | l :: ls, .fresh d :: os, vs, ds, ln, bo, r, h, _, _ => by cases l <;> simp only [argD] at h <;> cases h
  | true :: ls, .slot i :: os, vs, ds, ln, bo, r, h, hl, hb => by
    obtain ⟨v, rs, rfl, q, t⟩ := r
    simp only [argD] at h
    split at h
    · rename_i l d ds' ln' bo' h1 h2
      cases h
      obtain ⟨a, h3, h4, h5, h6⟩ := s.own i l d h1
      have : v = .ref a := by rw [q.1] at h3; cases h3; rfl
      subst this
      refine ⟨?_, arg_rel s t h2 (fun j hj => hl j (List.mem_cons_of_mem _ hj)) hb⟩
      rw [if_pos rfl]
      exact ⟨a, rfl, ⟨h4, hl i List.mem_cons_self a q.1⟩, h5.less fun b q => q.1⟩
    · cases h
  | false :: ls, .slot i :: os, vs, ds, ln, bo, r, h, hl, hb => by
    obtain ⟨v, rs, rfl, q, t⟩ := r
    simp only [argD] at h
    split at h
    · rename_i l d ds' ln' bo' h1 h2
      cases h
      obtain ⟨a, h3, h4, h5, h6⟩ := s.own i l d h1
      have : v = .ref a := by rw [q.1] at h3; cases h3; rfl
      subst this
      refine ⟨?_, arg_rel s t h2 hl fun j hj => hb j (List.mem_cons_of_mem _ hj)⟩
      rw [if_neg Bool.false_ne_true]
      exact h5.rel (fun b q => q.1) fun z => z.2 (hb i List.mem_cons_self a q.1)
    · rename_i d ds' ln' bo' h1 h2
      cases h
      obtain ⟨w, h3, h4⟩ := s.val i d h1
      have : v = w := by rw [q.1] at h3; cases h3; rfl
      subst this
      refine ⟨?_, arg_rel s t h2 hl hb⟩
      rw [if_neg Bool.false_ne_true]
      exact h4.less fun b q => q.1
    · cases h
  | false :: ls, .val d :: os, vs, ds, ln, bo, r, h, hl, hb => by
    obtain ⟨v, rs, rfl, q, t⟩ := r
    simp only [argD] at h
    split at h
    · rename_i ds' ln' bo' h2
      cases h
      refine ⟨?_, arg_rel s t h2 hl hb⟩
      rw [if_neg Bool.false_ne_true]
      exact Rel.less (fun b q => q.1) q
    · cases h
theorem putL_out : ∀ {ln : List Nat} {ls : List D} {e e1 : Fm}, putL e ln ls = some e1 → ∀ j, j ∉ ln → e1[j]? = e[j]?
  | [], [], e, e1, h, j, _ => by cases h; rfl
  | [], _ :: _, e, e1, h, j, _ => by cases h
  | _ :: _, [], e, e1, h, j, _ => by cases h
  | i :: is, d :: ds, e, e1, h, j, n => by
    simp only [putL] at h
    split at h
    · rename_i l d0 h1
      rw [putL_out h j fun q => n (List.mem_cons_of_mem _ q)]
      exact List.getElem?_set_ne fun q => n (by rw [q]; exact List.mem_cons_self)
    · cases h
theorem putL_in : ∀ {ln : List Nat} {ls : List D} {as : List Addr} {e e1 : Fm} {M' : Addr → Prop} {H' : Hp}, putL e ln ls = some e1 → ln.Nodup → SlA σ e ln as → LentR g.K M' H' as ls →
    ∀ i ∈ ln, ∃ l d0 d a, e[i]? = some (Slot.own l d0) ∧ e1[i]? = some (Slot.own l d) ∧ d ∈ ls ∧ σ[i]? = some (some (V.ref a)) ∧ M' a ∧ Top g.K M' H' d a
  | [], _, _, e, e1, _, _, _, _, _, _, i, hi => nomatch hi
  | j :: is, [], _, e, e1, _, _, h, _, _, _, i, hi => by cases h
  | j :: is, d :: ds, [], e, e1, _, _, h, _, q, _, i, hi => q.elim
  | j :: is, d :: ds, a :: as, e, e1, M', H', h, n, q, r, i, hi => by
    have n' := List.nodup_cons.mp n
    simp only [putL] at h
    split at h
    · rename_i l d0 h1
      rcases List.mem_cons.mp hi with rfl | hi
      · refine ⟨l, d0, d, a, h1, ?_, List.mem_cons_self, q.1.1, r.1, r.2.1⟩
        rw [putL_out h i n'.1]
        exact List.getElem?_set_self (List.getElem?_eq_some_iff.mp h1).1
      · have hne : ∀ k ∈ is, j ≠ k := fun k hk z => n'.1 (by rw [z]; exact hk)
        have q' : ∀ {is : List Nat} {as : List Addr}, (∀ k ∈ is, j ≠ k) → SlA σ e is as → SlA σ (e.set j (.own l d)) is as := by
          intro is
          induction is with
          | nil => intro as _ q; cases as with
            | nil => trivial
            | cons _ _ => exact q.elim
          | cons k ks ih => intro as hk q; cases as with
            | nil => exact q.elim
            | cons b bs =>
              refine ⟨⟨q.1.1, ?_⟩, ih (fun x hx => hk x (List.mem_cons_of_mem _ hx)) q.2⟩
              rw [List.getElem?_set_ne (hk k List.mem_cons_self)]
              exact q.1.2
        obtain ⟨l', d0', d', a', h2, h3, h4, h5⟩ := putL_in h n'.2 (q' hne q.2) r.2.2 i hi
        rw [List.getElem?_set_ne (hne i hi)] at h2
        exact ⟨l', d0', d', a', h2, h3, List.mem_cons_of_mem _ h4, h5⟩
    · cases h
theorem putL_len : ∀ {ln : List Nat} {ls : List D} {e e1 : Fm}, putL e ln ls = some e1 → e1.length = e.length
  | [], [], e, e1, h => by cases h; rfl
  | [], _ :: _, e, e1, h => by cases h
  | _ :: _, [], e, e1, h => by cases h
  | i :: is, d :: ds, e, e1, h => by
    simp only [putL] at h
    split at h
    · rw [putL_len h, List.length_set]
    · cases h
/-- the caller's frame behind a call -/
theorem Sr.after (s : Sr g.K c M σ H e) {ln bo : List Nat} {as : List Addr} {ls : List D} {e1 : Fm} {M' : Addr → Prop} {H' : Hp} (hs : SlA σ e ln as) (hn : ln.Nodup) (hd : ∀ i ∈ ln, i ∉ bo) (hbo : ∀ i ∈ bo, ∃ l d, e[i]? = some (Slot.own l d))
    (A : Aft (fun b => M b ∧ ¬ Bo σ bo b) H as M' H') (L : LentR g.K M' H' as ls) (hp : putL e ln ls = some e1) (hr : bo = [] ∨ ls.all lstNoRef = true) :
    Sr g.K c (fun b => M' b ∨ Bo σ bo b) σ H' e1 ∧ Ext σ M H e (fun b => M' b ∨ Bo σ bo b) H' e1 ∧ Keeps e e1 ∧ (∀ b, Bo σ bo b → ∃ xs, H' b = some (.lst xs)) := by
  have lentWr : ∀ a ∈ as, Wr σ e a := fun a ha => by
    obtain ⟨i, _, h2, l, d, h3⟩ := hs.mem ha
    exact ⟨i, l, d, h3, h2⟩
  have boM : ∀ b, Bo σ bo b → M b ∧ (∃ xs, H b = some (.lst xs)) ∧ b ∉ as := fun b ⟨i, hi, h1⟩ => by
    obtain ⟨l, d, h2⟩ := hbo i hi
    obtain ⟨a, h3, h4, h5, _⟩ := s.own i l d h2
    rw [h1] at h3; cases h3
    refine ⟨h4, ?_, fun ha => ?_⟩
    · cases d with
      | list ds => obtain ⟨vs, h6, _⟩ := h5; exact ⟨vs, h6⟩
      | _ => exact h5.elim
    · obtain ⟨j, hj, h6, lj, dj, h7⟩ := hs.mem ha
      have : j = i := s.inj j i lj l dj d b h7 h2 h6 h1
      exact hd j hj (by rw [this]; exact hi)
  have boH : ∀ b, Bo σ bo b → ∃ xs, H' b = some (.lst xs) := fun b hb => by
    obtain ⟨_, ⟨xs, h1⟩, h2⟩ := boM b hb
    exact ⟨xs, A.same b _ h1 h2⟩
  have same : ∀ b x, H b = some x → ¬ Wr σ e b → H' b = some x := fun b x h w => A.same b x h fun q => w (lentWr b q)
  have dn : ∀ b, (M' b ∨ Bo σ bo b) → M b ∨ H b = none := fun b h => by
    rcases h with h | h
    · rcases A.dn b h with q | q
      · exact .inl q.1
      · exact .inr q
    · exact .inl (boM b h).1
  have up : ∀ b, M b → M' b ∨ Bo σ bo b := fun b h => by
    by_cases q : Bo σ bo b
    · exact .inr q
    · exact .inl (A.up b ⟨h, q⟩)
  have ext : Ext σ M H e (fun b => M' b ∨ Bo σ bo b) H' e1 := by
    refine ⟨same, dn, fun b h _ => up b h, fun b ⟨i, l, d, h1, h2⟩ => ?_, A.kp⟩
    by_cases hi : i ∈ ln
    · obtain ⟨l', d0, d', a, h3, h4, _, h5, _⟩ := putL_in hp hn hs L i hi
      exact ⟨i, l', d0, h3, h2⟩
    · rw [putL_out hp i hi] at h1
      exact ⟨i, l, d, h1, h2⟩
  refine ⟨⟨?_, fun i d h => ?_, fun i l d h => ?_, fun i j li lj di dj a h1 h2 h3 h4 => ?_, fun b x h1 h2 => ?_, fun b h => up b (s.m0 b h), fun b h => ?_, fun b h => ?_, s.c0, s.c1⟩, ext, fun i t h n => ?_, boH⟩
  · rw [putL_len hp]; exact s.len
  · by_cases hi : i ∈ ln
    · obtain ⟨l', d0, d', a, h3, h4, _, h5, _⟩ := putL_in hp hn hs L i hi
      rw [h4] at h; cases h
    · rw [putL_out hp i hi] at h
      obtain ⟨v, h1, h2⟩ := s.val i d h
      exact ⟨v, h1, Rel.ext (fun b x q m => same b x q fun w => m (s.wr w)) dn d v h2⟩
  · by_cases hi : i ∈ ln
    · obtain ⟨l', d0, d', a, h3, h4, h5, h6, h7, h8⟩ := putL_in hp hn hs L i hi
      rw [h4] at h; cases h
      obtain ⟨a', h9, _, _, h10⟩ := s.own i l d0 h3
      rw [h6] at h9; cases h9
      refine ⟨a, h6, .inl h7, ?_, h10⟩
      rcases hr with hr | hr
      · subst hr
        exact h8.less fun b q => q.elim id fun ⟨_, q, _⟩ => (nomatch q)
      · refine noRef_top (fun b q => ?_) (List.all_eq_true.mp hr d h5) h8
        rcases q with q | q
        · exact .inl q
        · exact .inr (boH b q)
    · rw [putL_out hp i hi] at h
      obtain ⟨a, h1, h2, h3, h4⟩ := s.own i l d h
      refine ⟨a, h1, up a h2, ?_, h4⟩
      have na : a ∉ as := fun q => by
        obtain ⟨j, hj, h6, lj, dj, h7⟩ := hs.mem q
        have : j = i := s.inj j i lj l dj d a h7 h h6 h1
        exact hi (by rw [← this]; exact hj)
      cases d with
      | list ds =>
        obtain ⟨vs, h5, h6, h7⟩ := h3
        exact ⟨vs, A.same a _ h5 na, h6, Rels.ext (fun b x q m => same b x q fun w => m (s.wr w)) dn ds vs h7⟩
      | _ => exact h3.elim
  · obtain ⟨li', di', e1i⟩ : ∃ l d, e[i]? = some (Slot.own l d) := by
      by_cases hi : i ∈ ln
      · obtain ⟨l', d0, d', a, h3, _⟩ := putL_in hp hn hs L i hi
        exact ⟨l', d0, h3⟩
      · rw [putL_out hp i hi] at h1
        exact ⟨li, di, h1⟩
    obtain ⟨lj', dj', e1j⟩ : ∃ l d, e[j]? = some (Slot.own l d) := by
      by_cases hj : j ∈ ln
      · obtain ⟨l', d0, d', a, h3, _⟩ := putL_in hp hn hs L j hj
        exact ⟨l', d0, h3⟩
      · rw [putL_out hp j hj] at h2
        exact ⟨lj, dj, h2⟩
    exact s.inj i j li' lj' di' dj' a e1i e1j h3 h4
  · refine A.same b x (s.keep b x h1 h2) fun q => ?_
    obtain ⟨j, hj, h6, lj, dj, h7⟩ := hs.mem q
    obtain ⟨a, h8, _, _, h9⟩ := s.own j lj dj h7
    rw [h6] at h8; cases h8
    cases lj with
    | true => exact h2 (j, b) (by simpa using h9) rfl
    | false =>
      have : c.H0 b = none := by simpa using h9
      rw [this] at h1; cases h1
  · rcases dn b h with q | q
    · exact s.m1 b q
    · exact .inr (s.born q)
  · rcases h with h | h
    · exact A.mh b h
    · obtain ⟨xs, q⟩ := boH b h
      rw [q]; exact fun z => nomatch z
  · by_cases hi : i ∈ ln
    · obtain ⟨l', d0, d', a, h3, h4, _⟩ := putL_in hp hn hs L i hi
      exact ⟨_, h4, fun z => nomatch z⟩
    · exact ⟨t, by rw [putL_out hp i hi]; exact h, n⟩
/-- a call in an expression -/
theorem call_ok {cf : CF} {i : Nat} {fn : Fn} {os : List Opd} {vs : List V} {Q : VK} {H0 : Hp} (s : Sr g.K c M σ H e) (r : ORs g.K c M σ H e os vs) (hps : fn.lent.length = fn.ps.length)
    (h : Ok g c σ M H e (doCall cf i fn.lent os e) fun o M' H' e' => ∀ v, OR g.K c M' σ H' e' o v → Fr H0 o v → Q v H') (old : ∀ b, H0 b ≠ none → H b ≠ none) : spEv g.K g.mg cf i fn vs H Q (WE g.W σ) := by
  unfold doCall at h
  cases ha : argD e fn.lent os with
  | none => rw [ha] at h; exact h.elim
  | some w =>
    obtain ⟨ds, ln, bo⟩ := w
    rw [ha] at h
    simp only at h
    split at h
    · rename_i hc
      obtain ⟨hn, hd⟩ := hc
      obtain ⟨h1, h2, h3⟩ := arg_slots s r ha
      have inj : ∀ i ∈ ln, ∀ a, σ[i]? = some (some (V.ref a)) → ¬ Bo σ bo a := fun i hi a h4 ⟨j, hj, h5⟩ => by
        obtain ⟨b, _, _, l, d, h6⟩ := h1.at hi
        obtain ⟨lj, dj, h7⟩ := h2 j hj
        have : i = j := s.inj i j l lj d dj a h6 h7 h4 h5
        exact hd i hi (by rw [this]; exact hj)
      refine ⟨fun b => M b ∧ ¬ Bo σ bo b, ds, fun b q => s.mh b q.1, by rw [h3, hps], arg_rel s r ha inj fun j hj a q => ⟨j, hj, q⟩, h1.nodup s hn, ?_⟩
      cases hcf : cf i ds with
      | stuck => rw [hcf] at h; exact h.elim
      | exc cn d =>
        rw [hcf] at h
        simp only at h ⊢
        split at h
        · rename_i hh
          obtain ⟨rfl, hnr⟩ := hh
          intro M' H' cls dd A x
          have has : lentAs fn.lent vs = [] := by
            revert h1
            cases lentAs fn.lent vs with
            | nil => intro _; rfl
            | cons _ _ => intro q; exact q.elim
          rw [has] at A
          obtain ⟨q1, q2, q3, q4⟩ := s.after (ln := []) (ls := []) (as := []) (e1 := e) (show SlA σ e [] [] from trivial) .nil (fun _ z => nomatch z) h2 A (show LentR g.K M' H' [] [] from trivial) rfl (.inr rfl)
          refine h _ H' cls dd q1 q2 q3 ?_
          obtain ⟨Cl, p, v, x1, x2, x3, x4, x5⟩ := x
          refine ⟨Cl, p, v, x1, x2, x3, ⟨x4.1, fun q => ?_⟩, ?_⟩
          · rcases q with q | q
            · exact x4.2 q
            · obtain ⟨xs, z⟩ := q4 p q
              rw [x4.1] at z
              cases z
          rcases hnr with hbo | hnr
          · refine Rel.ext (fun b z q _ => q) (fun b q => ?_) d v x5
            rcases q with q | ⟨j, hj, _⟩
            · exact .inl q
            · rw [hbo] at hj
              cases hj
          · refine noRef_rel (fun b q => ?_) d v hnr x5
            rcases q with q | q
            · exact .inl q
            · exact .inr (q4 b q)
        · exact h.elim
      | ok fr d ls =>
        rw [hcf] at h
        simp only at h ⊢
        split at h
        · rename_i hh
          intro v M' H' A O L
          cases hp : putL e ln ls with
          | none => rw [hp] at h; exact h.elim
          | some e1 =>
            rw [hp] at h
            obtain ⟨q1, q2, q3, q4⟩ := s.after h1 hn hd h2 A L hp (hh.imp id fun z => z.2)
            have hm : ∀ b, (M' b ∨ Bo σ bo b) → M' b ∨ ∃ xs, H' b = some (.lst xs) := fun b q => q.imp id (q4 b)
            refine h _ H' q1 q2 q3 v ?_ ?_
            · cases fr with
              | true =>
                obtain ⟨a, o1, o2, o3, o4⟩ := (show ∃ a, v = .ref a ∧ M' a ∧ Top g.K M' H' d a ∧ H a = none from by simpa [OutR] using O)
                refine ⟨a, o1, .inl o2, ?_, s.born o4, fun w => s.mh a (s.wr (q2.e4 a w)) o4⟩
                rcases hh with hh | hh
                · subst hh
                  exact o3.less fun b q => q.elim id fun ⟨_, q, _⟩ => (nomatch q)
                · have hh1 := hh.1
                  unfold okRes at hh1
                  rw [Bool.true_and, Bool.or_eq_true] at hh1
                  rcases hh1 with z | z
                  · cases d with
                    | list ds => simp only [noRef] at z; cases z
                    | _ => exact o3.elim
                  · exact noRef_top hm z o3
              | false =>
                have O' : Rel g.K M' H' d v := by simpa [OutR] using O
                show Rel g.K _ H' d v
                rcases hh with hh | hh
                · subst hh
                  exact O'.less fun b q => q.elim id fun ⟨_, q, _⟩ => (nomatch q)
                · have hh1 := hh.1
                  unfold okRes at hh1
                  rw [Bool.false_and, Bool.or_false] at hh1
                  exact noRef_rel hm d v hh1 O'
            · cases fr with
              | true =>
                obtain ⟨a, o1, o2, o3, o4⟩ := (show ∃ a, v = .ref a ∧ M' a ∧ Top g.K M' H' d a ∧ H a = none from by simpa [OutR] using O)
                intro a' q
                rw [o1] at q
                cases q
                cases z : H0 a with
                | none => rfl
                | some u => exact absurd o4 (old a (by rw [z]; exact fun y => nomatch y))
              | false => trivial
        · exact h.elim
    · exact h.elim
end
end Ev

set_option Elab.async false
set_option linter.all false
set_option maxHeartbeats 4000000
set_option maxRecDepth 100000
/-! targets, what is walked, comprehensions -/
namespace Ev
open PySem L2 PySem.Spec

/-! ### stores in a frame's slots -/
section
variable {K : PySem.W.Frag} {c : C} {M : Addr → Prop} {σ : L2.St} {H : Hp} {e : Fm}
theorem get_set {α : Type} {l : List α} {i j : Nat} {x y : α} (h : (l.set i x)[j]? = some y) : (j = i ∧ y = x) ∨ (j ≠ i ∧ l[j]? = some y) := by
  by_cases q : i = j
  · subst q
    by_cases hi : i < l.length
    · rw [List.getElem?_set_self hi] at h
      cases h
      exact .inl ⟨rfl, rfl⟩
    · rw [List.getElem?_eq_none (by rw [List.length_set]; omega)] at h
      cases h
  · rw [List.getElem?_set_ne q] at h
    exact .inr ⟨fun z => q z.symm, h⟩
/-- a slot takes another value, plain or (l, a): a list of its own -/
theorem Sr.put (s : Sr K c M σ H e) {i : Nat} {t : Slot} {w : Option V} (hi : i < e.length)
    (ht : match t with
      | .un => True
      | .val d => ∃ v, w = some v ∧ Rel K M H d v
      | .own l d => l = false ∧ ∃ a, w = some (.ref a) ∧ M a ∧ Top K M H d a ∧ c.H0 a = none ∧ ∀ j, j ≠ i → ∀ l' d', e[j]? = some (Slot.own l' d') → σ[j]? ≠ some (some (V.ref a))) :
    Sr K c M (σ.set i w) H (e.set i t) := by
  have hσ : i < σ.length := by rw [s.len]; exact hi
  refine ⟨by rw [List.length_set, List.length_set]; exact s.len, fun j d h => ?_, fun j l d h => ?_, fun j k lj lk dj dk a h1 h2 h3 h4 => ?_, s.keep, s.m0, s.m1, s.mh, s.c0, s.c1⟩
  · rcases get_set h with ⟨rfl, q⟩ | ⟨q, h⟩
    · subst q
      obtain ⟨v, rfl, r⟩ := ht
      exact ⟨v, List.getElem?_set_self hσ, r⟩
    · obtain ⟨v, h1, h2⟩ := s.val j d h
      exact ⟨v, by rw [List.getElem?_set_ne (fun z => q z.symm)]; exact h1, h2⟩
  · rcases get_set h with ⟨rfl, q⟩ | ⟨q, h⟩
    · subst q
      obtain ⟨rfl, a, rfl, h1, h2, h3, _⟩ := ht
      exact ⟨a, List.getElem?_set_self hσ, h1, h2, by simpa using h3⟩
    · obtain ⟨a, h1, h2⟩ := s.own j l d h
      exact ⟨a, by rw [List.getElem?_set_ne (fun z => q z.symm)]; exact h1, h2⟩
  · rcases get_set h1 with ⟨q1, q2⟩ | ⟨q1, h5⟩
    · subst q1
      subst q2
      obtain ⟨_, b, rfl, _, _, _, nb⟩ := ht
      rw [List.getElem?_set_self hσ] at h3
      cases h3
      rcases get_set h2 with ⟨z1, z2⟩ | ⟨z1, h2⟩
      · exact z1.symm
      · rw [List.getElem?_set_ne (fun z => z1 z.symm)] at h4
        exact absurd h4 (nb k z1 lk dk h2)
    · rw [List.getElem?_set_ne (fun z => q1 z.symm)] at h3
      rcases get_set h2 with ⟨z1, z2⟩ | ⟨z1, h2⟩
      · subst z1
        subst z2
        obtain ⟨_, b, rfl, _, _, _, nb⟩ := ht
        rw [List.getElem?_set_self hσ] at h4
        cases h4
        exact absurd h3 (nb j q1 lj dj h5)
      · rw [List.getElem?_set_ne (fun z => z1 z.symm)] at h4
        exact s.inj j k lj lk dj dk a h5 h2 h3 h4
theorem Sr.setV (s : Sr K c M σ H e) {i : Nat} {d : D} {v : V} {e1 : Fm} (h : Ev.setV e i (.val d) = some e1) (r : Rel K M H d v) : Sr K c M (σ.set i (some v)) H e1 := by
  unfold Ev.setV at h
  split at h
  · cases h
  · rename_i t _ hq
    cases h
    exact s.put (List.getElem?_eq_some_iff.mp hq).1 ⟨v, rfl, r⟩
  · cases h
theorem setV_more {i : Nat} {d : D} {v : V} {e1 : Fm} (h : Ev.setV e i (.val d) = some e1) : (∀ b, Wr (σ.set i (some v)) e1 b → Wr σ e b) ∧ Keeps e e1 ∧ e1.length = e.length := by
  unfold Ev.setV at h
  split at h
  · cases h
  · rename_i t _ hq
    cases h
    have hi := (List.getElem?_eq_some_iff.mp hq).1
    refine ⟨fun b ⟨j, l, d', h1, h2⟩ => ?_, fun j t h1 n => ?_, List.length_set⟩
    · rcases get_set h1 with ⟨_, q⟩ | ⟨q, h3⟩
      · cases q
      · rw [List.getElem?_set_ne fun z => q z.symm] at h2
        exact ⟨j, l, d', h3, h2⟩
    · by_cases q : i = j
      · subst q
        exact ⟨_, List.getElem?_set_self hi, fun z => nomatch z⟩
      · exact ⟨t, by rw [List.getElem?_set_ne q]; exact h1, n⟩
  · cases h
def gTs : List Nat → TGs
  | [] => gNil
  | i :: is => gCons (gName i) (gTs is)
def gT (K : PySem.W.Frag) : Tg → TG
  | .nm i => gName i
  | .tp is => gTup K is.length (gTs is)
def tgIs : Tg → List Nat
  | .nm i => [i]
  | .tp is => is
structure Xw (w : Addr → Prop) (M : Addr → Prop) (H : Hp) (M' : Addr → Prop) (H' : Hp) (w' : Addr → Prop) : Prop where
  e1 : ∀ b x, H b = some x → ¬ w b → H' b = some x
  e2 : ∀ b, M' b → M b ∨ H b = none
  e3 : ∀ b, M b → ¬ w b → M' b
  e4 : ∀ b, w' b → w b
  e5 : ∀ b, H b ≠ none → H' b ≠ none
theorem Ext.xw {M' : Addr → Prop} {H' : Hp} {e' : Fm} (x : Ext σ M H e M' H' e') : Xw (Wr σ e) M H M' H' (Wr σ e') := ⟨x.e1, x.e2, x.e3, x.e4, x.e5⟩
theorem Xw.ext {M' : Addr → Prop} {H' : Hp} {e' : Fm} (x : Xw (Wr σ e) M H M' H' (Wr σ e')) : Ext σ M H e M' H' e' := ⟨x.e1, x.e2, x.e3, x.e4, x.e5⟩
theorem Xw.trans {w w1 w2 M1 M2 : Addr → Prop} {H1 H2 : Hp} (x : Xw w M H M1 H1 w1) (y : Xw w1 M1 H1 M2 H2 w2) : Xw w M H M2 H2 w2 where
  e1 := fun b z h q => y.e1 b z (x.e1 b z h q) fun r => q (x.e4 b r)
  e2 := fun b h => by
    rcases y.e2 b h with q | q
    · exact x.e2 b q
    · cases z : H b with
      | none => exact .inr rfl
      | some o => exact absurd q (x.e5 b (by rw [z]; exact fun w => nomatch w))
  e3 := fun b h q => y.e3 b (x.e3 b h q) fun r => q (x.e4 b r)
  e4 := fun b h => x.e4 b (y.e4 b h)
  e5 := fun b h => y.e5 b (x.e5 b h)
theorem Xw.grow {w w1 : Addr → Prop} {H1 : Hp} (up : ∀ b x, H b = some x → H1 b = some x) (hw : ∀ b, w1 b → w b) : Xw w M H M H1 w1 where
  e1 := fun b z h _ => up b z h
  e2 := fun b h => .inl h
  e3 := fun b h _ => h
  e4 := hw
  e5 := fun b h q => by
    cases z : H b with
    | none => exact h z
    | some o => rw [up b o z] at q; cases q
theorem Xw.same {w w1 : Addr → Prop} (hw : ∀ b, w1 b → w b) : Xw w M H M H w1 := Xw.grow (fun _ _ h => h) hw
/-- the slots but some are alike -/
def Same (is : List Nat) (σ σ' : L2.St) : Prop := ∀ j, j ∉ is → σ'[j]? = σ[j]?
theorem setVs_ok : ∀ {is : List Nat} {ds : List D} {vs : List V} {σ : L2.St} {e e1 : Fm} {Q : L2.St → Hp → Prop}, Sr K c M σ H e → setVs e is ds = some e1 → Rels K M H ds vs →
    (∀ σ', Sr K c M σ' H e1 → Same is σ σ' → (∀ b, Wr σ' e1 b → Wr σ e b) → Keeps e e1 → e1.length = e.length → Q σ' H) → gTs is vs σ H Q
  | [], [], vs, σ, e, e1, Q, s, h, r, q => by
    cases h
    cases (show vs = [] by simpa only [Rels] using r)
    exact ⟨rfl, q σ s (fun _ _ => rfl) (fun _ h => h) .refl rfl⟩
  | [], _ :: _, vs, σ, e, e1, Q, s, h, r, q => by cases h
  | _ :: _, [], vs, σ, e, e1, Q, s, h, r, q => by cases h
  | i :: is, d :: ds, vs, σ, e, e1, Q, s, h, r, q => by
    simp only [Rels] at r
    obtain ⟨v, rs, rfl, r1, r2⟩ := r
    simp only [setVs] at h
    cases h1 : Ev.setV e i (.val d) with
    | none => rw [h1] at h; cases h
    | some e2 =>
      rw [h1] at h
      obtain ⟨f1, f2, f3⟩ := setV_more (σ := σ) (v := v) h1
      refine ⟨v, rs, rfl, setVs_ok (s.setV h1 r1) h r2 fun σ' s' z zw zk zl => q σ' s' (fun j hj => ?_) (fun b w => f1 b (zw b w)) (f2.trans zk) (zl.trans f3)⟩
      rw [z j fun w => hj (List.mem_cons_of_mem _ w)]
      exact List.getElem?_set_ne fun w => hj (by rw [w]; exact List.mem_cons_self)
theorem setVs_len : ∀ {is : List Nat} {ds : List D} {e e1 : Fm}, setVs e is ds = some e1 → is.length = ds.length
  | [], [], e, e1, h => rfl
  | [], _ :: _, e, e1, h => by cases h
  | _ :: _, [], e, e1, h => by cases h
  | i :: is, d :: ds, e, e1, h => by
    simp only [setVs] at h
    cases h1 : Ev.setV e i (.val d) with
    | none => rw [h1] at h; cases h
    | some e2 =>
      rw [h1] at h
      simp [setVs_len h]
/-- an item that is bound to a target: one that is taken apart need not be a tuple known whole -/
def RelI (tg : Tg) (K : PySem.W.Frag) (M : Addr → Prop) (H : Hp) (d : D) (v : V) : Prop :=
  Rel K M H d v ∨ ((∃ is, tg = .tp is) ∧ ∃ ds a vs, d = .tuple ds ∧ v = .ref a ∧ SqT K H a vs ∧ Rels K M H ds vs)
theorem bind_ok {tg : Tg} {d : D} {v : V} {e1 : Fm} {Q : L2.St → Hp → Prop} (s : Sr K c M σ H e) (h : bindTg tg d e = some e1) (r : RelI tg K M H d v)
    (q : ∀ σ', Sr K c M σ' H e1 → Same (tgIs tg) σ σ' → (∀ b, Wr σ' e1 b → Wr σ e b) → Keeps e e1 → e1.length = e.length → Q σ' H) : gT K tg v σ H Q := by
  cases tg with
  | nm i =>
    have r : Rel K M H d v := by
      rcases r with r | ⟨⟨_, z⟩, _⟩
      · exact r
      · cases z
    obtain ⟨f1, f2, f3⟩ := setV_more (σ := σ) (v := v) h
    refine q _ (s.setV h r) (fun j hj => ?_) f1 f2 f3
    exact List.getElem?_set_ne fun w => hj (by rw [w]; exact List.mem_cons_self)
  | tp is =>
    cases d <;> first | (cases h; done) | skip
    rcases r with r | ⟨_, ds', a, vs, z, rfl, h1, r1⟩
    · obtain ⟨a, vs, rfl, h1, z, r1⟩ := TopV.tuple (.inl r)
      exact ⟨a, vs, rfl, h1, by rw [← r1.length, setVs_len h], setVs_ok s h r1 q⟩
    · cases z
      exact ⟨a, vs, rfl, h1, by rw [← r1.length, setVs_len h], setVs_ok s h r1 q⟩
/-! ### new objects that nobody holds -/
theorem Sr.grow (s : Sr K c M σ H e) {H' : Hp} (up : ∀ b x, H b = some x → H' b = some x) : Sr K c M σ H' e ∧ Ext σ M H e M H' e := by
  refine ⟨⟨s.len, fun i d q => ?_, fun i l d q => ?_, s.inj, fun b x q1 q2 => up b x (s.keep b x q1 q2), s.m0, s.m1, fun b q z => ?_, s.c0, s.c1⟩, ⟨fun b x q _ => up b x q, fun b q => .inl q, fun b q _ => q, fun b q => q, fun b q z => ?_⟩⟩
  · obtain ⟨v, h1, h2⟩ := s.val i d q
    exact ⟨v, h1, Rel.ext (fun b x q _ => up b x q) (fun b q => .inl q) d v h2⟩
  · obtain ⟨a, h1, h2, h3, h4⟩ := s.own i l d q
    refine ⟨a, h1, h2, ?_, h4⟩
    cases d with
    | list ds =>
      obtain ⟨vs, h5, h6, h7⟩ := h3
      exact ⟨vs, up _ _ h5, h6, Rels.ext (fun b x q _ => up b x q) (fun b q => .inl q) ds vs h7⟩
    | _ => exact h3.elim
  · cases y : H b with
    | none => exact s.mh b q y
    | some x => rw [up b x y] at z; cases z
  · cases y : H b with
    | none => exact q y
    | some x => rw [up b x y] at z; cases z
/-- a list that is being made, no slot's, gets longer -/
theorem Sr.poke (s : Sr K c M σ H e) {p : Addr} {xs ys : List V} (hp : H p = some (.lst xs)) (hm : M p) (h0 : c.H0 p = none) (w : ¬ Wr σ e p) : Sr K c M σ (upd H p (.lst ys)) e := by
  have h1 : ∀ b x, H b = some x → ¬ M b → upd H p (.lst ys) b = some x := fun b x q m => by
    rw [upd_ne fun z => m (by rw [z]; exact hm)]; exact q
  refine ⟨s.len, fun i d q => ?_, fun i l d q => ?_, s.inj, fun b x q1 q2 => ?_, s.m0, s.m1, fun b q => upd_some b (s.mh b q), s.c0, s.c1⟩
  · obtain ⟨v, h2, h3⟩ := s.val i d q
    exact ⟨v, h2, Rel.ext h1 (fun b q => .inl q) d v h3⟩
  · obtain ⟨a, h2, h3, h4, h5⟩ := s.own i l d q
    refine ⟨a, h2, h3, ?_, h5⟩
    cases d with
    | list ds =>
      obtain ⟨vs, h6, h7, h8⟩ := h4
      refine ⟨vs, ?_, h7, Rels.ext h1 (fun b q => .inl q) ds vs h8⟩
      rw [upd_ne fun z => w ⟨i, l, _, q, by rw [← z]; exact h2⟩]
      exact h6
    | _ => exact h4.elim
  · rw [upd_ne fun z => by rw [z, h0] at q1; cases q1]
    exact s.keep b x q1 q2
/-! ### a block's own slots -/
theorem wipe_get {σ : L2.St} {j : Nat} : ∀ {vs : List Nat}, j ∉ vs → (wipe σ vs)[j]? = σ[j]?
  | [], _ => rfl
  | v :: vs, h => by
    unfold wipe
    rw [List.getElem?_set_ne fun z => h (by rw [z]; exact List.mem_cons_self)]
    exact wipe_get fun z => h (List.mem_cons_of_mem _ z)
theorem wipe_in {σ σ' : L2.St} {j : Nat} (hl : σ.length = σ'.length) : ∀ {vs : List Nat}, j ∈ vs → (wipe σ vs)[j]? = (wipe σ' vs)[j]?
  | [], h => nomatch h
  | v :: vs, h => by
    unfold wipe
    have e1 := wipe_length σ vs
    have e2 := wipe_length σ' vs
    by_cases q : v = j
    · subst q
      by_cases z : v < σ.length
      · rw [List.getElem?_set_self (by omega), List.getElem?_set_self (by omega)]
      · rw [List.getElem?_eq_none (by rw [List.length_set]; omega), List.getElem?_eq_none (by rw [List.length_set]; omega)]
    · rw [List.getElem?_set_ne q, List.getElem?_set_ne q]
      rcases List.mem_cons.mp h with z | z
      · exact absurd z.symm q
      · exact wipe_in hl z
theorem wipe_same {σ σ' : L2.St} {vs : List Nat} (hl : σ.length = σ'.length) (h : Same vs σ σ') : wipe σ' vs = wipe σ vs := by
  apply List.ext_getElem?
  intro j
  by_cases q : j ∈ vs
  · exact wipe_in hl.symm q
  · rw [wipe_get q, wipe_get q, h j q]
theorem wipeF_ok : ∀ {vs : List Nat} {e e1 : Fm}, wipeF e vs = some e1 → Sr K c M σ H e → Sr K c M (wipe σ vs) H e1 ∧ e1.length = e.length ∧ (∀ j, j ∉ vs → e1[j]? = e[j]?) ∧ (∀ j ∈ vs, ∀ t, e1[j]? = some t → t = Slot.un) ∧ (∀ j ∈ vs, ∀ l d, e[j]? ≠ some (Slot.own l d))
  | [], e, e1, h, s => by
    cases h
    exact ⟨s, rfl, fun _ _ => rfl, fun _ h => (nomatch h), fun _ h => (nomatch h)⟩
  | v :: vs, e, e1, h, s => by
    simp only [wipeF] at h
    cases h1 : wipeF e vs with
    | none => rw [h1] at h; cases h
    | some e2 =>
      rw [h1] at h
      obtain ⟨s2, l2, o2, i2, n2⟩ := wipeF_ok h1 s
      simp only [Option.bind_some] at h
      split at h
      · cases h
      · rename_i hno
        cases h
        refine ⟨?_, by rw [List.length_set]; exact l2, fun j hj => ?_, fun j hj t ht => ?_, fun j hj l d hq => ?_⟩
        · by_cases hv : v < e2.length
          · exact s2.put hv trivial
          · have hw : ¬ v < (wipe σ vs).length := by rw [s2.len]; exact hv
            rw [List.set_eq_of_length_le (by omega)]
            show Sr K c M ((wipe σ vs).set v none) H e2
            rw [List.set_eq_of_length_le (by omega)]
            exact s2
        · rw [List.getElem?_set_ne fun z => hj (by rw [z]; exact List.mem_cons_self)]
          exact o2 j fun z => hj (List.mem_cons_of_mem _ z)
        · rcases get_set ht with ⟨_, q⟩ | ⟨q, ht⟩
          · exact q
          · rcases List.mem_cons.mp hj with z | z
            · exact absurd z q
            · exact i2 j z t ht
        · by_cases z : j ∈ vs
          · exact n2 j z l d hq
          · rcases List.mem_cons.mp hj with y | y
            · subst y
              rw [← o2 j z] at hq
              exact hno l d hq
            · exact z y
theorem backF_get {e0 e : Fm} {j : Nat} : ∀ {vs : List Nat}, j ∉ vs → (backF e0 e vs)[j]? = e[j]?
  | [], _ => rfl
  | v :: vs, h => by
    unfold backF
    rw [List.getElem?_set_ne fun z => h (by rw [z]; exact List.mem_cons_self)]
    exact backF_get fun z => h (List.mem_cons_of_mem _ z)
theorem backF_len {e0 e : Fm} : ∀ {vs : List Nat}, (backF e0 e vs).length = e.length
  | [] => rfl
  | v :: vs => by unfold backF; rw [List.length_set, backF_len]
theorem backF_in {e0 e : Fm} {j : Nat} (hl : e0.length = e.length) : ∀ {vs : List Nat}, j ∈ vs → (backF e0 e vs)[j]? = e0[j]?
  | [], h => nomatch h
  | v :: vs, h => by
    unfold backF
    by_cases q : v = j
    · subst q
      by_cases z : v < e0.length
      · rw [List.getElem?_set_self (by rw [backF_len]; omega), List.getElem?_eq_getElem z]
        rfl
      · rw [List.getElem?_eq_none (by rw [List.length_set, backF_len]; omega), List.getElem?_eq_none (by omega)]
    · rw [List.getElem?_set_ne q]
      rcases List.mem_cons.mp h with z | z
      · exact absurd z.symm q
      · exact backF_in hl z
/-- behind a block the slots are what they were ahead of it -/
theorem Sr.back {M' : Addr → Prop} {H' : Hp} {e0 e3 : Fm} {vs : List Nat} (s : Sr K c M σ H e) (hw : wipeF e vs = some e0) (s3 : Sr K c M' (wipe σ vs) H' e3) (x : Ext (wipe σ vs) M H e0 M' H' e3) (k3 : Keeps e0 e3) (hl : e3.length = e0.length) :
    Sr K c M' σ H' (backF e e3 vs) ∧ Ext σ M H e M' H' (backF e e3 vs) ∧ Keeps e (backF e e3 vs) := by
  obtain ⟨sw, l0, o0, i0, n0⟩ := wipeF_ok hw s
  have le : e.length = e3.length := by rw [hl, l0]
  have wr0 : ∀ b, Wr (wipe σ vs) e0 b → Wr σ e b := fun b ⟨i, l, d, h1, h2⟩ => by
    by_cases q : i ∈ vs
    · cases i0 i q _ h1
    · exact ⟨i, l, d, by rw [← o0 i q]; exact h1, by rw [← wipe_get q]; exact h2⟩
  have wr1 : ∀ b, Wr σ e b → Wr (wipe σ vs) e0 b := fun b ⟨i, l, d, h1, h2⟩ => by
    by_cases q : i ∈ vs
    · exact absurd h1 (n0 i q l d)
    · exact ⟨i, l, d, by rw [o0 i q]; exact h1, by rw [wipe_get q]; exact h2⟩
  have rel : ∀ d v, Rel K M H d v → Rel K M' H' d v := fun d v r => sw.rel x r
  have ownB : ∀ i l d, (backF e e3 vs)[i]? = some (Slot.own l d) → i ∉ vs ∧ e3[i]? = some (Slot.own l d) := fun i l d h => by
    by_cases q : i ∈ vs
    · rw [backF_in le q] at h
      exact absurd h (n0 i q l d)
    · rw [backF_get q] at h
      exact ⟨q, h⟩
  refine ⟨⟨by rw [backF_len, ← le]; exact s.len, fun i d h => ?_, fun i l d h => ?_, fun i j li lj di dj a h1 h2 h3 h4 => ?_, s3.keep, s3.m0, s3.m1, s3.mh, s3.c0, s3.c1⟩, ⟨fun b z q w => x.e1 b z q fun y => w (wr0 b y), x.e2, fun b q w => x.e3 b q fun y => w (wr0 b y), fun b ⟨i, l, d, h1, h2⟩ => ?_, x.e5⟩, fun i t h n => ?_⟩
  · by_cases q : i ∈ vs
    · rw [backF_in le q] at h
      obtain ⟨v, h1, h2⟩ := s.val i d h
      exact ⟨v, h1, rel d v h2⟩
    · rw [backF_get q] at h
      obtain ⟨v, h1, h2⟩ := s3.val i d h
      exact ⟨v, by rw [← wipe_get q]; exact h1, h2⟩
  · obtain ⟨q, h⟩ := ownB i l d h
    obtain ⟨a, h1, h2⟩ := s3.own i l d h
    exact ⟨a, by rw [← wipe_get q]; exact h1, h2⟩
  · obtain ⟨q1, h1⟩ := ownB i li di h1
    obtain ⟨q2, h2⟩ := ownB j lj dj h2
    exact s3.inj i j li lj di dj a h1 h2 (by rw [wipe_get q1]; exact h3) (by rw [wipe_get q2]; exact h4)
  · obtain ⟨q, h1⟩ := ownB i l d h1
    exact wr0 b (x.e4 b ⟨i, l, d, h1, by rw [wipe_get q]; exact h2⟩)
  · by_cases q : i ∈ vs
    · exact ⟨t, by rw [backF_in le q]; exact h, n⟩
    · rw [← o0 i q] at h
      obtain ⟨t', h1, h2⟩ := k3 i t h n
      exact ⟨t', by rw [backF_get q]; exact h1, h2⟩
end

/-! ### what is walked -/
/-- from here on J gives the items of ds -/
def Yields (tg : Tg) (K : PySem.W.Frag) (M : Addr → Prop) (H : Hp) (J : It) (ds : List D) : Prop :=
  ∀ (M2 : Addr → Prop) (H2 : Hp), (∀ b x, H b = some x → ¬ M b → H2 b = some x) → (∀ b, M2 b → M b ∨ H b = none) → (∀ b, M2 b → H2 b ≠ none) → ∀ i,
    (ds.length ≤ i → J.stop i H2) ∧ ∀ d, ds[i]? = some d → J.go i H2 ∧ ∀ x H3, J.yld i H2 x H3 → (∀ b z, H2 b = some z → H3 b = some z) ∧ RelI tg K M2 H3 d x
theorem yields_list {tg : Tg} {K : PySem.W.Frag} {M : Addr → Prop} {H : Hp} {a : Addr} {vs : List V} {ds : List D} (h : Rd H a (.lst vs)) (m : ¬ M a) (r : Rels K M H ds vs) : Yields tg K M H (Itl K a) ds := by
  intro M2 H2 h1 h2 h3 i
  have hs : SqL K H2 a vs := .inl (Rd.ext h m h1 h2).1
  have r2 := Rels.ext h1 h2 ds vs r
  refine ⟨fun hi => ⟨vs, hs, by rw [← r.length]; exact hi⟩, fun d hd => ?_⟩
  obtain ⟨v, h4, h5⟩ := r2.get hd
  refine ⟨⟨vs, v, hs, h4⟩, fun x H3 y => ?_⟩
  obtain ⟨rfl, y⟩ := y
  have := y vs hs
  rw [h4] at this
  cases this
  exact ⟨fun b z q => q, .inl h5⟩
theorem yields_tup {tg : Tg} {K : PySem.W.Frag} {M : Addr → Prop} {H : Hp} {v : V} {ds : List D} (h : Rel K M H (.tuple ds) v) : ∃ a vs, v = .ref a ∧ SqT K H a vs ∧ Yields tg K M H (Itt K a) ds := by
  have h' := h
  simp only [Rel] at h'
  obtain ⟨a, vs, rfl, q, z, r⟩ := h'
  obtain ⟨a', vs', e', q0, _, r0⟩ := TopV.tuple (.inl h)
  cases e'
  refine ⟨a, vs, rfl, ?_, ?_⟩
  · rcases q with ⟨q, _⟩ | q
    · exact q.sq
    · exact q.sq
  intro M2 H2 h1 h2 h3 i
  have hs : SqT K H2 a vs := by
    rcases q with ⟨q, m⟩ | q
    · exact (FT.ext q m h1 h2).1.sq
    · exact q.sq
  have r2 := Rels.ext h1 h2 ds vs r
  refine ⟨fun hi => ⟨vs, hs, by rw [← r.length]; exact hi⟩, fun d hd => ?_⟩
  obtain ⟨v, h4, h5⟩ := r2.get hd
  refine ⟨⟨vs, v, hs, h4⟩, fun x H3 y => ?_⟩
  obtain ⟨rfl, y⟩ := y
  have := y vs hs
  rw [h4] at this
  cases this
  exact ⟨fun b z q => q, .inl h5⟩
theorem yields_rng {tg : Tg} {K : PySem.W.Frag} {M : Addr → Prop} {H : Hp} {a : Int} {n : Nat} : Yields tg K M H (L2.Itr a n) (rng a n) := by
  intro M2 H2 h1 h2 h3 i
  refine ⟨fun hi => ?_, fun d hd => ?_⟩
  · unfold rng at hi
    rw [List.length_map, List.length_range] at hi
    exact hi
  · unfold rng at hd
    rw [List.getElem?_map] at hd
    cases hr : (List.range n)[i]? with
    | none => rw [hr] at hd; cases hd
    | some k =>
      rw [hr] at hd
      obtain ⟨hk, e1⟩ := List.getElem?_eq_some_iff.mp hr
      rw [List.getElem_range] at e1
      rw [List.length_range] at hk
      cases hd
      refine ⟨hk, fun x H3 y => ?_⟩
      obtain ⟨rfl, rfl⟩ := y
      refine ⟨fun b z q => q, .inl ?_⟩
      simp only [Rel]
      rw [e1]
theorem yields_rdn {tg : Tg} {K : PySem.W.Frag} {M : Addr → Prop} {H : Hp} {a : Int} {n : Nat} : Yields tg K M H (L2.Itc a (-1) n) (rdn a n) := by
  intro M2 H2 h1 h2 h3 i
  refine ⟨fun hi => ?_, fun d hd => ?_⟩
  · unfold rdn at hi
    rw [List.length_map, List.length_range] at hi
    exact hi
  · unfold rdn at hd
    rw [List.getElem?_map] at hd
    cases hr : (List.range n)[i]? with
    | none => rw [hr] at hd; cases hd
    | some k =>
      rw [hr] at hd
      obtain ⟨hk, e1⟩ := List.getElem?_eq_some_iff.mp hr
      rw [List.getElem_range] at e1
      rw [List.length_range] at hk
      cases hd
      refine ⟨hk, fun x H3 y => ?_⟩
      obtain ⟨rfl, rfl⟩ := y
      refine ⟨fun b z q => q, .inl ?_⟩
      simp only [Rel]
      rw [e1]
/-- a tuple's place, read for good -/
theorem tup_place {K : PySem.W.Frag} {M : Addr → Prop} {H : Hp} {ds : List D} {v : V} (h : Rel K M H (.tuple ds) v) : ∃ a vs, v = .ref a ∧ ds.length ≤ sizeLine ∧ Rels K M H ds vs ∧
    ∀ (M2 : Addr → Prop) (H2 : Hp), (∀ b x, H b = some x → ¬ M b → H2 b = some x) → (∀ b, M2 b → M b ∨ H b = none) → SqT K H2 a vs := by
  simp only [Rel] at h
  obtain ⟨a, vs, rfl, q, z, r⟩ := h
  refine ⟨a, vs, rfl, z, r, fun M2 H2 h1 h2 => ?_⟩
  rcases q with ⟨q, m⟩ | q
  · exact (FT.ext q m h1 h2).1.sq
  · exact q.sq
theorem pair_rel {tg : Tg} (htg : ∃ is, tg = .tp is) {K : PySem.W.Frag} {M : Addr → Prop} {H : Hp} {t : Addr} {x y : D} {u v : V} (hm : ∀ b, M b → H b ≠ none) (hn : H t = none) (rx : Rel K M H x u) (ry : Rel K M H y v) :
    (∀ b z, H b = some z → upd H t (.tup [u, v]) b = some z) ∧ RelI tg K M (upd H t (.tup [u, v])) (.tuple [x, y]) (.ref t) := by
  have up : ∀ b z, H b = some z → upd H t (.tup [u, v]) b = some z := fun b z q => by rw [upd_ne (ne_of_none q hn)]; exact q
  refine ⟨up, ?_⟩
  refine .inr ⟨htg, _, t, [u, v], rfl, rfl, .inl (.inl upd_same), ?_⟩
  exact Rels.ext (fun b z q _ => up b z q) (fun b q => .inl q) [x, y] [u, v] (Rels.cons rx (Rels.cons ry Rels.nil))
theorem zip_get {α β γ : Type} {f : α → β → γ} {as : List α} {bs : List β} {i : Nat} {c : γ} (h : (List.zipWith f as bs)[i]? = some c) : ∃ a b, as[i]? = some a ∧ bs[i]? = some b ∧ c = f a b := by
  rw [List.getElem?_zipWith] at h
  split at h
  · rename_i a b ha hb
    cases h
    exact ⟨a, b, ha, hb, rfl⟩
  · cases h
theorem yields_zipL {tg : Tg} (htg : ∃ is, tg = .tp is) {K : PySem.W.Frag} {M : Addr → Prop} {H : Hp} {a b : Addr} {vs ws : List V} {ds es : List D} (h : Rd H a (.lst vs)) (m : ¬ M a) (r : Rels K M H ds vs) (h' : Rd H b (.lst ws)) (m' : ¬ M b) (r' : Rels K M H es ws) :
    Yields tg K M H (Itz K a b) (List.zipWith (fun x y => .tuple [x, y]) ds es) := by
  intro M2 H2 h1 h2 h3 i
  have hs : SqL K H2 a vs := .inl (Rd.ext h m h1 h2).1
  have hs' : SqL K H2 b ws := .inl (Rd.ext h' m' h1 h2).1
  refine ⟨fun hi => ⟨vs, ws, hs, hs', ?_⟩, fun d hd => ?_⟩
  · rw [List.length_zipWith, r.length, r'.length] at hi
    omega
  · obtain ⟨x, y, hx, hy, rfl⟩ := zip_get hd
    obtain ⟨u, e1, ru⟩ := (Rels.ext h1 h2 ds vs r).get hx
    obtain ⟨v, e2, rv⟩ := (Rels.ext h1 h2 es ws r').get hy
    refine ⟨⟨vs, ws, u, v, hs, hs', e1, e2⟩, fun z H3 q => ?_⟩
    obtain ⟨t, u', v', rfl, hn, rfl, q1, q2⟩ := q
    have := q1 vs hs
    rw [e1] at this
    cases this
    have := q2 ws hs'
    rw [e2] at this
    cases this
    exact pair_rel htg h3 hn ru rv
theorem yields_zipT {tg : Tg} (htg : ∃ is, tg = .tp is) {K : PySem.W.Frag} {M : Addr → Prop} {H : Hp} {a b : Addr} {vs ws : List V} {ds es : List D} (h : ∀ (M2 : Addr → Prop) (H2 : Hp), (∀ b x, H b = some x → ¬ M b → H2 b = some x) → (∀ b, M2 b → M b ∨ H b = none) → SqT K H2 a vs) (r : Rels K M H ds vs)
    (h' : ∀ (M2 : Addr → Prop) (H2 : Hp), (∀ b x, H b = some x → ¬ M b → H2 b = some x) → (∀ b, M2 b → M b ∨ H b = none) → SqT K H2 b ws) (r' : Rels K M H es ws) :
    Yields tg K M H (RZ.ItzT K a b) (List.zipWith (fun x y => .tuple [x, y]) ds es) := by
  intro M2 H2 h1 h2 h3 i
  have hs := h M2 H2 h1 h2
  have hs' := h' M2 H2 h1 h2
  refine ⟨fun hi => ⟨vs, ws, hs, hs', ?_⟩, fun d hd => ?_⟩
  · rw [List.length_zipWith, r.length, r'.length] at hi
    omega
  · obtain ⟨x, y, hx, hy, rfl⟩ := zip_get hd
    obtain ⟨u, e1, ru⟩ := (Rels.ext h1 h2 ds vs r).get hx
    obtain ⟨v, e2, rv⟩ := (Rels.ext h1 h2 es ws r').get hy
    refine ⟨⟨vs, ws, u, v, hs, hs', e1, e2⟩, fun z H3 q => ?_⟩
    obtain ⟨t, u', v', rfl, hn, rfl, q1, q2⟩ := q
    have := q1 vs hs
    rw [e1] at this
    cases this
    have := q2 ws hs'
    rw [e2] at this
    cases this
    exact pair_rel htg h3 hn ru rv
theorem yields_enm {tg : Tg} (htg : ∃ is, tg = .tp is) {K : PySem.W.Frag} {M : Addr → Prop} {H : Hp} {a : Addr} {vs : List V} {ds : List D} (h : Rd H a (.lst vs)) (m : ¬ M a) (r : Rels K M H ds vs) :
    Yields tg K M H (Ite K a) (List.zipWith (fun x y => .tuple [x, y]) (rng 0 ds.length) ds) := by
  intro M2 H2 h1 h2 h3 i
  have hs : SqL K H2 a vs := .inl (Rd.ext h m h1 h2).1
  refine ⟨fun hi => ⟨vs, hs, ?_⟩, fun d hd => ?_⟩
  · unfold rng at hi
    rw [List.length_zipWith, List.length_map, List.length_range, r.length] at hi
    omega
  · obtain ⟨x, y, hx, hy, rfl⟩ := zip_get hd
    obtain ⟨v, e2, rv⟩ := (Rels.ext h1 h2 ds vs r).get hy
    refine ⟨⟨vs, v, hs, e2⟩, fun z H3 q => ?_⟩
    obtain ⟨t, v', rfl, hn, rfl, q2⟩ := q
    have := q2 vs hs
    rw [e2] at this
    cases this
    have ex : x = .int (i : Nat) := by
      unfold rng at hx
      rw [List.getElem?_map] at hx
      cases hr : (List.range ds.length)[i]? with
      | none => rw [hr] at hx; cases hx
      | some k =>
        rw [hr] at hx
        obtain ⟨hk, e1⟩ := List.getElem?_eq_some_iff.mp hr
        rw [List.getElem_range] at e1
        cases hx
        rw [e1]
        simp
    subst ex
    exact pair_rel htg h3 hn (by simp only [Rel]) rv
def tI (tg : Tg) (g : G) (p : Ev.M (List D)) : TI := fun σ H R => ∃ c M e, Sr g.K c M σ H e ∧
  Ok g c σ M H e (p e) fun ds M' H' e' => ∀ J, Yields tg g.K M' H' J ds → ds.length ≤ sizeLine → R J H'
end Ev

set_option Elab.async false
set_option linter.all false
set_option maxHeartbeats 4000000
set_option maxRecDepth 100000
/-! enumerate of a tuple -/
namespace PySem
open Sem (wp)
open AutoSeq1 (wpAny_loadPart')
theorem evEnumNew (t : Addr) (xs : Array Value) (k : Nat) (dc : Option Addr) (sl : Array (Option Value)) :
    Meets (Builtin.«enumerate.__new__» ⟨[.type "enumerate", .ref t], []⟩) (fun _ R s => s.heap.get? t = some { cls := .type "tuple", dict := dc, data := .seq xs k, slots := sl } ∧
      R (.ok (.ret (.ref (s.heap.push { cls := .type "tuple_iterator", data := .fields #[.ref t, .int 0 0] }).objs.size)))
        { s with heap := (s.heap.push { cls := .type "tuple_iterator", data := .fields #[.ref t, .int 0 0] }).push { cls := .type "enumerate", data := .fields #[.none, .bool false, .ref s.heap.objs.size, rawInt 0, .none, .none] } }) :=
  .of_wp fun prog w A R s h => by
    obtain ⟨hp, g, d, tk, os⟩ := s
    obtain ⟨ht, h⟩ := h
    have hs0 := sub_enumerate
    have hT : Heap.IsTuple (Shared.heap ⟨hp, g, d, tk, os⟩) t xs := ⟨_, ht, rfl, k, rfl⟩
    wp_walk using wpAny_loadPart' ht
    refine wpAny_stack_any fun st => wpAny_pure ?_
    split
    · rename_i cc _ _ _ _ _
      cases (cc == Value.type "enumerate") <;> (wp_walk using wpAny_loadPart' ht, wpAny_pyIter_tuple hT; exact ⟨_, rfl, h⟩)
    · wp_walk using wpAny_loadPart' ht, wpAny_pyIter_tuple hT
      exact ⟨_, rfl, h⟩
section
variable {prog : Program} {w : World} {A : Around} {E : Value → Shared → Prop} {s : Shared}
theorem evEnum1 {t : Addr} {xs : Array Value} {Q : Value → Shared → Prop} (hT : s.heap.IsTuple t xs)
    (h : ∀ h', IsEnum h' (s.heap.objs.size + 1) s.heap.objs.size 0 .none → h'.IsTupleIter s.heap.objs.size t 0 → h'.objs.size = s.heap.objs.size + 2 →
      (∀ b o, s.heap.get? b = some o → h'.get? b = some o) → Q (.ref (s.heap.objs.size + 1)) { s with heap := h' }) :
    wpAny (model prog w) A (call (.type "enumerate") [.ref t]) Q E s := by
  obtain ⟨⟨c, dc, dt, sl⟩, ho, hc, k, hd⟩ := hT
  have hc' : c = .type "tuple" := hc
  have hd' : dt = .seq xs k := hd
  subst hc' hd'
  refine callType_new F.called_enumerate (by decide) (F.typeCall_enumerate_1 _) (F.newCall_enumerate_1 _) (fun ob => F.args_object_init_2 ob _) F.entry_enumerate_new (evEnumNew t xs k dc sl) ⟨ho, ?_⟩
  have sz : (s.heap.push { cls := .type "tuple_iterator", data := .fields #[.ref t, .int 0 0] }).objs.size = s.heap.objs.size + 1 := Heap.size_push ..
  show _ ∧ _
  rw [sz]
  have hi : IsEnum ((s.heap.push { cls := .type "tuple_iterator", data := .fields #[.ref t, .int 0 0] }).push { cls := .type "enumerate", data := .fields #[.none, .bool false, .ref s.heap.objs.size, rawInt 0, .none, .none] }) (s.heap.objs.size + 1) s.heap.objs.size 0 .none := by
    have q := Heap.get?_push_size (s.heap.push { cls := .type "tuple_iterator", data := .fields #[.ref t, .int 0 0] }) (o := { cls := .type "enumerate", data := .fields #[.none, .bool false, .ref s.heap.objs.size, rawInt 0, .none, .none] }) rfl
    rw [sz] at q
    exact q
  exact ⟨⟨_, hi, rfl⟩, h _ hi ⟨_, Heap.get?_push_of_some _ (Heap.get?_push_size _ rfl), rfl, rfl⟩ (by rw [Heap.size_push, sz]) fun b o x => Heap.get?_push_of_some _ (Heap.get?_push_of_some _ x)⟩
end
end PySem
namespace Ev
open PySem L2 PySem.Spec PyProof.Rows
/-- a tuple's items with their places -/
def IteT (K : PySem.W.Frag) (a : Addr) : It :=
  ⟨fun i H => ∃ (xs : List V) (x : V), SqT K H a xs ∧ xs[i]? = some x, fun i H v H' => ∃ T x, v = .ref T ∧ H T = none ∧ H' = upd H T (.tup [.int (i : Nat), x]) ∧ ∀ xs, SqT K H a xs → xs[i]? = some x, fun i H => ∃ xs : List V, SqT K H a xs ∧ xs.length ≤ i⟩
theorem turn_enumT {P : Program} {w : World} {K : PySem.W.Frag} {elts : List Expr} {kk : Nat} {tpos : Pos} (a e it : Addr) :
    Turn P w K (.Tuple elts kk tpos) (IteT K a) [e, it] e (fun i h => (∃ old, IsEnum h e it ((i : Nat) : Int) old) ∧ h.IsTupleIter it a i ∧ e ≠ it) where
  mem := by simp
  obj := fun i h st b hb => by
    obtain ⟨⟨old, he⟩, ⟨o, ho, hc, hd⟩, _⟩ := st
    have e' : b = e ∨ b = it := by simpa using hb
    rcases e' with z | z
    · rw [z]; exact ⟨_, he, fun v q => nomatch q⟩
    · rw [z]; exact ⟨o, ho, fun v q => by rw [hd] at q; cases q⟩
  keep := fun i h h' st k => let ⟨⟨old, he⟩, hi, hne⟩ := st; ⟨⟨old, k e (by simp) _ he⟩, hi.at fun o q => k it (by simp) o q, hne⟩
  item := by
    intro X hP hw hK hc i pins s σ H E I hf st hg
    subst hP hw hK
    obtain ⟨⟨old, he⟩, hit, hne⟩ := st
    obtain ⟨xs, x, hq, hx⟩ := hg
    obtain ⟨its, rv, p, hz⟩ := I.tuple hq
    obtain ⟨u, hu, ru⟩ := rv.get hx
    have hel : e < s.heap.objs.size := Heap.lt_size he
    have hil : it < s.heap.objs.size := by obtain ⟨_, q, _⟩ := hit; exact Heap.lt_size q
    have hat : a ≠ it := by
      intro q
      obtain ⟨o, ho, hc', hd⟩ := hit
      obtain ⟨o2, ho2, hc2, _⟩ := p
      rw [q, ho] at ho2
      cases ho2
      rw [hc'] at hc2
      simp at hc2
    have hae : e ≠ a := by
      intro q
      obtain ⟨o2, ho2, hc2, _⟩ := p
      rw [← q, show s.heap.get? e = some _ from he] at ho2
      cases ho2
      simp at hc2
    have D := Draws.tuple (prog := X.prog) (w := X.w) (A := X.A.in1) (I.ok.hd hc) it a hat its.toArray
    have hil' : i < its.toArray.size := by
      obtain ⟨q, _⟩ := List.getElem?_eq_some_iff.mp hu
      simpa using q
    refine wpAny_pyNext_enum_itemD D he ⟨hit, p⟩ hil' hne (by simp [hne, hae]) fun u' h' tk hP ho hst hT hsz hk => ?_
    have hu' : u' = u := by
      have : its.toArray[i]? = some u' := hP
      rw [List.getElem?_toArray] at this
      rw [hu] at this
      cases this
      rfl
    subst hu'
    obtain ⟨hit', p'⟩ := hst
    refine ⟨_, rfl, wpAny_letOwnedTupleGo_enum (s := { s with heap := h', toks := tk + 1 }) ho fun h'' he' sb => ?_⟩
    have hT2 : h''.get? s.heap.objs.size = some { cls := .type "tuple", data := .seq #[.int i tk, u'] } := (sb.2 _ (Nat.ne_of_gt hel)).trans hT
    have new : ObjOk X.prog X.w (upd H s.heap.objs.size (.tup [.int (i : Nat), x])) h'' s.heap.objs.size (.tup [.int (i : Nat), x]) :=
      ⟨by show 2 ≤ sizeLine; decide, [.int i tk, u'], .cons (show RelV (.int (i : Nat)) _ from ⟨_, rfl⟩) (.cons ru .nil), ⟨_, hT2, rfl, _, rfl⟩⟩
    have I1 : Inv X pins σ (upd H s.heap.objs.size (.tup [.int (i : Nat), x])) { s with heap := h'', toks := tk + 1 } :=
      I.turnedNew (ch := [e, it]) (fun b ob hb q => (sb.2 b (fun z => hb (by simp [z]))).trans (hk b ob (fun z => hb (by simp [z])) (fun z => hb (by simp [z])) q)) hf (Nat.le_refl _) new
    refine ⟨.ref s.heap.objs.size, _, I1, rfl, ⟨_, x, rfl, I.hok.fresh (Nat.le_refl _), rfl, fun ys hy => by rw [I.tuple_inj hy hq]; exact hx⟩, ⟨⟨u', ?_⟩, hit'.at fun o q => (sb.2 it (Ne.symm hne)).trans q, hne⟩, fun b hb => ?_⟩
    · have e1 : ((i + 1 : Nat) : Int) = (i : Int) + 1 := by omega
      rw [e1]; exact he'
    · have hb' : b < s.heap.objs.size := by
        have e' : b = e ∨ b = it := by simpa using hb
        rcases e' with z | z
        · rw [z]; exact hel
        · rw [z]; exact hil
      rw [upd_ne (Nat.ne_of_lt hb')]
      exact (hf b hb).1
  done := by
    intro X hP hw hK hc i pins s σ H E I hf st hg
    subst hP hw hK
    obtain ⟨⟨old, he⟩, hit, hne⟩ := st
    obtain ⟨xs, hq, hx⟩ := hg
    obtain ⟨its, rv, p, hz⟩ := I.tuple hq
    obtain ⟨f0, f1, f2, f3, f4, f5⟩ := hf it (by simp)
    have hl := rv.length
    have D : Draws X.prog X.w X.A.in1 it [it, a] i (fun _ _ => True) (fun j h => j = i ∧ h.IsTupleIter it a i ∧ h.IsTuple a its.toArray) :=
      { live := fun _ _ q => let ⟨o, ho, _⟩ := q.2.1; ⟨o, ho⟩
        frame := fun _ _ _ q hk => ⟨q.1, q.2.1.at fun o z => hk it (by simp) o z, q.2.2.at fun o z => hk a (by simp) o z⟩
        item := fun j s Q E hj q _ => absurd q.1 (Nat.ne_of_lt hj)
        done := fun s Q E q hE => wpAny_nextOf_tuple_end (I.ok.hd hc) q.2.1 q.2.2 (by simp; omega) hE }
    exact wpAny_pyNext_enum_endD D he ⟨rfl, hit, p⟩ fun h' eb => ⟨rfl, I.turned (t' := s.toks) (fun b o hb q => eb b o hb q) f0 f1 f3 f4 f5⟩
  self := fun A i s Q E st h => let ⟨⟨_, he⟩, _⟩ := st; wpAny_pyIter_enum he h
def iEnumT (K : PySem.W.Frag) (ta : TA) : TI := fun σ H R => ta σ H fun vs H1 => ∃ a xs, vs = [.ref a] ∧ SqT K H1 a xs ∧ R (IteT K a) H1
theorem pi_enumT {X : Cx} {e : Expr} {ta : TA} {p pos tpos : Pos} {elts : List Expr} {kk : Nat} (hg : Gl X "enumerate") (hm : X.mg "enumerate" = none) (ha : PA X [e] ta) (hs : starEach [e] X.env = [(false, eval e X.env)]) :
    PI X (.Tuple elts kk tpos) (.Call (.Name "enumerate" p) [e] [] pos) (iEnumT X.K ta) := by
  refine ⟨fun pins s σ H R I h => ?_⟩
  refine Call_ (ld_blt I hg hm boot_enumerate (PyProof.Rows.callWith_type1 (thn (ha.run pos pins s σ H _ I h) fun us s1 ⟨vs, H1, I1, r1, q1⟩ => ?_) hs rfl))
  obtain ⟨a, xs, ex, hq, q⟩ := q1
  subst ex
  obtain ⟨u, rfl, r⟩ := L2.vals1 r1
  cases r
  obtain ⟨its, rv, p', hz⟩ := I1.tuple hq
  refine evEnum1 p' fun h' he hit hsz hk => wpAny_pyIter_enum he ?_
  have I2 : Inv X pins σ H1 { s1 with heap := h' } := I1.kept (t' := s1.toks) hk
  refine ⟨s1.heap.objs.size + 1, [s1.heap.objs.size + 1, s1.heap.objs.size], _, _, H1, rfl, I2, turn_enumT a (s1.heap.objs.size + 1) s1.heap.objs.size, ⟨⟨.none, he⟩, hit, Nat.succ_ne_self _⟩, fun b hb => ?_, q⟩
  have hle : s1.heap.objs.size ≤ b := by
    simp only [List.mem_cons, List.not_mem_nil, or_false] at hb
    rcases hb with rfl | rfl
    · exact Nat.le_add_right _ _
    · exact Nat.le_refl _
  exact I1.fpOk hle (I1.hok.fresh hle)
theorem yields_enmT {tg : Tg} (htg : ∃ is, tg = .tp is) {K : PySem.W.Frag} {M : Addr → Prop} {H : Hp} {v : V} {ds : List D} (h : Rel K M H (.tuple ds) v) :
    ∃ a vs, v = .ref a ∧ SqT K H a vs ∧ Yields tg K M H (IteT K a) (List.zipWith (fun x y => .tuple [x, y]) (rng 0 ds.length) ds) := by
  have h' := h
  simp only [Rel] at h'
  obtain ⟨a, vs, rfl, q, z, r⟩ := h'
  obtain ⟨a', vs', e', q0, _, r0⟩ := TopV.tuple (.inl h)
  cases e'
  refine ⟨a, vs, rfl, ?_, ?_⟩
  · rcases q with ⟨q, _⟩ | q
    · exact q.sq
    · exact q.sq
  intro M2 H2 h1 h2 h3 i
  have hs : SqT K H2 a vs := by
    rcases q with ⟨q, m⟩ | q
    · exact (FT.ext q m h1 h2).1.sq
    · exact q.sq
  refine ⟨fun hi => ⟨vs, hs, ?_⟩, fun d hd => ?_⟩
  · unfold rng at hi
    rw [List.length_zipWith, List.length_map, List.length_range, r.length] at hi
    omega
  · obtain ⟨x, y, hx, hy, rfl⟩ := zip_get hd
    obtain ⟨v, e2, rv⟩ := (Rels.ext h1 h2 ds vs r).get hy
    refine ⟨⟨vs, v, hs, e2⟩, fun z H3 q => ?_⟩
    obtain ⟨t, v', rfl, hn, rfl, q2⟩ := q
    have := q2 vs hs
    rw [e2] at this
    cases this
    have ex : x = .int (i : Nat) := by
      unfold rng at hx
      rw [List.getElem?_map] at hx
      cases hr : (List.range ds.length)[i]? with
      | none => rw [hr] at hx; cases hx
      | some k =>
        rw [hr] at hx
        obtain ⟨hk, e1⟩ := List.getElem?_eq_some_iff.mp hr
        rw [List.getElem_range] at e1
        cases hx
        rw [e1]
        simp
    subst ex
    exact pair_rel htg h3 hn (by simp only [Rel]) rv
end Ev

set_option Elab.async false
set_option linter.all false
set_option maxHeartbeats 4000000
set_option maxRecDepth 100000
/-! comprehensions -/
namespace Ev
open PySem L2 PySem.Spec

def tD (g : G) (p : Ev.M D) : TE := fun σ H Q => ∃ c M e, Sr g.K c M σ H e ∧
  Ok g c σ M H e (p e) fun d M' H' e' => ∀ v, Rel g.K M' H' d v → Q v H'
section
variable {g : G} {σ : L2.St} {H : Hp}
theorem tD_ok {p : Ev.M Opd} {Q : VK} (h : tD g (tk p) σ H Q) : tE g p σ H Q := by
  obtain ⟨c, M, e, s, h⟩ := h
  refine ⟨c, M, e, s, (Ok.tk s h).imp fun o M1 H1 e1 s1 x1 k1 h1 v r f => ?_⟩
  obtain ⟨d, M2, e2, s2, rd, x2, k2, h2⟩ := h1 v r f
  exact h2 v rd
theorem wipe_wipe {σ : L2.St} {vs : List Nat} : wipe (wipe σ vs) vs = wipe σ vs := by
  apply List.ext_getElem?
  intro j
  by_cases q : j ∈ vs
  · exact wipe_in (wipe_length σ vs) q
  · rw [wipe_get q]
abbrev noW : L2.WX := fun _ _ _ _ => False
/-- a comprehension keeps to its reading -/
theorem lc_ok {own : List Nat} {tg : Tg} {p : Ev.M (List D)} {test : Ev.M Bool} {elt : Ev.M D} {Q : VK} (htg : ∀ i ∈ tgIs tg, i ∈ own) (h : tE g (compM own tg p test elt) σ H Q) :
    tLc (tI tg g p) (gT g.K tg) (tT ⟨g.K, g.mg, noW⟩ test) (tD ⟨g.K, g.mg, noW⟩ elt) own σ H Q := by
  obtain ⟨c, M, e, s, h⟩ := h
  unfold compM at h
  refine ⟨c, M, e, s, (Ok.bind h).imp fun ds M1 H1 e1 s1 x1 k1 h1 J Y hz Dd hD => ?_⟩
  cases hw : wipeF e1 own with
  | none => rw [hw] at h1; exact h1.elim
  | some e0 =>
  rw [hw] at h1
  simp only at h1
  cases hl : lcLoop (turnM tg test elt) own ds [] e0 with
  | stuck => rw [hl] at h1; exact h1.elim
  | exc cn d e3 => rw [hl] at h1; exact h1.elim
  | ok ys e3 =>
  rw [hl] at h1
  simp only at h1
  obtain ⟨sw, l0, o0, i0, n0⟩ := wipeF_ok hw s1
  obtain ⟨sL, xL⟩ := sw.layM hD (.lst [])
  have wrD : ∀ b, Wr (wipe σ own) e0 b → b ≠ Dd := fun b w z => sw.mh b (sw.wr w) (by rw [z]; exact hD)
  refine ⟨fun i m H' => m = ds.length - i ∧ i ≤ ds.length ∧ ∃ M' ei acc accv, Sr g.K c M' (wipe σ own) H' ei ∧ Xw (Wr (wipe σ own) e0) M1 H1 M' H' (Wr (wipe σ own) ei) ∧ Keeps e0 ei ∧ ei.length = e0.length ∧ H' Dd = some (.lst accv) ∧ Rels g.K M' H' acc accv ∧ M' Dd ∧ acc.length ≤ i ∧ lcLoop (turnM tg test elt) own (ds.drop i) acc ei = .ok ys e3,
    ⟨ds.length, by simp, Nat.zero_le _, _, e0, [], [], sL, xL.xw, .refl, rfl, upd_same, Rels.nil, .inr rfl, Nat.le_refl _, by simpa using hl⟩, fun i m H' hW => ?_⟩
  obtain ⟨rfl, hi, M', ei, acc, accv, s', x', k', le', hD', ra, mD, la, lp⟩ := hW
  have frz : ∀ b x, H1 b = some x → ¬ M1 b → H' b = some x := fun b x q m => x'.e1 b x q fun w => m (sw.wr w)
  obtain ⟨ystop, yitem⟩ := Y M' H' frz x'.e2 s'.mh i
  have wD : ¬ Wr (wipe σ own) ei Dd := fun w => wrD Dd (x'.e4 Dd w) rfl
  by_cases hlt : i < ds.length
  · right
    have hd : ds[i]? = some ds[i] := List.getElem?_eq_getElem hlt
    obtain ⟨ygo, yyld⟩ := yitem _ hd
    refine ⟨ygo, fun H'' => ∃ m', m' < ds.length - i ∧ m' = ds.length - (i + 1) ∧ i + 1 ≤ ds.length ∧ ∃ M' ei acc accv, Sr g.K c M' (wipe σ own) H'' ei ∧ Xw (Wr (wipe σ own) e0) M1 H1 M' H'' (Wr (wipe σ own) ei) ∧ Keeps e0 ei ∧ ei.length = e0.length ∧ H'' Dd = some (.lst accv) ∧ Rels g.K M' H'' acc accv ∧ M' Dd ∧ acc.length ≤ i + 1 ∧ lcLoop (turnM tg test elt) own (ds.drop (i + 1)) acc ei = .ok ys e3,
      fun H'' q => q, fun x H3 y => ?_⟩
    obtain ⟨up, rx⟩ := yyld x H3 y
    rw [List.drop_eq_getElem_cons hlt] at lp
    simp only [lcLoop] at lp
    cases ht : turnM tg test elt ds[i] ei with
    | stuck => rw [ht] at lp; cases lp
    | exc cn d e4 => rw [ht] at lp; cases lp
    | ok r e4 =>
    rw [ht] at lp
    simp only at lp
    cases hw4 : wipeF e4 own with
    | none => rw [hw4] at lp; cases lp
    | some e5 =>
    rw [hw4] at lp
    simp only at lp
    unfold turnM at ht
    cases hb : bindTg tg ds[i] ei with
    | none => rw [hb] at ht; cases ht
    | some eb =>
    rw [hb] at ht
    simp only [Ev.M.bind] at ht
    obtain ⟨sg, _⟩ := s'.grow up
    refine bind_ok sg hb rx fun σ' sb same wb kb lb => ?_
    have ew : wipe σ' own = wipe σ own := by
      rw [wipe_same (σ := wipe σ own) (by rw [sg.len, sb.len, lb]) fun j hj => same j fun z => hj (htg j z), wipe_wipe]
    refine ⟨ew, ?_⟩
    -- the state ahead of the test, from the start
    have x3 : Xw (Wr (wipe σ own) e0) M1 H1 M' H3 (Wr σ' eb) := x'.trans (Xw.grow up wb)
    have hD3 : H3 Dd = some (.lst accv) := up _ _ hD'
    have ra3 : Rels g.K M' H3 acc accv := Rels.ext (fun b z q _ => up b z q) (fun b q => .inl q) _ _ ra
    have h0D : c.H0 Dd = none := s1.born hD
    have wDb : ¬ Wr σ' eb Dd := fun w => wD (wb Dd w)
    have close : ∀ (M5 : Addr → Prop) (H5 : Hp) (acc5 : List D) (accv5 : List V), Sr g.K c M5 σ' H5 e4 → Xw (Wr (wipe σ own) e0) M1 H1 M5 H5 (Wr σ' e4) → Keeps eb e4 → H5 Dd = some (.lst accv5) → Rels g.K M5 H5 acc5 accv5 → M5 Dd → acc5.length ≤ i + 1 →
        lcLoop (turnM tg test elt) own (ds.drop (i + 1)) acc5 e5 = .ok ys e3 → ∃ m', m' < ds.length - i ∧ m' = ds.length - (i + 1) ∧ i + 1 ≤ ds.length ∧ ∃ M' ei acc accv, Sr g.K c M' (wipe σ own) H5 ei ∧ Xw (Wr (wipe σ own) e0) M1 H1 M' H5 (Wr (wipe σ own) ei) ∧ Keeps e0 ei ∧ ei.length = e0.length ∧ H5 Dd = some (.lst accv) ∧ Rels g.K M' H5 acc accv ∧ M' Dd ∧ acc.length ≤ i + 1 ∧ lcLoop (turnM tg test elt) own (ds.drop (i + 1)) acc ei = .ok ys e3 := by
      intro M5 H5 acc5 accv5 s5 x5 k5 hd5 r5 m5 l5 lp5
      obtain ⟨q1, q2, q3, q4, q5⟩ := wipeF_ok hw4 s5
      rw [ew] at q1
      refine ⟨_, by omega, rfl, hlt, M5, e5, acc5, accv5, q1, x5.trans (Xw.same fun b ⟨j, l, d, z1, z2⟩ => ?_), fun j t z1 z2 => ?_, ?_, hd5, r5, m5, l5, lp5⟩
      · by_cases hj : j ∈ own
        · cases q4 j hj _ z1
        · refine ⟨j, l, d, by rw [← q3 j hj]; exact z1, ?_⟩
          rw [← ew, wipe_get hj] at z2
          exact z2
      · by_cases hj : j ∈ own
        · exact absurd (i0 j hj t z1) z2
        · obtain ⟨t1, y1, y2⟩ := (k'.trans (kb.trans k5)) j t z1 z2
          exact ⟨t1, by rw [q3 j hj]; exact y1, y2⟩
      · have a1 := s5.len
        have a2 := q1.len
        have a3 := sw.len
        rw [wipe_length] at a2 a3
        omega
    refine ⟨c, M', eb, sb, ?_⟩
    cases htest : test eb with
    | stuck => rw [htest] at ht; cases ht
    | exc cn d e6 => rw [htest] at ht; cases ht
    | ok t e6 =>
    rw [htest] at ht
    simp only at ht
    intro M4 H4 s4 x4 k4
    have x4' : Xw (Wr (wipe σ own) e0) M1 H1 M4 H4 (Wr σ' e6) := x3.trans x4.xw
    have hD4 : H4 Dd = some (.lst accv) := x4.e1 _ _ hD3 wDb
    have ra4 : Rels g.K M4 H4 acc accv := sb.rels x4 ra3
    have mD4 : M4 Dd := x4.e3 _ mD wDb
    have wD4 : ¬ Wr σ' e6 Dd := fun w => wDb (x4.e4 _ w)
    cases t with
    | false =>
      refine iteF ?_
      rw [if_neg Bool.false_ne_true] at ht
      cases ht
      exact close M4 H4 acc accv s4 x4' k4 hD4 ra4 mD4 (by omega) lp
    | true =>
      refine iteT ?_
      rw [if_pos rfl] at ht
      simp only [Ev.M.map, Ev.M.bind] at ht
      refine ⟨c, M4, e6, s4, ?_⟩
      cases hel : elt e6 with
      | stuck => rw [hel] at ht; cases ht
      | exc cn d e7 => rw [hel] at ht; cases ht
      | ok y e7 =>
      rw [hel] at ht
      cases ht
      intro M5 H5 s5 x5 k5 v rv
      have hD5 : H5 Dd = some (.lst accv) := x5.e1 _ _ hD4 wD4
      have mD5 : M5 Dd := x5.e3 _ mD4 wD4
      have wD5 : ¬ Wr σ' e4 Dd := fun w => wD4 (x5.e4 _ w)
      have ra5 : Rels g.K M5 H5 acc accv := s4.rels x5 ra4
      refine ⟨accv, hD5, by rw [← ra5.length]; omega, ?_⟩
      have hk : ∀ b x, H5 b = some x → ¬ M5 b → upd H5 Dd (.lst (accv ++ [v])) b = some x := fun b x q m => by
        rw [upd_ne fun z => m (by rw [z]; exact mD5)]; exact q
      refine close M5 _ (acc ++ [y]) (accv ++ [v]) (s5.poke hD5 mD5 h0D wD5) ?_ (k4.trans k5) upd_same (Rels.ext hk (fun b q => .inl q) _ _ (ra5.append (Rels.cons rv Rels.nil))) mD5 (by simp; omega) lp
      have X := x4'.trans x5.xw
      refine ⟨fun b z q w => ?_, X.e2, X.e3, X.e4, fun b q => upd_some b (X.e5 b q)⟩
      rw [upd_ne fun y => by rw [y, hD] at q; cases q]
      exact X.e1 b z q w
  · left
    have he : i = ds.length := by omega
    subst he
    rw [List.drop_length] at lp
    cases lp
    refine ⟨ystop (Nat.le_refl _), ?_⟩
    obtain ⟨q1, q2, q3⟩ := s1.back hw s' x'.ext k' le'
    refine h1 M' H' q1 q2 q3 (.ref Dd) ⟨Dd, rfl, mD, ⟨accv, hD', by omega, ra⟩, s1.born hD, fun w => ?_⟩ ?_
    · exact s1.mh _ (s1.wr (q2.e4 _ w)) hD
    · intro a q
      cases q
      cases z : H Dd with
      | none => rfl
      | some o => exact absurd hD (x1.e5 Dd (by rw [z]; exact fun w => nomatch w))
end
end Ev

set_option Elab.async false
set_option linter.all false
set_option maxHeartbeats 4000000
set_option maxRecDepth 100000
/-! comprehensions of two fors -/
namespace Ev
open PySem L2 PySem.Spec
theorem lcLoop_len {turn : D → Ev.M (Option D)} {own : List Nat} : ∀ {ds acc ys : List D} {e e1 : Fm}, lcLoop turn own ds acc e = .ok ys e1 → acc.length ≤ ys.length
  | [], acc, ys, e, e1, h => by cases h; exact Nat.le_refl _
  | d :: ds, acc, ys, e, e1, h => by
    simp only [lcLoop] at h
    cases ht : turn d e with
    | stuck => rw [ht] at h; cases h
    | exc cn d e4 => rw [ht] at h; cases h
    | ok r e4 =>
      rw [ht] at h
      simp only at h
      cases hw : wipeF e4 own with
      | none => rw [hw] at h; cases h
      | some e5 =>
        rw [hw] at h
        have := lcLoop_len h
        cases r with
        | none => exact this
        | some y => rw [List.length_append] at this; omega
theorem lcLoop2_len {turn : D → List D → Ev.M (List D)} {own : List Nat} (hturn : ∀ d acc e acc' e1, turn d acc e = .ok acc' e1 → acc.length ≤ acc'.length) : ∀ {ds acc ys : List D} {e e1 : Fm}, lcLoop2 turn own ds acc e = .ok ys e1 → acc.length ≤ ys.length
  | [], acc, ys, e, e1, h => by cases h; exact Nat.le_refl _
  | d :: ds, acc, ys, e, e1, h => by
    simp only [lcLoop2] at h
    cases ht : turn d acc e with
    | stuck => rw [ht] at h; cases h
    | exc cn d e4 => rw [ht] at h; cases h
    | ok r e4 =>
      rw [ht] at h
      simp only at h
      cases hw : wipeF e4 own with
      | none => rw [hw] at h; cases h
      | some e5 =>
        rw [hw] at h
        exact Nat.le_trans (hturn _ _ _ _ _ ht) (lcLoop2_len hturn h)
theorem innM_len {vs : List Nat} {tg : Tg} {p : Ev.M (List D)} {test : Ev.M Bool} {elt : Ev.M D} {acc acc' : List D} {e e1 : Fm} (h : innM vs tg p test elt acc e = .ok acc' e1) : acc.length ≤ acc'.length := by
  unfold innM at h
  simp only [Ev.M.bind] at h
  cases hp : p e with
  | stuck => rw [hp] at h; cases h
  | exc cn d e4 => rw [hp] at h; cases h
  | ok r e4 =>
    rw [hp] at h
    simp only at h
    cases hw : wipeF e4 vs with
    | none => rw [hw] at h; cases h
    | some e5 =>
      rw [hw] at h
      exact lcLoop_len h
theorem turn2_len {tg : Tg} {test : Ev.M Bool} {inner : List D → Ev.M (List D)} (hi : ∀ acc e acc' e1, inner acc e = .ok acc' e1 → acc.length ≤ acc'.length) : ∀ (d : D) (acc : List D) (e : Fm) (acc' : List D) (e1 : Fm), turn2 tg test inner d acc e = .ok acc' e1 → acc.length ≤ acc'.length := by
  intro d acc e acc' e1 h
  unfold turn2 at h
  cases hb : bindTg tg d e with
  | none => rw [hb] at h; cases h
  | some eb =>
    rw [hb] at h
    simp only [Ev.M.bind] at h
    cases ht : test eb with
    | stuck => rw [ht] at h; cases h
    | exc cn d e4 => rw [ht] at h; cases h
    | ok t e4 =>
      rw [ht] at h
      cases t with
      | true => exact hi _ _ _ _ (by simpa using h)
      | false =>
        simp only [Bool.false_eq_true, if_false] at h
        cases h
        exact Nat.le_refl _
/-- what is behind one list that grows, from ahead of it -/
theorem Xw.hole {w w1 w2 M M1 M2 : Addr → Prop} {H H1 H2 : Hp} {Dd : Addr} (x : Xw w M H M1 H1 w1) (y : Xw (fun b => w1 b ∨ b = Dd) M1 H1 M2 H2 (fun b => w2 b ∨ b = Dd)) (hD : H Dd = none) (hm : ∀ b, M b → H b ≠ none) (h2 : ¬ w2 Dd) : Xw w M H M2 H2 w2 where
  e1 := fun b z h q => y.e1 b z (x.e1 b z h q) fun r => r.elim (fun r => q (x.e4 b r)) (fun r => by rw [r, hD] at h; cases h)
  e2 := fun b h => by
    rcases y.e2 b h with q | q
    · exact x.e2 b q
    · cases z : H b with
      | none => exact .inr rfl
      | some o => exact absurd q (x.e5 b (by rw [z]; exact fun w => nomatch w))
  e3 := fun b h q => y.e3 b (x.e3 b h q) fun r => r.elim (fun r => q (x.e4 b r)) (fun r => hm b h (by rw [r]; exact hD))
  e4 := fun b h => x.e4 b ((y.e4 b (.inl h)).resolve_right fun z => h2 (by rw [← z]; exact h))
  e5 := fun b h => y.e5 b (x.e5 b h)
section
variable {g : G} {σ : L2.St} {H : Hp}
/-- a comprehension of two fors keeps to its reading -/
theorem lc2_ok {own vs : List Nat} {tg tg' : Tg} {p p' : Ev.M (List D)} {test test' : Ev.M Bool} {elt : Ev.M D} {Q : VK} (htg : ∀ i ∈ tgIs tg, i ∈ own) (hvs : ∀ i ∈ vs, i ∈ own) (htg' : ∀ i ∈ tgIs tg', i ∈ vs) (h : tE g (compM2 own vs tg p test tg' p' test' elt) σ H Q) :
    tLc2 (tI tg g p) (gT g.K tg) (tT ⟨g.K, g.mg, noW⟩ test) (tI tg' ⟨g.K, g.mg, noW⟩ p') (gT g.K tg') (tT ⟨g.K, g.mg, noW⟩ test') (tD ⟨g.K, g.mg, noW⟩ elt) own vs σ H Q := by
  obtain ⟨c, M, e, s, h⟩ := h
  unfold compM2 at h
  refine ⟨c, M, e, s, (Ok.bind h).imp fun ds M1 H1 e1 s1 x1 k1 h1 J Y hz Dd hD => ?_⟩
  cases hw : wipeF e1 own with
  | none => rw [hw] at h1; exact h1.elim
  | some e0 =>
  rw [hw] at h1
  simp only at h1
  cases hl : lcLoop2 (turn2 tg test (innM vs tg' p' test' elt)) own ds [] e0 with
  | stuck => rw [hl] at h1; exact h1.elim
  | exc cn d e3 => rw [hl] at h1; exact h1.elim
  | ok ys e3 =>
  rw [hl] at h1
  simp only at h1
  by_cases hzy : ys.length ≤ sizeLine
  case neg => rw [if_neg hzy] at h1; exact h1.elim
  rw [if_pos hzy] at h1
  obtain ⟨sw, l0, o0, i0, n0⟩ := wipeF_ok hw s1
  obtain ⟨sL, xL⟩ := sw.layM hD (.lst [])
  have wrD : ∀ b, Wr (wipe σ own) e0 b → b ≠ Dd := fun b w z => sw.mh b (sw.wr w) (by rw [z]; exact hD)
  have tlen := turn2_len (tg := tg) (test := test) (inner := innM vs tg' p' test' elt) fun acc e acc' e1 => innM_len
  refine ⟨fun i m H' => m = ds.length - i ∧ i ≤ ds.length ∧ ∃ M' ei acc accv, Sr g.K c M' (wipe σ own) H' ei ∧ Xw (Wr (wipe σ own) e0) M1 H1 M' H' (Wr (wipe σ own) ei) ∧ Keeps e0 ei ∧ ei.length = e0.length ∧ H' Dd = some (.lst accv) ∧ Rels g.K M' H' acc accv ∧ M' Dd ∧ lcLoop2 (turn2 tg test (innM vs tg' p' test' elt)) own (ds.drop i) acc ei = .ok ys e3,
    ⟨ds.length, by simp, Nat.zero_le _, _, e0, [], [], sL, xL.xw, .refl, rfl, upd_same, Rels.nil, .inr rfl, by simpa using hl⟩, fun i m H' hW => ?_⟩
  obtain ⟨rfl, hi, M', ei, acc, accv, s', x', k', le', hD', ra, mD, lp⟩ := hW
  have frz : ∀ b x, H1 b = some x → ¬ M1 b → H' b = some x := fun b x q m => x'.e1 b x q fun w => m (sw.wr w)
  obtain ⟨ystop, yitem⟩ := Y M' H' frz x'.e2 s'.mh i
  have wD : ¬ Wr (wipe σ own) ei Dd := fun w => wrD Dd (x'.e4 Dd w) rfl
  by_cases hlt : i < ds.length
  · right
    have hd : ds[i]? = some ds[i] := List.getElem?_eq_getElem hlt
    obtain ⟨ygo, yyld⟩ := yitem _ hd
    refine ⟨ygo, fun H'' => ∃ m', m' < ds.length - i ∧ m' = ds.length - (i + 1) ∧ i + 1 ≤ ds.length ∧ ∃ M' ei acc accv, Sr g.K c M' (wipe σ own) H'' ei ∧ Xw (Wr (wipe σ own) e0) M1 H1 M' H'' (Wr (wipe σ own) ei) ∧ Keeps e0 ei ∧ ei.length = e0.length ∧ H'' Dd = some (.lst accv) ∧ Rels g.K M' H'' acc accv ∧ M' Dd ∧ lcLoop2 (turn2 tg test (innM vs tg' p' test' elt)) own (ds.drop (i + 1)) acc ei = .ok ys e3,
      fun H'' q => q, fun x H3 y => ?_⟩
    obtain ⟨up, rx⟩ := yyld x H3 y
    rw [List.drop_eq_getElem_cons hlt] at lp
    simp only [lcLoop2] at lp
    cases ht : turn2 tg test (innM vs tg' p' test' elt) ds[i] acc ei with
    | stuck => rw [ht] at lp; cases lp
    | exc cn d e4 => rw [ht] at lp; cases lp
    | ok acc' e4 =>
    rw [ht] at lp
    simp only at lp
    cases hw4 : wipeF e4 own with
    | none => rw [hw4] at lp; cases lp
    | some e5 =>
    rw [hw4] at lp
    simp only at lp
    unfold turn2 at ht
    cases hb : bindTg tg ds[i] ei with
    | none => rw [hb] at ht; cases ht
    | some eb =>
    rw [hb] at ht
    simp only [Ev.M.bind] at ht
    obtain ⟨sg, _⟩ := s'.grow up
    refine bind_ok sg hb rx fun σ' sb same wb kb lb => ?_
    have ew : wipe σ' own = wipe σ own := by
      rw [wipe_same (σ := wipe σ own) (by rw [sg.len, sb.len, lb]) fun j hj => same j fun z => hj (htg j z), wipe_wipe]
    refine ⟨ew, ?_⟩
    have x3 : Xw (Wr (wipe σ own) e0) M1 H1 M' H3 (Wr σ' eb) := x'.trans (Xw.grow up wb)
    have hD3 : H3 Dd = some (.lst accv) := up _ _ hD'
    have ra3 : Rels g.K M' H3 acc accv := Rels.ext (fun b z q _ => up b z q) (fun b q => .inl q) _ _ ra
    have h0D : c.H0 Dd = none := s1.born hD
    have wDb : ¬ Wr σ' eb Dd := fun w => wD (wb Dd w)
    have close : ∀ (σ9 : L2.St) (M5 : Addr → Prop) (H5 : Hp) (accv5 : List V), wipe σ9 own = wipe σ own → Sr g.K c M5 σ9 H5 e4 → Xw (Wr (wipe σ own) e0) M1 H1 M5 H5 (Wr σ9 e4) → (∀ j, j ∉ own → ∀ t, eb[j]? = some t → t ≠ Slot.un → ∃ t', e4[j]? = some t' ∧ t' ≠ Slot.un) → H5 Dd = some (.lst accv5) → Rels g.K M5 H5 acc' accv5 → M5 Dd →
        ∃ m', m' < ds.length - i ∧ m' = ds.length - (i + 1) ∧ i + 1 ≤ ds.length ∧ ∃ M' ei acc accv, Sr g.K c M' (wipe σ own) H5 ei ∧ Xw (Wr (wipe σ own) e0) M1 H1 M' H5 (Wr (wipe σ own) ei) ∧ Keeps e0 ei ∧ ei.length = e0.length ∧ H5 Dd = some (.lst accv) ∧ Rels g.K M' H5 acc accv ∧ M' Dd ∧ lcLoop2 (turn2 tg test (innM vs tg' p' test' elt)) own (ds.drop (i + 1)) acc ei = .ok ys e3 := by
      intro σ9 M5 H5 accv5 ew9 s5 x5 k5 hd5 r5 m5
      obtain ⟨q1, q2, q3, q4, q5⟩ := wipeF_ok hw4 s5
      rw [ew9] at q1
      refine ⟨_, by omega, rfl, hlt, M5, e5, acc', accv5, q1, x5.trans (Xw.same fun b ⟨j, l, d, z1, z2⟩ => ?_), fun j t z1 z2 => ?_, ?_, hd5, r5, m5, lp⟩
      · by_cases hj : j ∈ own
        · cases q4 j hj _ z1
        · refine ⟨j, l, d, by rw [← q3 j hj]; exact z1, ?_⟩
          rw [← ew9, wipe_get hj] at z2
          exact z2
      · by_cases hj : j ∈ own
        · exact absurd (i0 j hj t z1) z2
        · obtain ⟨t1, y1, y2⟩ := (k'.trans kb) j t z1 z2
          obtain ⟨t1, y1, y2⟩ := k5 j hj t1 y1 y2
          exact ⟨t1, by rw [q3 j hj]; exact y1, y2⟩
      · have a2 := q1.len
        have a3 := sw.len
        omega
    refine ⟨c, M', eb, sb, ?_⟩
    cases htest : test eb with
    | stuck => rw [htest] at ht; cases ht
    | exc cn d e6 => rw [htest] at ht; cases ht
    | ok t e6 =>
    rw [htest] at ht
    simp only at ht
    intro M4 H4 s4 x4 k4
    have x4' : Xw (Wr (wipe σ own) e0) M1 H1 M4 H4 (Wr σ' e6) := x3.trans x4.xw
    have hD4 : H4 Dd = some (.lst accv) := x4.e1 _ _ hD3 wDb
    have ra4 : Rels g.K M4 H4 acc accv := sb.rels x4 ra3
    have mD4 : M4 Dd := x4.e3 _ mD wDb
    have wD4 : ¬ Wr σ' e6 Dd := fun w => wDb (x4.e4 _ w)
    cases t with
    | false =>
      refine iteF ?_
      rw [if_neg Bool.false_ne_true] at ht
      cases ht
      exact close σ' M4 H4 accv ew s4 x4' (fun j _ => k4 j) hD4 ra4 mD4
    | true =>
      refine iteT ?_
      rw [if_pos rfl] at ht
      unfold innM at ht
      simp only [Ev.M.bind] at ht
      refine ⟨c, M4, e6, s4, ?_⟩
      cases hp : p' e6 with
      | stuck => rw [hp] at ht; cases ht
      | exc cn d e7 => rw [hp] at ht; cases ht
      | ok ds1 e7 =>
      rw [hp] at ht
      simp only at ht
      cases hw8 : wipeF e7 vs with
      | none => rw [hw8] at ht; cases ht
      | some e8 =>
      rw [hw8] at ht
      simp only at ht
      intro M5 H5 s5 x5 k5 J1 Y1 hz1
      have hD5 : H5 Dd = some (.lst accv) := x5.e1 _ _ hD4 wD4
      have mD5 : M5 Dd := x5.e3 _ mD4 wD4
      have wD5 : ¬ Wr σ' e7 Dd := fun w => wD4 (x5.e4 _ w)
      have ra5 : Rels g.K M5 H5 acc accv := s4.rels x5 ra4
      obtain ⟨sv, lv, ov, iv, nv⟩ := wipeF_ok hw8 s5
      have wr8 : ∀ b, Wr (wipe σ' vs) e8 b → Wr σ' e7 b := fun b ⟨j, l, d, z1, z2⟩ => by
        by_cases q : j ∈ vs
        · cases iv j q _ z1
        · exact ⟨j, l, d, by rw [← ov j q]; exact z1, by rw [← wipe_get q]; exact z2⟩
      have x8 : Xw (Wr (wipe σ own) e0) M1 H1 M5 H5 (Wr (wipe σ' vs) e8) := (x4'.trans x5.xw).trans (Xw.same wr8)
      have ew8 : wipe (wipe σ' vs) own = wipe σ own := by
        rw [← ew]
        exact wipe_same (wipe_length _ _).symm fun j hj => wipe_get fun z => hj (hvs j z)
      refine ⟨fun j k H' => k = ds1.length - j ∧ j ≤ ds1.length ∧ ∃ M' ei acc accv, Sr g.K c M' (wipe σ' vs) H' ei ∧ Xw (fun b => Wr (wipe σ' vs) e8 b ∨ b = Dd) M5 H5 M' H' (fun b => Wr (wipe σ' vs) ei b ∨ b = Dd) ∧ Keeps e8 ei ∧ ei.length = e8.length ∧ H' Dd = some (.lst accv) ∧ Rels g.K M' H' acc accv ∧ M' Dd ∧ ¬ Wr (wipe σ' vs) ei Dd ∧ lcLoop (turnM tg' test' elt) vs (ds1.drop j) acc ei = .ok acc' e4,
        ⟨ds1.length, by simp, Nat.zero_le _, M5, e8, acc, accv, sv, Xw.same fun b q => q, .refl, rfl, hD5, ra5, mD5, fun w => wD5 (wr8 _ w), by simpa using ht⟩, fun j k H6 hW1 => ?_⟩
      obtain ⟨rfl, hj, M6, ej, acc6, accv6, s6, x6, k6, le6, hD6, ra6, mD6, wD6, lp6⟩ := hW1
      obtain ⟨ystop1, yitem1⟩ := Y1 M6 H6 (fun b x q m => x6.e1 b x q fun w => w.elim (fun w => m (sv.wr w)) (fun w => m (by rw [w]; exact mD5))) x6.e2 s6.mh j
      by_cases hlt1 : j < ds1.length
      · right
        have hd1 : ds1[j]? = some ds1[j] := List.getElem?_eq_getElem hlt1
        obtain ⟨ygo1, yyld1⟩ := yitem1 _ hd1
        refine ⟨ygo1, fun H'' => ∃ k', k' < ds1.length - j ∧ k' = ds1.length - (j + 1) ∧ j + 1 ≤ ds1.length ∧ ∃ M' ei acc accv, Sr g.K c M' (wipe σ' vs) H'' ei ∧ Xw (fun b => Wr (wipe σ' vs) e8 b ∨ b = Dd) M5 H5 M' H'' (fun b => Wr (wipe σ' vs) ei b ∨ b = Dd) ∧ Keeps e8 ei ∧ ei.length = e8.length ∧ H'' Dd = some (.lst accv) ∧ Rels g.K M' H'' acc accv ∧ M' Dd ∧ ¬ Wr (wipe σ' vs) ei Dd ∧ lcLoop (turnM tg' test' elt) vs (ds1.drop (j + 1)) acc ei = .ok acc' e4,
          fun H'' q => q, fun x1 H7 y1 => ?_⟩
        obtain ⟨up1, rx1⟩ := yyld1 x1 H7 y1
        rw [List.drop_eq_getElem_cons hlt1] at lp6
        simp only [lcLoop] at lp6
        cases ht1 : turnM tg' test' elt ds1[j] ej with
        | stuck => rw [ht1] at lp6; cases lp6
        | exc cn d e9 => rw [ht1] at lp6; cases lp6
        | ok r e9 =>
        rw [ht1] at lp6
        simp only at lp6
        cases hw9 : wipeF e9 vs with
        | none => rw [hw9] at lp6; cases lp6
        | some e10 =>
        rw [hw9] at lp6
        simp only at lp6
        unfold turnM at ht1
        cases hb1 : bindTg tg' ds1[j] ej with
        | none => rw [hb1] at ht1; cases ht1
        | some eb1 =>
        rw [hb1] at ht1
        simp only [Ev.M.bind] at ht1
        obtain ⟨sg1, _⟩ := s6.grow up1
        refine bind_ok sg1 hb1 rx1 fun σ3 sb1 same1 wb1 kb1 lb1 => ?_
        have ew1 : wipe σ3 vs = wipe σ' vs := by
          rw [wipe_same (σ := wipe σ' vs) (by rw [sg1.len, sb1.len, lb1]) fun q hq => same1 q fun z => hq (htg' q z), wipe_wipe]
        refine ⟨ew1, ?_⟩
        have x7 : Xw (fun b => Wr (wipe σ' vs) e8 b ∨ b = Dd) M5 H5 M6 H7 (fun b => Wr σ3 eb1 b ∨ b = Dd) := x6.trans (Xw.grow up1 fun b q => q.imp (wb1 b) id)
        have hD7 : H7 Dd = some (.lst accv6) := up1 _ _ hD6
        have ra7 : Rels g.K M6 H7 acc6 accv6 := Rels.ext (fun b z q _ => up1 b z q) (fun b q => .inl q) _ _ ra6
        have wDb1 : ¬ Wr σ3 eb1 Dd := fun w => wD6 (wb1 Dd w)
        have close1 : ∀ (M9 : Addr → Prop) (H9 : Hp) (acc9 : List D) (accv9 : List V), Sr g.K c M9 σ3 H9 e9 → Xw (fun b => Wr (wipe σ' vs) e8 b ∨ b = Dd) M5 H5 M9 H9 (fun b => Wr σ3 e9 b ∨ b = Dd) → Keeps eb1 e9 → H9 Dd = some (.lst accv9) → Rels g.K M9 H9 acc9 accv9 → M9 Dd → ¬ Wr σ3 e9 Dd →
            lcLoop (turnM tg' test' elt) vs (ds1.drop (j + 1)) acc9 e10 = .ok acc' e4 → ∃ k', k' < ds1.length - j ∧ k' = ds1.length - (j + 1) ∧ j + 1 ≤ ds1.length ∧ ∃ M' ei acc accv, Sr g.K c M' (wipe σ' vs) H9 ei ∧ Xw (fun b => Wr (wipe σ' vs) e8 b ∨ b = Dd) M5 H5 M' H9 (fun b => Wr (wipe σ' vs) ei b ∨ b = Dd) ∧ Keeps e8 ei ∧ ei.length = e8.length ∧ H9 Dd = some (.lst accv) ∧ Rels g.K M' H9 acc accv ∧ M' Dd ∧ ¬ Wr (wipe σ' vs) ei Dd ∧ lcLoop (turnM tg' test' elt) vs (ds1.drop (j + 1)) acc ei = .ok acc' e4 := by
          intro M9 H9 acc9 accv9 s9 x9 k9 hd9 r9 m9 w9 lp9
          obtain ⟨q1, q2, q3, q4, q5⟩ := wipeF_ok hw9 s9
          rw [ew1] at q1
          have wr9 : ∀ b, Wr (wipe σ' vs) e10 b → Wr σ3 e9 b := fun b ⟨i, l, d, z1, z2⟩ => by
            by_cases hi : i ∈ vs
            · cases q4 i hi _ z1
            · refine ⟨i, l, d, by rw [← q3 i hi]; exact z1, ?_⟩
              rw [← ew1, wipe_get hi] at z2
              exact z2
          refine ⟨_, by omega, rfl, hlt1, M9, e10, acc9, accv9, q1, x9.trans (Xw.same fun b q => q.imp (wr9 b) id), fun i t z1 z2 => ?_, ?_, hd9, r9, m9, fun w => w9 (wr9 _ w), lp9⟩
          · by_cases hi : i ∈ vs
            · exact absurd (iv i hi t z1) z2
            · obtain ⟨t1, y1, y2⟩ := (k6.trans (kb1.trans k9)) i t z1 z2
              exact ⟨t1, by rw [q3 i hi]; exact y1, y2⟩
          · have a2 := q1.len
            have a3 := sv.len
            omega
        refine ⟨c, M6, eb1, sb1, ?_⟩
        cases htest1 : test' eb1 with
        | stuck => rw [htest1] at ht1; cases ht1
        | exc cn d e6 => rw [htest1] at ht1; cases ht1
        | ok t e11 =>
        rw [htest1] at ht1
        simp only at ht1
        intro M7 H8 s8 x8' k8
        have xe8 : Xw (fun b => Wr σ3 eb1 b ∨ b = Dd) M6 H7 M7 H8 (fun b => Wr σ3 e11 b ∨ b = Dd) := ⟨fun b z q w => x8'.e1 b z q fun y => w (.inl y), x8'.e2, fun b q w => x8'.e3 b q fun y => w (.inl y), fun b q => q.imp (x8'.e4 b) id, x8'.e5⟩
        have x9 := x7.trans xe8
        have hD8 : H8 Dd = some (.lst accv6) := x8'.e1 _ _ hD7 wDb1
        have ra8 : Rels g.K M7 H8 acc6 accv6 := sb1.rels x8' ra7
        have mD8 : M7 Dd := x8'.e3 _ mD6 wDb1
        have wD8 : ¬ Wr σ3 e11 Dd := fun w => wDb1 (x8'.e4 _ w)
        cases t with
        | false =>
          refine iteF ?_
          rw [if_neg Bool.false_ne_true] at ht1
          cases ht1
          exact close1 M7 H8 acc6 accv6 s8 x9 k8 hD8 ra8 mD8 wD8 lp6
        | true =>
          refine iteT ?_
          rw [if_pos rfl] at ht1
          simp only [Ev.M.map, Ev.M.bind] at ht1
          refine ⟨c, M7, e11, s8, ?_⟩
          cases hel : elt e11 with
          | stuck => rw [hel] at ht1; cases ht1
          | exc cn d e7 => rw [hel] at ht1; cases ht1
          | ok y e12 =>
          rw [hel] at ht1
          cases ht1
          intro M9 H9 s9 x10 k9 v rv
          have hD9 : H9 Dd = some (.lst accv6) := x10.e1 _ _ hD8 wD8
          have mD9 : M9 Dd := x10.e3 _ mD8 wD8
          have wD9 : ¬ Wr σ3 e9 Dd := fun w => wD8 (x10.e4 _ w)
          have ra9 : Rels g.K M9 H9 acc6 accv6 := s8.rels x10 ra8
          have xe9 : Xw (fun b => Wr σ3 e11 b ∨ b = Dd) M7 H8 M9 H9 (fun b => Wr σ3 e9 b ∨ b = Dd) := ⟨fun b z q w => x10.e1 b z q fun y => w (.inl y), x10.e2, fun b q w => x10.e3 b q fun y => w (.inl y), fun b q => q.imp (x10.e4 b) id, x10.e5⟩
          have zl : acc6.length < sizeLine := by
            have a1 := lcLoop_len lp6
            have a2 := lcLoop2_len tlen lp
            simp only [List.length_append, List.length_cons, List.length_nil] at a1
            omega
          refine ⟨accv6, hD9, by rw [← ra9.length]; exact zl, ?_⟩
          have hk : ∀ b x, H9 b = some x → ¬ M9 b → upd H9 Dd (.lst (accv6 ++ [v])) b = some x := fun b x q m => by
            rw [upd_ne fun z => m (by rw [z]; exact mD9)]; exact q
          refine close1 M9 _ (acc6 ++ [y]) (accv6 ++ [v]) (s9.poke hD9 mD9 h0D wD9) ?_ (k8.trans k9) upd_same (Rels.ext hk (fun b q => .inl q) _ _ (ra9.append (Rels.cons rv Rels.nil))) mD9 wD9 lp6
          have X := x9.trans xe9
          refine ⟨fun b z q w => ?_, X.e2, X.e3, X.e4, fun b q => upd_some b (X.e5 b q)⟩
          rw [upd_ne fun y => w (.inr y)]
          exact X.e1 b z q w
      · left
        have he : j = ds1.length := by omega
        subst he
        rw [List.drop_length] at lp6
        cases lp6
        refine ⟨ystop1 (Nat.le_refl _), close (wipe σ' vs) M6 H6 accv6 ew8 s6 (x8.hole x6 hD s1.mh wD6) (fun q hq t z1 z2 => ?_) hD6 ra6 mD6⟩
        obtain ⟨t1, y1, y2⟩ := (k4.trans k5) q t z1 z2
        rw [← ov q fun z => hq (hvs q z)] at y1
        exact k6 q t1 y1 y2
  · left
    have he : i = ds.length := by omega
    subst he
    rw [List.drop_length] at lp
    cases lp
    refine ⟨ystop (Nat.le_refl _), ?_⟩
    obtain ⟨q1, q2, q3⟩ := s1.back hw s' x'.ext k' le'
    refine h1 M' H' q1 q2 q3 (.ref Dd) ⟨Dd, rfl, mD, ⟨accv, hD', hzy, ra⟩, s1.born hD, fun w => ?_⟩ ?_
    · exact s1.mh _ (s1.wr (q2.e4 _ w)) hD
    · intro a q
      cases q
      cases z : H Dd with
      | none => rfl
      | some o => exact absurd hD (x1.e5 Dd (by rw [z]; exact fun w => nomatch w))
end
end Ev

set_option Elab.async false
set_option linter.all false
set_option maxHeartbeats 8000000
set_option maxRecDepth 100000
/-! the text's expressions are the evaluator's -/
namespace Ev
open PySem L2 PySem.Spec

mutual
def beqD : D → D → Bool
  | .none, .none => true
  | .bool a, .bool b => decide (a = b)
  | .int a, .int b => decide (a = b)
  | .str a, .str b => decide (a = b)
  | .tuple a, .tuple b => beqDs a b
  | .list a, .list b => beqDs a b
  | _, _ => false
def beqDs : List D → List D → Bool
  | [], [] => true
  | a :: r, b :: t => beqD a b && beqDs r t
  | _, _ => false
end
mutual
theorem beqD_ok : ∀ (a b : D), beqD a b = true → a = b
  | .none, b, h => by cases b <;> first | rfl | (simp only [beqD] at h; cases h)
  | .bool a, b, h => by cases b <;> simp only [beqD] at h <;> first | (rw [of_decide_eq_true h]; done) | cases h
  | .int a, b, h => by cases b <;> simp only [beqD] at h <;> first | (rw [of_decide_eq_true h]; done) | cases h
  | .str a, b, h => by cases b <;> simp only [beqD] at h <;> first | (rw [of_decide_eq_true h]; done) | cases h
  | .tuple a, b, h => by cases b <;> simp only [beqD] at h <;> first | (rw [beqDs_ok _ _ h]; done) | cases h
  | .list a, b, h => by cases b <;> simp only [beqD] at h <;> first | (rw [beqDs_ok _ _ h]; done) | cases h
  | .dict a, b, h => by cases b <;> simp only [beqD] at h <;> cases h
theorem beqDs_ok : ∀ (a b : List D), beqDs a b = true → a = b
  | [], b, h => by cases b <;> first | rfl | (simp only [beqDs] at h; cases h)
  | x :: r, b, h => by
    cases b with
    | nil => simp only [beqDs] at h; cases h
    | cons y t =>
      simp only [beqDs, Bool.and_eq_true] at h
      rw [beqD_ok _ _ h.1, beqDs_ok _ _ h.2]
end
structure Tb where
  tab : List Fn
  cons : List (Str × D)
  gcd : Bool := false
  prm : Bool := false
  errs : List Str := []
  /-- defs that are handed on as values -/
  fnv : List Str := []
  /-- dicts of the module with text keys -/
  dcs : List (Str × List (Str × D)) := []
  /-- classes that isinstance asks for -/
  isx : List Str := []
def beqKV : List (Str × D) → List (Str × D) → Bool
  | [], [] => true
  | a :: r, b :: t => decide (a.1 = b.1) && beqD a.2 b.2 && beqKV r t
  | _, _ => false
theorem beqKV_ok : ∀ (a b : List (Str × D)), beqKV a b = true → a = b
  | [], [], _ => rfl
  | [], _ :: _, h => by cases h
  | _ :: _, [], h => by cases h
  | a :: r, b :: t, h => by
    simp only [beqKV, Bool.and_eq_true, decide_eq_true_eq] at h
    rw [beqKV_ok r t h.2]
    obtain ⟨a1, a2⟩ := a
    obtain ⟨b1, b2⟩ := b
    obtain ⟨⟨h1, h2⟩, _⟩ := h
    simp only at h1 h2
    rw [h1, beqD_ok _ _ h2]
def fnvB (T : Tb) (fs : List (Str × Nat × List Bool)) : Bool :=
  fs.all fun q => T.fnv.contains q.1 && (match T.tab[q.2.1]? with | some fn => decide (fn.nm = q.1) && decide (fn.lent = q.2.2) && decide (fn.lent.length = fn.ps.length) | none => false)
def fnB (bk : Option Scope) (sc : Scope) (x : Str) : Bool :=
  match bk with
  | none => true
  | some s => (s.names.lookup x == some .cell) || decide (sc.names.lookup x = some .local)
def tyName : Ty → String
  | .int => "int" | .bool => "bool" | .str => "str" | .tuple => "tuple" | .list => "list" | .dict => "dict"
/-- one type's name -/
def chkT1 (sc : Scope) (t : Ty) : Expr → Bool
  | .Name x _ => decide (x = (tyName t : Str)) && glB sc x
  | _ => false
def chkTs (sc : Scope) : List Ty → List Expr → Bool
  | [], [] => true
  | t :: ts, e :: es => chkT1 sc t e && chkTs sc ts es
  | _, _ => false
def chkTy (sc : Scope) : List Ty → Expr → Bool
  | [t], .Name x p => chkT1 sc t (.Name x p)
  | ts, .Tuple es _ _ => decide (ts.length ≤ 30) && chkTs sc ts es
  | _, _ => false
def chkNs (N : List Str) (sc : Scope) (bk : Option Scope) : List Nat → List Expr → Bool
  | [], [] => true
  | i :: is, .Name x _ :: es => decide (N[i]? = some x) && locB sc x && fnB bk sc x && chkNs N sc bk is es
  | _, _ => false
def chkTg (N : List Str) (sc : Scope) (bk : Option Scope) : Tg → Expr → Bool
  | .nm i, .Name x _ => decide (N[i]? = some x) && locB sc x && fnB bk sc x
  | .tp is, .Tuple es _ _ => chkNs N sc bk is es
  | _, _ => false
def ownOf (N : List Str) (own : List Nat) : List (Str × Nat) := own.map fun i => ((N[i]?).getD Str.empty, i)
def sqNm : Sq → String
  | .join => "join" | .split => "split" | .part => "partition" | .starts => "startswith" | .find => "find" | .find2 => "find" | .upper => "upper" | .count => "count" | .index => "index" | .repl => "replace"
def sqAr : Sq → Option Nat
  | .join => some 1 | .split => some 1 | .part => some 1 | .starts => some 1 | .find => some 1 | .count => some 1 | .upper => some 0 | .find2 => some 2
  | _ => none
/-- no call of a bare name: what has a method of texts -/
def baseOk : Expr → Bool
  | .Call (.Name _ _) [] [] _ => false
  | _ => true
/-- zip and enumerate want a tuple of targets -/
def tgOk : Itr → Expr → Bool
  | .zip _ _, .Tuple _ _ _ => true
  | .zip _ _, _ => false
  | .enm _, .Tuple _ _ _ => true
  | .enm _, _ => false
  | _, _ => true
def mtNm : Mt → String
  | .index => "index"
def kOk : List (Int × Int) → List (Option Expr) → Bool
  | [], [] => true
  | p :: r, some (.Constant (.int m) _ _) :: es => decide (p.1 = m) && kOk r es
  | _, _ => false
def vOk : List (Int × Int) → List Expr → Bool
  | [], [] => true
  | p :: r, .Constant (.int m) _ _ :: es => decide (p.2 = m) && vOk r es
  | _, _ => false
def tgOk2 : Itr → Tg → Bool
  | .zip _ _, .nm _ => false
  | .enm _, .nm _ => false
  | _, _ => true
theorem tgOk2_of {N : List Str} {sc : Scope} {bk : Option Scope} {it : Itr} {tg : Tg} {t : Expr} (h : tgOk it t = true) (h2 : chkTg N sc bk tg t = true) : tgOk2 it tg = true := by
  cases it <;> first | rfl | skip
  all_goals (cases tg <;> first | rfl | skip)
  all_goals (cases t <;> first | (cases h; done) | (cases h2; done))
section
variable (T : Tb) (N : List Str)
mutual
def chkE : Option Scope → Scope → Ex → Expr → Bool
  | bk, sc, .var i, e => match e with
    | .Name x _ => decide (N[i]? = some x) && visB sc x && nmB x
    | _ => false
  | bk, sc, .int n, e => match e with
    | .Constant (.int m) _ _ => decide (n = m)
    | _ => false
  | bk, sc, .bl b, e => match e with
    | .Constant (.bool m) _ _ => decide (b = m)
    | _ => false
  | bk, sc, .non, e => match e with
    | .Constant .none _ _ => true
    | _ => false
  | bk, sc, .str n, e => match e with
    | .Constant (.str m) _ _ => decide (n = m)
    | _ => false
  | bk, sc, .gc y d, e => match e with
    | .Name x _ => decide (x = y) && glB sc x && nmB x && (T.cons.any fun p => decide (p.1 = x) && beqD p.2 d)
    | _ => false
  | bk, sc, .tup es, e => match e with
    | .Tuple xs _ _ => chkEs bk sc es xs
    | _ => false
  | bk, sc, .lst es, e => match e with
    | .List xs _ => chkEs bk sc es xs
    | _ => false
  | bk, sc, .bin op a b, e => match e with
    | .BinOp l o r _ => decide (o = bopO op) && chkE bk sc a l && chkE bk sc b r
    | _ => false
  | bk, sc, .neg a, e => match e with
    | .UnaryOp o l _ => decide (o = .USub) && chkE bk sc a l
    | _ => false
  | bk, sc, .not a, e => match e with
    | .UnaryOp o l _ => decide (o = .Not) && chkE bk sc a l
    | _ => false
  | bk, sc, .cmp op a b, e => match e with
    | .Compare l [o] [r] _ => decide (o = copO op) && chkE bk sc a l && chkE bk sc b r && !behindInMarks o r
    | _ => false
  | bk, sc, .chain op op' a b c, e => match e with
    | .Compare l [o, o'] [r, r'] _ => decide (o = copO op) && decide (o' = copO op') && chkE bk sc a l && chkE bk sc b r && chkE bk sc c r' && !lastMarks [o, o'] [r, r']
    | _ => false
  | bk, sc, .bop k es, e => match e with
    | .BoolOp o xs _ => decide (o = if k then .And else .Or) && !xs.isEmpty && chkEs bk sc es xs
    | _ => false
  | bk, sc, .ite c a b, e => match e with
    | .IfExp t x y _ => chkE bk sc c t && chkE bk sc a x && chkE bk sc b y
    | _ => false
  | bk, sc, .idx a i, e => match e with
    | .Subscript x y _ => chkE bk sc a x && chkE bk sc i y
    | _ => false
  | bk, sc, .slc a lo hi, e => match e with
    | .Subscript x (.Slice l h none _) _ => chkE bk sc a x && chkO bk sc lo l && chkO bk sc hi h
    | _ => false
  | bk, sc, .rev a, e => match e with
    | .Subscript x (.Slice none none (some (.UnaryOp .USub (.Constant (.int 1) _ _) _)) _) _ => chkE bk sc a x
    | _ => false
  | bk, sc, .call f lent args, e => match e with
    | .Call (.Name x _) xs [] _ => (match T.tab[f]? with | some fn => decide (fn.nm = x) && decide (fn.lent = lent) && decide (fn.lent.length = fn.ps.length) | none => false) && glB sc x && nmB x && chkEs bk sc args xs
    | _ => false
  | bk, sc, .callK f lent args kargs ks perm, e => match e with
    | .Call (.Name x _) xs kws _ => (match T.tab[f]? with | some fn => decide (fn.nm = x) && decide (fn.lent = lent) && decide (fn.lent.length = fn.ps.length) && decide ((ks, perm) ∈ fn.kwp) | none => false) && glB sc x && nmB x && chkEs bk sc args xs && chkKs bk sc kargs ks kws
    | _ => false
  | bk, sc, .bi b args, e => match e with
    | .Call (.Name x _) xs [] _ => decide (x = (biName b : Str)) && glB sc x && !xs.isEmpty && chkEs bk sc args xs
    | _ => false
  | bk, sc, .isi a ts, e => match e with
    | .Call (.Name x _) [y, z] [] _ => decide (x = ("isinstance" : Str)) && glB sc x && chkE bk sc a y && chkTy sc ts z
    | _ => false
  | bk, sc, .meth m o args, e => match e with
    | .Call (.Attribute (.Name y py) nm apos) [x] [] cpos => decide (nm = (mtNm m : Str)) && chkE bk sc o (.Name y py) && chkEs bk sc args [x] && (apos.endLine == cpos.line)
    | _ => false
  | bk, sc, .dct kvs, e => match e with
    | .Dict ks vs _ => decide (kvs.length ≤ 15) && kOk kvs ks && vOk kvs vs
    | _ => false
  | bk, sc, .pop i args, e => match e with
    | .Call (.Attribute (.Name y _) nm apos) es [] cpos => decide (nm = ("pop" : Str)) && decide (N[i]? = some y) && visB sc y && nmB y && chkEs bk sc args es && decide (es.length ≤ 1) && (apos.endLine == cpos.line)
    | _ => false
  | bk, sc, .lrg a b, e => match e with
    | .Call (.Name x _) [.Call (.Name y _) [l, r] [] _] [] _ => decide (x = ("list" : Str)) && glB sc x && decide (y = ("range" : Str)) && glB sc y && chkE bk sc a l && chkE bk sc b r
    | _ => false
  | bk, sc, .gcd a b, e => match e with
    | .Call (.Name x _) [l, r] [] _ => T.gcd && decide (x = ("gcd" : Str)) && glB sc x && chkE bk sc a l && chkE bk sc b r
    | _ => false
  | bk, sc, .prm a b, e => match e with
    | .Call (.Name x _) [.Call (.Name z _) [.Call (.Name y _) [l, r] [] _] [] _] [] _ => T.prm && decide (x = ("list" : Str)) && glB sc x && decide (z = ("permutations" : Str)) && glB sc z && decide (y = ("range" : Str)) && glB sc y && chkE bk sc a l && chkE bk sc b r
    | _ => false
  | bk, sc, .rgx tup dn a b, e => match e with
    | .Call (.Name x _) [.Call (.Name y _) xs [] _] [] _ => decide (x = ((if tup then "tuple" else "list") : Str)) && glB sc x && decide (y = ("range" : Str)) && glB sc y && (match dn, xs with
      | false, [l, r] => chkE bk sc a l && chkE bk sc b r
      | true, [l, r, .UnaryOp .USub (.Constant (.int 1) _ _) _] => chkE bk sc a l && chkE bk sc b r
      | _, _ => false)
    | _ => false
  | bk, sc, .fnc n, e => match e with
    | .Name x _ => decide (x = n) && glB sc x && nmB x && T.fnv.contains n
    | _ => false
  | bk, sc, .kdx n kvs a, e => match e with
    | .Subscript (.Name x _) y _ => decide (x = n) && glB sc x && nmB x && T.dcs.any (fun p => decide (p.1 = n) && beqKV p.2 kvs) && chkE bk sc a y
    | _ => false
  | bk, sc, .ev ks a, e => match e with
    | .Attribute (.Name y p) f _ => decide (f = ("value" : Str)) && ks.all (fun c => T.errs.contains c) && chkE bk sc a (.Name y p)
    | _ => false
  | bk, sc, .mkv cn a, e => match e with
    | .Attribute (.Call (.Name y _) [x] [] _) f _ => decide (f = ("value" : Str)) && decide (y = cn) && T.errs.contains y && glB sc y && nmB y && chkE bk sc a x
    | _ => false
  | bk, sc, .isx ks a c, e => match e with
    | .Call (.Name f _) [x, .Name y _] [] _ => decide (f = ("isinstance" : Str)) && glB sc f && decide (y = c) && T.isx.contains c && glB sc y && nmB y && ks.all (fun c => T.errs.contains c) && chkE bk sc a x
    | _ => false
  | bk, sc, .callV i fs args, e => match e with
    | .Call (.Name x _) xs [] _ => decide (N[i]? = some x) && visB sc x && nmB x && fnvB T fs && !xs.isEmpty && chkEs bk sc args xs
    | _ => false
  | bk, sc, .callG f lent a args, e => match e with
    | .Call (.Name x _) (y :: xs) [] _ => (match T.tab[f]? with | some fn => decide (fn.nm = x) && decide (fn.lent = lent) && decide (fn.lent.length = fn.ps.length) | none => false) && glB sc x && nmB x && chkE bk sc a y && chkEs bk sc args xs
    | _ => false
  | bk, sc, .comp own elt tg it ifs, e => match e with
    | .ListComp y [⟨t, i, fs, 0⟩] scope _ => blkC N sc scope (ownOf N own) && (tgIs tg).all (fun i => own.contains i) && chkTg N (relS scope sc) (some scope) tg t && (tgOk it t && chkI bk sc it i) && chkFs (some scope) (relS scope sc) ifs fs && chkE (some scope) (relS scope sc) elt y
    | _ => false
  | bk, sc, .comp2 own vs elt tg it ifs tg' it' ifs', e => match e with
    | .ListComp y [⟨t, i, fs, 0⟩, ⟨t1, i1, fs1, 0⟩] scope _ => blkC N sc scope (ownOf N own) && (tgIs tg).all (fun i => own.contains i) && vs.all (fun i => own.contains i) && (tgIs tg').all (fun i => vs.contains i) && chkTg N (relS scope sc) (some scope) tg t && (tgOk it t && chkI bk sc it i) && chkFs (some scope) (relS scope sc) ifs fs && chkTg N (relS scope sc) (some scope) tg' t1 && (tgOk it' t1 && chkI (some scope) (relS scope sc) it' i1) && chkFs (some scope) (relS scope sc) ifs' fs1 && chkE (some scope) (relS scope sc) elt y
    | _ => false
  | bk, sc, .sm m o args, e => match e with
    | .Call (.Attribute x nm apos) es [] cpos => decide (nm = (sqNm m : Str)) && chkE bk sc o x && baseOk x && chkEs bk sc args es && decide (some es.length = sqAr m) && (apos.endLine == cpos.line)
    | _ => false
  | bk, sc, .dget kvs a b, e => match e with
    | .Call (.Attribute (.Dict ks vs _) nm apos) [x, y] [] cpos => decide (nm = ("get" : Str)) && decide (kvs.length ≤ 15) && kOk kvs ks && vOk kvs vs && chkE bk sc a x && chkE bk sc b y && (apos.endLine == cpos.line)
    | _ => false
  | bk, sc, .chain3 o1 o2 o3 a b c d, e => match e with
    | .Compare l [q1, q2, q3] [r1, r2, r3] _ => decide (q1 = copO o1) && decide (q2 = copO o2) && decide (q3 = copO o3) && chkE bk sc a l && chkE bk sc b r1 && chkE bk sc c r2 && chkE bk sc d r3 && !lastMarks [q1, q2, q3] [r1, r2, r3]
    | _ => false
def chkEs : Option Scope → Scope → Exs → List Expr → Bool
  | bk, sc, .nil, xs => xs.isEmpty
  | bk, sc, .cons a r, xs => match xs with
    | x :: ys => chkE bk sc a x && chkEs bk sc r ys
    | [] => false
def chkKs : Option Scope → Scope → Exs → List Str → List Keyword → Bool
  | bk, sc, .nil, ks, kws => kws.isEmpty && ks.isEmpty
  | bk, sc, .cons a r, ks, kws => match ks, kws with
    | k :: ks, ⟨some n, x, _⟩ :: kws => decide (n = k) && chkE bk sc a x && chkKs bk sc r ks kws
    | _, _ => false
def chkO : Option Scope → Scope → Oe → Option Expr → Bool
  | bk, sc, .no, o => o.isNone
  | bk, sc, .some a, o => match o with
    | some x => chkE bk sc a x
    | none => false
def chkI : Option Scope → Scope → Itr → Expr → Bool
  | bk, sc, .seq a, e => chkE bk sc a e
  | bk, sc, .r1 a, e => match e with
    | .Call (.Name x _) [l] [] _ => decide (x = ("range" : Str)) && glB sc x && chkE bk sc a l
    | _ => false
  | bk, sc, .r2 a b, e => match e with
    | .Call (.Name x _) [l, r] [] _ => decide (x = ("range" : Str)) && glB sc x && chkE bk sc a l && chkE bk sc b r
    | _ => false
  | bk, sc, .zip a b, e => match e with
    | .Call (.Name x _) [l, r] [] _ => decide (x = ("zip" : Str)) && glB sc x && chkE bk sc a l && chkE bk sc b r
    | _ => false
  | bk, sc, .rd a b, e => match e with
    | .Call (.Name x _) [l, r, .UnaryOp .USub (.Constant (.int 1) _ _) _] [] _ => decide (x = ("range" : Str)) && glB sc x && chkE bk sc a l && chkE bk sc b r
    | _ => false
  | bk, sc, .enm a, e => match e with
    | .Call (.Name x _) [l] [] _ => decide (x = ("enumerate" : Str)) && glB sc x && chkE bk sc a l
    | _ => false
def chkFs : Option Scope → Scope → Exs → List Expr → Bool
  | bk, sc, .nil, xs => xs.isEmpty
  | bk, sc, .cons a r, xs => match xs with
    | [x] => chkE bk sc a x && (match r with | .nil => true | _ => false)
    | _ => false
end
end
end Ev

set_option Elab.async false
set_option linter.all false
set_option maxHeartbeats 4000000
set_option maxRecDepth 100000
/-! errors that are held as values: their value, their kind -/
namespace Ev
open PySem L2 PySem.Spec
/-- what the text says of one of these classes -/
structure ErrC (K : PySem.W.Frag) (mg : Str → Option Value) (fI : Addr) (cn : Str) (Cl : Addr) : Prop where
  mg : mg cn = some (.ref Cl)
  cls : OexC K Cl
  no : PySem.W.findIn K (.ref Cl) "value" = some none
  ini : PySem.W.findIn K (.ref Cl) "__init__" = some (some (.ref fI))
  ga : PySem.W.findIn K (.ref Cl) "__getattribute__" = some (some (.builtin "BaseException.__getattribute__"))
  gg : PySem.W.findIn K (.ref Cl) "__getattr__" = some none
  hd : PySem.W.hasDictIn K Cl = true
  kn : PySem.W.nsIn K mainGlobals cn = some (some (.ref Cl))
/-- what a class must say, so that isinstance asks its instances rightly -/
structure KitC (K : PySem.W.Frag) (Cl : Addr) : Prop where
  cl : (PySem.W.clsIn K Cl).isSome = true
  ga : PySem.W.findIn K (.ref Cl) "__getattribute__" = some (some (.builtin "BaseException.__getattribute__"))
  gg : PySem.W.findIn K (.ref Cl) "__getattr__" = some none
  hs : PySem.W.subIn K (.ref Cl) (.type "BaseException") = some true
  ha : PySem.W.findIn K (.ref Cl) "__class__" = some (some (.builtin "object.__class__"))
  hn : PySem.W.specialIn K (.builtin "object.__class__") "__get__" = some (some (.builtin "getset_descriptor.__get__"))
  ht : PySem.W.takesIn K (.builtin "object.__class__") = some true
  hm : PySem.W.mroIn K Cl (.type "object") = some true
abbrev NI : List Str := [("self" : Str), ("value" : Str)]
/-- what __init__ does with a new error -/
def spI (K : PySem.W.Frag) : Sp := fun vs H Q _ => ∃ (a Cl : Addr) (v : V), vs = [.ref a, v] ∧ OexC K Cl ∧ PySem.W.findIn K (.ref Cl) "value" = some none ∧ H a = some (exo a Cl none) ∧
  ∀ dx, H dx = none → dx ≠ a → Q .non (upd (upd H dx (exd dx [(("value" : Str), v)])) a (exo a Cl (some dx)))
theorem exE_ok {P : Program} {w : World} {H : Hp} {h : Heap} {a : Addr} {cls : Value} {d : Option Addr} {oe : Obj} {vs : Array Value} (e : h.get? a = some oe) (z : Zc cls d oe) (hd : oe.data = .fields vs) : ObjOk P w H h a (ExE cls d a) :=
  ⟨⟨oe, vs, e, z, hd⟩, ⟨oe, e⟩, fun _ _ ⟨o, v, q, r⟩ k => ⟨o, v, k o q, r⟩⟩
section
variable {X : Cx} {pins : List (Addr × Obj)} {σ : L2.St} {H : Hp} {s : Shared}
/-- the object and its dict, as the heap has them -/
theorem err_inst {a Cl dd : Addr} {fs : List (Str × V)} (I : Inv X pins σ H s) (ha : H a = some (ExE (.ref Cl) (some dd) a)) (hx : H dd = some (.xd fs)) :
    ∃ (oe od : Obj) (mA : Str → Option Value), PySem.W.InstAt s.heap a oe Cl (some od) ∧ (∀ n, PySem.W.lookIn n od = some (mA n)) ∧ ∀ f, RelO (fs.lookup f) (mA f) := by
  obtain ⟨⟨oe, vs, he, hz, hd⟩, _⟩ := (show ObjOk X.prog X.w H s.heap a (ExE (.ref Cl) (some dd) a) from I.hok a _ ha)
  obtain ⟨mA, hns, hr⟩ := (show ObjOk X.prog X.w H s.heap dd (.xd fs) from I.hok dd _ hx)
  obtain ⟨od, ho, hl⟩ := lookIn_ns hns
  exact ⟨oe, od, mA, ⟨he, hz.1, by unfold PySem.W.notCls; rw [hd] <;> rfl, by rw [hz.2]; exact ho⟩, hl, hr⟩
/-- isinstance(e, c), e an error that is held -/
def rIsX (K : PySem.W.Frag) : List V → Hp → VK → Prop := fun xs H Q => ∃ (a Cl dd : Addr) (fs : List (Str × V)) (c : V) (cv : Value) (b : Bool), xs = [.ref a, c] ∧ (∀ u, RelV c u → u = cv) ∧ H a = some (ExE (.ref Cl) (some dd) a) ∧ H dd = some (.xd fs) ∧ KitC K Cl ∧ PySem.W.kitOne K (.ref Cl) cv = some b ∧ Q (.bl b) H
theorem call_isX : CallR X (.builtin "isinstance") (rIsX X.K) := by
  intro pins s σ H xs us Q I r h
  obtain ⟨a, Cl, dd, fs, c, cv, b, rfl, hcv, ha, hx, C, e, q⟩ := h
  obtain ⟨u1, u2, rfl, r1, r2⟩ := vals2 r
  have e2 := hcv _ r2
  subst e2
  cases r1
  obtain ⟨oe, od, mA, J, _⟩ := err_inst I ha hx
  exact PySem.W.kia_one (PySem.W.kitx_exc C.cl C.ga C.gg C.hs C.ha C.hn C.ht C.hm) I.kIn J e (fun z => nomatch z) fun tk => ⟨.bl b, H, I.tok tk, rfl, q⟩
/-- e.value -/
def tErr (K : PySem.W.Frag) (mg : Str → Option Value) (te : TE) : TE := fun σ H Q => te σ H fun x H1 => ∃ (a Cl fI dd : Addr) (cn : Str) (v : V), x = .ref a ∧ H1 a = some (ExE (.ref Cl) (some dd) a) ∧ ErrC K mg fI cn Cl ∧ H1 dd = some (.xd [(("value" : Str), v)]) ∧ Q v H1
theorem pe_err {te : TE} {n : Str} {p p2 : Pos} (he : PE X (.Name n p) te) : PE X (.Attribute (.Name n p) ("value" : Str) p2) (tErr X.K X.mg te) := by
  constructor
  intro pins s σ H Q I h
  refine attr_of rfl (thn (he.run pins s σ H _ I h) fun u t ⟨x, H1, J, rx, a, Cl, fI, dd, cn, v, hxa, ha, E, hx, q⟩ => ?_)
  subst hxa
  cases (show u = Value.ref a from rx)
  obtain ⟨oe, od, mA, K1, hl, hr⟩ := err_inst J ha hx
  obtain ⟨w, hw, rw'⟩ := RelO.some_of (v := v) (o := mA "value") (by have := hr "value"; simpa [List.lookup] using this)
  exact HandSPX.exc_get J.kIn K1 E.ga E.gg E.cls.exC (PySem.W.findObj_own E.hd E.no rfl (by rw [hl, hw])) (handed_of rw') ⟨v, _, J.tok _, rw', q⟩
end
end Ev

set_option Elab.async false
set_option linter.all false
set_option maxHeartbeats 4000000
set_option maxRecDepth 100000
/-! errors made by keyword, and without being raised -/
namespace PySem.HandSPX
open PySem PySem.Spec PyProof.Rows
section
variable {M : Model} {A : Around} {E : Value → Shared → Prop} {h : Heap} {g : Array GenState} {d : Drawn} {t : Nat} {os : OsState}
variable {nm q : Str} {C N : Addr} {bs bm bmB : List Value} {hdct : Bool} {sn : List Str} {sub : List Value} {ab : Bool} {col : Option Bool} {dd : Option Addr} {k0 k1 k2 k3 k5 : Option Value} {B newId initId : String} {kx : Str} {kv : Value}
theorem check_new_ownK (F : ExcBaseFacts B newId initId bmB) (hT : ∀ X : String, bm.contains (.type X) = bmB.contains (.type X)) {Q : Unit → Shared → Prop}
    (hC : h.get? C = some (excClassObj nm q C N bs bm hdct sn sub ab col dd k0 k1 k2 k3 k5 newId)) (hq : Q () ⟨h, g, d, t, os⟩) : wpAny M A (checkBuiltinCall newId ⟨[.ref C], [(kx, kv)]⟩) Q E ⟨h, g, d, t, os⟩ := by
  have hcont : (Value.ref C :: bm).contains (.type B) = true := by rw [List.contains_cons, hT, F.hasB, Bool.or_true]
  have hstar := F.noStar
  simp only [checkBuiltinCall, F.newKind, F.newSplit, F.newRow]
  repeat (first | refine wpAny_loadPart_at hC ?_ | (refine wpAny_isSubtype_exc hC ?_; rw [hcont]) | refine wpAny_staticBase_exc hC ?_ | refine wpAny_madeBy_exc hC ?_ | simp only [bne_self_eq_false, Bool.false_eq_true, if_false] | wp_step)
  exact hq
end
section
variable {prog : Program} {w : World} {A : Around} {E : Value → Shared → Prop} {R : Result → Shared → Prop} {h : Heap} {g : Array GenState} {d : Drawn} {t : Nat} {os : OsState}
variable {nm q : Str} {C N : Addr} {bs bm bmB : List Value} {hdct : Bool} {sn : List Str} {sub : List Value} {ab : Bool} {col : Option Bool} {dd : Option Addr} {k0 k1 k2 k3 k5 : Option Value} {B newId initId : String} {kx : Str} {kv : Value}
theorem new_ownK (F : ExcBaseFacts B newId initId bmB) (hT : ∀ X : String, bm.contains (.type X) = bmB.contains (.type X))
    (hC : h.get? C = some (excClassObj nm q C N bs bm hdct sn sub ab col dd k0 k1 k2 k3 k5 newId))
    (hq : R (.ok (.ret (.ref (h.objs.size + 1)))) ⟨(h.push { cls := .type "tuple", data := .seq #[] }).push
      { cls := .ref C, data := .fields #[.ref h.objs.size, .none, .none, .none, .bool false, .none] }, g, d, t, os⟩) :
    codeAny (model prog w) A (.builtin newId ⟨[.ref C], [(kx, kv)]⟩) R ⟨h, g, d, t, os⟩ := by
  have hends := F.ends
  have hrest : ([] : List Value).length ≤ sizeLine := Nat.zero_le _
  have hcB : (Value.ref C :: bm).contains (.type B) = true := by rw [List.contains_cons, hT, F.hasB, Bool.or_true]
  have hcA : (Value.ref C :: bm).contains (.type "AttributeError") = false := by rw [List.contains_cons, hT, F.noAttr]; rfl
  have hcN : (Value.ref C :: bm).contains (.type "NameError") = false := by rw [List.contains_cons, hT, F.noName]; rfl
  refine codeAny_builtinAt F.entry ?_
  unfold Builtin.«BaseException.__new__»
  refine wpAt_bind ?_
  show wpAt _ _ _ (stack >>= _) _ _ _
  refine wpAt_bind (wpAt_stack fun p below => wpAt_of_wpAny ?_)
  wp_walk
  refine wpAt_of_wpAny ?_
  rw [F.owner]
  repeat (first | with_reducible refine wpAny_madeHere_exc F.canon hC ?_ | with_reducible refine wpAny_loadPart_at hC ?_ | (with_reducible refine wpAny_isSubtype_exc hC ?_; first | rw [hcB] | rw [hcA] | rw [hcN]) | wp_step)
  show R _ _
  rw [Heap.size_push]
  exact hq
theorem type_call_ownK (F : ExcBaseFacts B newId initId bmB) (hT : ∀ X : String, bm.contains (.type X) = bmB.contains (.type X)) {fI : Addr} {Q : Fin → Shared → Prop}
    (hC : h.get? C = some (excClassObj nm q C N bs bm hdct sn sub ab col dd k0 k1 k2 k3 k5 newId))
    (hi : W.Looks (model prog w) h (typeLookup (.ref C) "__init__") (some (.ref fI))) (hb : ∀ self, W.Looks (model prog w) h (bindSpecial (.ref fI) self) (.ref fI, [self]))
    (hq : codeAny (model prog w) A (.call (.ref fI) ⟨[.ref (h.objs.size + 1)], [(kx, kv)]⟩)
      (fun r s' => match r with | .ok (.ret v) => v = .none ∧ Q (.done (.ret (.ref (h.objs.size + 1)))) s' | .ok _ => False | .error e => E e s')
      ⟨(h.push (W.kdv_tup [])).push (excO C h.objs.size), g, d, t, os⟩) :
    wpAny (model prog w) A (Builtin.«type.__call__» ⟨[.ref C], [(kx, kv)]⟩) Q E ⟨h, g, d, t, os⟩ := by
  repeat (first | with_reducible refine wpAny_loadPart_at hC ?_ | with_reducible refine wpAny_madeBy_exc hC ?_ | wp_step)
  refine codeAny_call_builtin_code (Code.quiet_builtin _ F.quiet) (check_new_ownK F hT hC ?_)
  refine new_ownK F hT hC ?_
  show wpAny _ _ _ _ _ _
  have k : ∀ b o, h.get? b = some o → ((h.push (W.kdv_tup [])).push (excO C h.objs.size)).get? b = some o := fun b o e => Heap.get?_push_of_some _ (Heap.get?_push_of_some _ e)
  have hC₁ := k _ _ hC
  have hget : ((h.push (W.kdv_tup [])).push (excO C h.objs.size)).get? (h.objs.size + 1) = some (excO C h.objs.size) := by heap_get
  have hcC : (Value.ref C :: bm).contains (.ref C) = true := by simp
  have i1 := hi.keeps k
  have b1 := (hb (.ref (h.objs.size + 1))).keeps k
  unfold isInstance
  repeat (first | with_reducible refine wpAny_loadPart_at hget ?_ | (with_reducible refine wpAny_isSubtype_exc hC₁ ?_; rw [hcC]) | wp_step)
  show wpAny _ _ (typeLookup (.ref C) _) _ _ _
  refine i1.at ?_
  refine wpAny_holding (wpAny_bind (b1.at ?_))
  refine wpAny_bind (wpAny_call (codeAny_mono hq fun r s' z => ?_))
  rcases r with e | (v | _ | _ | _) <;> first | exact z | exact z.elim | skip
  obtain ⟨rfl, z⟩ := z
  first
    | exact wpAny_pure (wpAny_pure z)
    | (wp_walk; exact z)
theorem check_typeK {M : Model} {Q : Unit → Shared → Prop} (hC : h.get? C = some (excClassObj nm q C N bs bm hdct sn sub ab col dd k0 k1 k2 k3 k5 newId))
    (hq : Q () ⟨h, g, d, t, os⟩) : wpAny M A (checkBuiltinCall "type.__call__" ⟨[.ref C], [(kx, kv)]⟩) Q E ⟨h, g, d, t, os⟩ := by
  have f3 := tc_sub
  have hT : (⟨h, g, d, t, os⟩ : Shared).TypeIs (.ref C) "type" := ⟨_, hC, rfl⟩
  simp only [checkBuiltinCall, tc_kind, tc_split]
  repeat (any_goals (first | assumption | with_reducible refine wpAny_loadPart_at hC ?_ | with_reducible refine wpAny_onRaise ?_ | with_reducible refine wpAny_map ?_ | wp_step))
theorem call_ownK (F : ExcBaseFacts B newId initId bmB) (hT : ∀ X : String, bm.contains (.type X) = bmB.contains (.type X)) {fI : Addr}
    (hC : h.get? C = some (excClassObj nm q C N bs bm hdct sn sub ab col dd k0 k1 k2 k3 k5 newId))
    (hi : W.Looks (model prog w) h (typeLookup (.ref C) "__init__") (some (.ref fI))) (hb : ∀ self, W.Looks (model prog w) h (bindSpecial (.ref fI) self) (.ref fI, [self]))
    (hq : codeAny (model prog w) (A.under (.builtin "type.__call__" ⟨[.ref C], [(kx, kv)]⟩)) (.call (.ref fI) ⟨[.ref (h.objs.size + 1)], [(kx, kv)]⟩) (W.InitBack (h.objs.size + 1) R)
      ⟨(h.push (W.kdv_tup [])).push (excO C h.objs.size), g, d, t, os⟩) :
    codeAny (model prog w) A (.call (.ref C) ⟨[], [(kx, kv)]⟩) R ⟨h, g, d, t, os⟩ := by
  have f1 := tc_lookup
  have f2 := tc_bind (.ref C)
  have hTy : (⟨h, g, d, t, os⟩ : Shared).TypeIs (.ref C) "type" := ⟨_, hC, rfl⟩
  refine codeAny_of_tree ?_
  show wpAny _ _ (callAny (.ref C) _) _ _ _
  repeat (any_goals (first | assumption | with_reducible refine wpAny_loadPart_at hC ?_ | wp_step))
  refine ⟨rfl, ?_⟩
  refine codeAny_call_builtin_at (Code.quiet_builtin _ (by decide +kernel)) entry_typeCall (check_typeK hC (type_call_ownK F hT hC hi hb ?_))
  refine codeAny_mono hq fun r s' z => ?_
  rcases r with e | (v | _ | _ | _) <;> exact z
end
end PySem.HandSPX
namespace Ev
open PySem L2 PySem.Spec PyProof.Rows
section
variable {X : Cx} {CX : CXT} {x : Str} {C fI : Addr} {k : Nat} {fd : FuncData} {ps : List Str} {sp : Sp} {e : Expr} {te : TE} {p pos kp : Pos} {kx : Str}
/-- a reading that may be weakened -/
def tUp (te : TE) : TE := fun σ H Q => ∃ Q0 : VK, te σ H Q0 ∧ ∀ v H1, Q0 v H1 → Q v H1
theorem pe_up (he : PE X e te) : PE X e (tUp te) := ⟨fun pins s σ H Q I ⟨Q0, h, m⟩ => wpAny_mono (he.run pins s σ H Q0 I h) (fun u s1 ⟨x, H1, I1, r, q⟩ => ⟨x, H1, I1, r, m _ _ q⟩) fun _ _ x => x⟩
/-- C(name = e) -/
theorem pmk_oexK (T : OexC X.K C) (iC : PySem.W.findIn X.K (.ref C) "__init__" = some (some (.ref fI))) (tI : PySem.W.typeIn X.K (.ref fI) = some (.type "function"))
    (F1 : FnOk X.prog X.w X.K X.mg X.base CX k fI fd ps sp) (hr : Room (k + 1) X.A) (hps : ps.length = 2) (hb : ∀ (s : Shared) (a u : Value), BindsTo s fd ⟨[a], [(kx, u)]⟩ (ps.zip [a, u])) (hx : Passes CX X (fun _ _ _ => False)) (hg : Gl X x) (hm : X.mg x = some (.ref C)) (he : PE X e te)
    (hdb : (x == ("__debug__" : Str)) = false) : PMk X (.Call (.Name x p) [] [⟨some kx, e, kp⟩] pos) (fun σ H Q => te σ H fun v H1 => ∀ a, H1 a = none → sp [.ref a, v] (upd H1 a (exo a C none)) (fun y H2 => y = .non ∧ ∃ (d : Addr) (fs : List (Str × V)), H2 a = some (exo a C (some d)) ∧ H2 d = some (exd d fs) ∧ H1 d = none ∧ Q (.ref C) (some d) (upd (del H2 a) d (.xd fs))) (fun _ _ _ => False)) := by
  intro pins s σ H Q I h
  obtain ⟨nm, q, N, bs, bm, sn, sub, ab, col, dd, k0, k1, k2, k3, k5, hC, hbm⟩ := T.cls
  refine wpAny_Call_Name_kw (ld_glob I hg hm ?_ hdb)
  refine PySem.W.callWith_KW0 (h₀ := X.base) I.ok.mod.kin T.kC rfl ?_ rfl
  refine thn ((pk_cons (pe_up he) pk_nil).run pos pins s σ H (fun vs H1 => ∃ v, vs = [v] ∧ ∀ a, H1 a = none → sp [.ref a, v] (upd H1 a (exo a C none)) (fun y H2 => y = .non ∧ ∃ (d : Addr) (fs : List (Str × V)), H2 a = some (exo a C (some d)) ∧ H2 d = some (exd d fs) ∧ H1 d = none ∧ Q (.ref C) (some d) (upd (del H2 a) d (.xd fs))) (fun _ _ _ => False)) I ⟨_, h, fun v H1 q => ⟨v, rfl, q⟩⟩) fun us s1 ⟨vs, H1, I1, r1, v0, ev0, q1⟩ => ⟨I1.kIn, ?_⟩
  subst ev0
  obtain ⟨u0, rfl, r0⟩ := L2.vals1 r1
  show wpAny _ _ (call (.ref C) [] [(kx, u0)]) _ _ _
  obtain ⟨hp, g, dr, tk, os⟩ := s1
  have hsz : hp.objs.size ≤ hp.objs.size + 1 := Nat.le_succ _
  have hn : H1 (hp.objs.size + 1) = none := I1.hok.fresh hsz
  have hq := q1 (hp.objs.size + 1) hn
  have kk : ∀ b o, hp.get? b = some o → ((hp.push (PySem.W.kdv_tup [])).push (PySem.HandSPX.excO C hp.objs.size)).get? b = some o := fun b o e => Heap.get?_push_of_some _ (Heap.get?_push_of_some _ e)
  have hget : ((hp.push (PySem.W.kdv_tup [])).push (PySem.HandSPX.excO C hp.objs.size)).get? (hp.objs.size + 1) = some (PySem.HandSPX.excO C hp.objs.size) := by heap_get
  have I2 : L2.Inv X pins σ (upd H1 (hp.objs.size + 1) (exo (hp.objs.size + 1) C none)) ⟨(hp.push (PySem.W.kdv_tup [])).push (PySem.HandSPX.excO C hp.objs.size), g, dr, tk, os⟩ :=
    I1.laid (t' := tk) (a := hp.objs.size + 1) (o := exo (hp.objs.size + 1) C none) (h' := (hp.push (PySem.W.kdv_tup [])).push (PySem.HandSPX.excO C hp.objs.size)) kk hsz (exo_ok hget)
  have r2 : Vals [V.ref (hp.objs.size + 1), v0] [Value.ref (hp.objs.size + 1), u0] := .cons rfl (.cons r0 .nil)
  refine wpAny_call (PySem.HandSPX.call_ownK F.excBase_ValueError (fun Y => PySem.HandSPX.refsVE_contains Y bm hbm) (I1.kIn _ _ hC) (PySem.W.looks_findIn I1.kIn iC) (fun self => PySem.W.bind_fn I1.kIn self tI)
    (codeAny_mono (F1.run _ X.stack _ _ ⟨[Value.ref (hp.objs.size + 1)], [(kx, u0)]⟩ [Value.ref (hp.objs.size + 1), u0] _ _ (fun _ _ _ => False) (hr.make C [] [(kx, u0)]) (I2.env0.make C [] [(kx, u0)]) (hb _ _ _) r2 hq) fun r s' hq' => ?_))
  cases r with
  | error er => exact hx pins σ _ _ er s' I2 hq'
  | ok fl =>
    cases fl with
    | ret u =>
      obtain ⟨v, H2, os2, bare2, un2, hok2, rv, ev, d, fs, ea, ed, hd1, q2⟩ := hq'
      subst ev
      obtain ⟨h2, g2, d2, t2, os'⟩ := s'
      exact ⟨rv, mk_end (raises_own T.exC T.tyC) I1 hsz kk un2 hok2 os2 bare2 ea ed hd1 q2⟩
    | next => exact False.elim hq'
    | brk => exact False.elim hq'
    | cont => exact False.elim hq'
/-- C(e).value -/
theorem pe_mkv {cn : Str} {mg : Str → Option Value} (E : ErrC X.K mg fI cn C) (tI : PySem.W.typeIn X.K (.ref fI) = some (.type "function"))
    (F1 : FnOk X.prog X.w X.K X.mg X.base CX 1 fI fd NI (spI X.K)) (hr : Room 2 X.A) (hb : Binds X.K fd NI []) (hx : Passes CX X (fun _ _ _ => False)) (hg : Gl X x) (hm : X.mg x = some (.ref C)) (he : PE X e te)
    (hdb : (x == ("__debug__" : Str)) = false) (hst : starEach [e] X.env = (false, eval e X.env) :: starEach [] X.env) {p2 : Pos} :
    PE X (.Attribute (.Call (.Name x p) [e] [] pos) ("value" : Str) p2) (fun σ H Q => te σ H fun v H1 => ∀ a d, H1 a = none → H1 d = none → d ≠ a → Q v (upd (upd H1 d (exd d [(("value" : Str), v)])) a (exo a C (some d)))) := by
  constructor
  intro pins s σ H Q I h
  have T := E.cls
  obtain ⟨nm, q, N, bs, bm, sn, sub, ab, col, dd, k0, k1, k2, k3, k5, hC, hbm⟩ := T.cls
  refine attr_of rfl ?_
  refine wpAny_Call_Name_kw (ld_glob I hg hm ?_ hdb)
  refine PySem.W.callWith_K (h₀ := X.base) I.ok.mod.kin T.kC (thn ((pa_cons (pe_up he) pa_nil hst).run pos pins s σ H (fun vs H1 => ∃ v, vs = [v] ∧ ∀ a d, H1 a = none → H1 d = none → d ≠ a → Q v (upd (upd H1 d (exd d [(("value" : Str), v)])) a (exo a C (some d)))) I ⟨_, h, fun v H1 q => ⟨v, rfl, q⟩⟩) fun us s1 ⟨vs, H1, I1, r1, v0, ev0, q1⟩ => ⟨I1.kIn, ?_⟩) hst rfl
  subst ev0
  obtain ⟨u0, rfl, r0⟩ := L2.vals1 r1
  show wpAny _ _ (call (.ref C) [u0]) _ _ _
  obtain ⟨hp, g, dr, tk, os⟩ := s1
  have hsz : hp.objs.size ≤ hp.objs.size + 1 := Nat.le_succ _
  have hn : H1 (hp.objs.size + 1) = none := I1.hok.fresh hsz
  have kk : ∀ b o, hp.get? b = some o → ((hp.push (PySem.W.kdv_tup [u0])).push (PySem.HandSPX.excO C hp.objs.size)).get? b = some o := fun b o e => Heap.get?_push_of_some _ (Heap.get?_push_of_some _ e)
  have hget : ((hp.push (PySem.W.kdv_tup [u0])).push (PySem.HandSPX.excO C hp.objs.size)).get? (hp.objs.size + 1) = some (PySem.HandSPX.excO C hp.objs.size) := by heap_get
  have I2 : L2.Inv X pins σ (upd H1 (hp.objs.size + 1) (exo (hp.objs.size + 1) C none)) ⟨(hp.push (PySem.W.kdv_tup [u0])).push (PySem.HandSPX.excO C hp.objs.size), g, dr, tk, os⟩ :=
    I1.laid (t' := tk) (a := hp.objs.size + 1) (o := exo (hp.objs.size + 1) C none) (h' := (hp.push (PySem.W.kdv_tup [u0])).push (PySem.HandSPX.excO C hp.objs.size)) kk hsz (exo_ok hget)
  have r2 : Vals [V.ref (hp.objs.size + 1), v0] [Value.ref (hp.objs.size + 1), u0] := .cons rfl (.cons r0 .nil)
  have hq : spI X.K [.ref (hp.objs.size + 1), v0] (upd H1 (hp.objs.size + 1) (exo (hp.objs.size + 1) C none)) (fun y H2 => y = .non ∧ ∃ d, H2 (hp.objs.size + 1) = some (exo (hp.objs.size + 1) C (some d)) ∧ H2 d = some (exd d [(("value" : Str), v0)]) ∧ Q v0 H2) (fun _ _ _ => False) := by
    refine ⟨_, C, v0, rfl, T, E.no, upd_same, fun dx n ne => ⟨rfl, dx, upd_same, by rw [upd_ne ne, upd_same], ?_⟩⟩
    rw [upd_ne ne] at n
    have e1 : upd (upd (upd H1 (hp.objs.size + 1) (exo (hp.objs.size + 1) C none)) dx (exd dx [(("value" : Str), v0)])) (hp.objs.size + 1) (exo (hp.objs.size + 1) C (some dx)) = upd (upd H1 dx (exd dx [(("value" : Str), v0)])) (hp.objs.size + 1) (exo (hp.objs.size + 1) C (some dx)) := by
      funext b
      by_cases h1 : b = hp.objs.size + 1
      · rw [h1, upd_same, upd_same]
      · rw [upd_ne h1, upd_ne h1]
        by_cases h2 : b = dx
        · rw [h2, upd_same, upd_same]
        · rw [upd_ne h2, upd_ne h2, upd_ne h1]
    rw [e1]
    exact q1 _ dx hn n ne
  refine wpAny_call (PySem.HandSPX.call_own F.excBase_ValueError (fun Y => PySem.HandSPX.refsVE_contains Y bm hbm) (I1.kIn _ _ hC) (PySem.W.looks_findIn I1.kIn E.ini) (fun self => PySem.W.bind_fn I1.kIn self tI) (show 1 ≤ sizeLine by rw [sizeLine_eq]; decide)
    (codeAny_mono (F1.run _ X.stack _ _ ⟨[Value.ref (hp.objs.size + 1), u0], []⟩ [Value.ref (hp.objs.size + 1), u0] _ _ (fun _ _ _ => False) (hr.make C [u0] []) (I2.env0.make C [u0] []) (hb _ _ I2.kIn rfl) r2 hq) fun r s' hq' => ?_))
  cases r with
  | error er => exact hx pins σ _ _ er s' I2 hq'
  | ok fl =>
    cases fl with
    | ret u =>
      obtain ⟨v, H', I3, rv, ev, d, ea, ed, q3⟩ := I2.after hq'
      subst ev
      refine ⟨rv, ?_⟩
      obtain ⟨t1, hoe⟩ := exo_at I3.hok ea
      obtain ⟨mA, hns, hr⟩ := exd_at I3.hok ed
      obtain ⟨od, ho, hl⟩ := lookIn_ns hns
      obtain ⟨w, hw, rw'⟩ := RelO.some_of (v := v0) (o := mA "value") (by have := hr "value"; simpa [List.lookup] using this)
      exact HandSPX.exc_get I3.kIn (ox := _) ⟨hoe, rfl, by unfold PySem.W.notCls; rfl, by exact ho⟩ E.ga E.gg E.cls.exC (PySem.W.findObj_own E.hd E.no rfl (by rw [hl, hw])) (handed_of rw') ⟨v0, _, I3.tok _, rw', q3⟩
    | next => exact False.elim hq'
    | brk => exact False.elim hq'
    | cont => exact False.elim hq'
end
end Ev

set_option Elab.async false
set_option linter.all false
set_option maxHeartbeats 8000000
set_option maxRecDepth 100000
/-! expressions: the check is enough -/
namespace Ev
open PySem L2 PySem.Spec

def permL {α : Type} (p : List Nat) (l : List α) : List α := p.filterMap fun j => l[j]?
/-- a def of the table, as it stands behind the top -/
structure FnAt (CX : CXT) (X : Cx) (cf : CF) (i : Nat) (fn : Fn) (a : Addr) (fd : FuncData) (k : Nat) : Prop where
  mg : X.mg fn.nm = some (.ref a)
  kp : PySem.W.keepIn X.K (.ref a) = true
  bd : Binds X.K fd fn.ps []
  kb : ∀ q ∈ fn.kwp, ∀ (s : Shared) (us ws : List Value), (permL q.2 (us ++ ws)).length = fn.ps.length → ws.length = q.1.length → q.2.length = fn.ps.length → (us ++ ws).length = q.2.length → BindsTo s fd ⟨us, q.1.zip ws⟩ (fn.ps.zip (permL q.2 (us ++ ws)))
  ok : FnOk X.prog X.w X.K X.mg X.base CX k a fd fn.ps (spEv X.K X.mg cf i fn)
  room : Room k X.A
/-- what a class's name says -/
def NmC (mg : Str → Option Value) (c : Str) (cv : Value) : Prop := (∃ C, mg c = some (.ref C) ∧ cv = .ref C) ∨ (c = ("ValueError" : Str) ∧ mg c = none ∧ cv = .type "ValueError")
structure Good (T : Tb) (N : List Str) (CX : CXT) (cf : CF) (W : L2.WX) (bk : Option Scope) (sc : Scope) (X : Cx) : Prop where
  hsc : X.env.scope = sc
  hN : X.N = N
  nd : N.Nodup
  calm : X.calm = true
  hu : X.A.units + 65 < cLine
  hf : ∀ x, fnB bk sc x = true → X.fn x = true ∨ sc.names.lookup x = some .local
  blt : ∀ n ∈ (["len", "int", "list", "tuple", "all", "any", "sum", "min", "max", "abs", "sorted", "range", "zip", "enumerate", "isinstance", "bool", "str", "dict"] : List String), X.mg (n : Str) = none
  con : ∀ p ∈ T.cons, ∃ u v, X.mg p.1 = some u ∧ RelV v u ∧ ∀ M H, Rel X.K M H p.2 v
  gcd : T.gcd = true → X.mg ("gcd" : Str) = some (.builtin "math.gcd")
  prm : T.prm = true → X.mg ("permutations" : Str) = some (.type "itertools.permutations")
  fnv : ∀ n, T.fnv.contains n = true → ∃ a, X.mg n = some (.ref a) ∧ FnK X.K n a ∧ ∀ b, FnK X.K n b → b = a
  dcs : ∀ p ∈ T.dcs, ∃ d, X.mg p.1 = some (.ref d) ∧ ∀ z dd, p.2.lookup z = some dd → ∃ v, KDct X.K X.w d z v ∧ ∀ M H, Rel X.K M H dd v
  r2 : Room 2 X.A
  err : ∀ cn, T.errs.contains cn = true → ∃ (fI : Addr) (fd : FuncData) (Cl : Addr), ErrC X.K X.mg fI cn Cl ∧ PySem.W.typeIn X.K (.ref fI) = some (.type "function") ∧ FnOk X.prog X.w X.K X.mg X.base CX 1 fI fd NI (spI X.K) ∧ Binds X.K fd NI [] ∧ (∀ (s : Shared) (a u : Value), BindsTo s fd ⟨[a], [(("value" : Str), u)]⟩ (NI.zip [a, u]))
  isx : ∀ c, T.isx.contains c = true → ∃ cv : Value, NmC X.mg c cv ∧ ∀ cn, T.errs.contains cn = true → ∃ Cl, PySem.W.nsIn X.K mainGlobals cn = some (some (.ref Cl)) ∧ KitC X.K Cl ∧ PySem.W.kitOne X.K (.ref Cl) cv = some (isxB c cn)
  fns : ∀ i fn, T.tab[i]? = some fn → ∃ a fd k, FnAt CX X cf i fn a fd k
  pass : ∀ σ, PassesAt CX X σ (fun cls d H => W cls d σ H)
  cxF : ∀ l H s e s', CX l H s (fun _ _ _ => False) e s' → False
section
variable {T : Tb} {N : List Str} {CX : CXT} {cf : CF} {W : L2.WX} {bk : Option Scope} {sc : Scope} {X : Cx}
theorem Good.gl (G : Good T N CX cf W bk sc X) {x : Str} (h : glB sc x = true) : Gl X x := by
  show X.env.scope.names.lookup x = some .globalImplicit
  rw [G.hsc]
  exact glB_ok h
/-- not a star -/
def NoStar (e : Expr) : Prop := ∀ a p, e ≠ .Starred a p
theorem chkE_star {e : Expr} {p : Ex} (h : chkE T N bk sc p e = true) : NoStar e := by
  rintro a q rfl
  cases p <;> simp only [chkE] at h <;> cases h
theorem star_ok {e : Expr} {es : List Expr} {env : PySem.Env} (h : NoStar e) : starEach (e :: es) env = (false, eval e env) :: starEach es env := by
  cases e <;> first | rfl | exact absurd rfl (h _ _)
theorem stars_ok {env : PySem.Env} {pos : Pos} : ∀ {es : List Expr}, (∀ e ∈ es, NoStar e) → (backTo pos (starEach es env)).any (·.1) = false
  | [], _ => rfl
  | e :: es, h => by
    rw [star_ok (h e List.mem_cons_self)]
    show (false || (backTo pos (starEach es env)).any (·.1)) = false
    rw [stars_ok fun x q => h x (List.mem_cons_of_mem _ q)]
    rfl
theorem chkEs_star : ∀ {es : Exs} {xs : List Expr}, chkEs T N bk sc es xs = true → ∀ e ∈ xs, NoStar e
  | .nil, [], _, e, he => nomatch he
  | .nil, _ :: _, h, e, he => by simp [chkEs] at h
  | .cons a r, [], h, e, he => nomatch he
  | .cons a r, x :: ys, h, e, he => by
    simp only [chkEs, Bool.and_eq_true] at h
    rcases List.mem_cons.mp he with rfl | he
    · exact chkE_star h.1
    · exact chkEs_star h.2 e he
/-- tests that are no tests of their own kind -/
def PlainT (e : Expr) (env : PySem.Env) : Prop := ∀ whole, isTrue e env whole = (do let v ← whole; standAt e.pos; holding [v] (truthy v))
/-- what is shown of an expression -/
def SE (T : Tb) (N : List Str) (CX : CXT) (cf : CF) (p : Ex) : Prop :=
  ∀ (W : L2.WX) (bk : Option Scope) (sc : Scope) (X : Cx), Good T N CX cf W bk sc X → ∀ e, chkE T N bk sc p e = true →
    PE X e (tE ⟨X.K, X.mg, W⟩ (evE cf p)) ∧ PT X e (tT ⟨X.K, X.mg, W⟩ (tst (evE cf p)))
def SEs (T : Tb) (N : List Str) (CX : CXT) (cf : CF) (p : Exs) : Prop :=
  ∀ (W : L2.WX) (bk : Option Scope) (sc : Scope) (X : Cx), Good T N CX cf W bk sc X →
    (∀ es, chkEs T N bk sc p es = true → PA X es (tTs ⟨X.K, X.mg, W⟩ (evTs cf p)) ∧ PA X es (tAs ⟨X.K, X.mg, W⟩ (evAs cf p))) ∧
    (∀ es k, es ≠ [] → chkEs T N bk sc p es = true → ∀ pos, PE X (.BoolOp (if k then .And else .Or) es pos) (tE ⟨X.K, X.mg, W⟩ (evB cf k p)) ∧ PW X (.BoolOp (if k then .And else .Or) es pos) (tT ⟨X.K, X.mg, W⟩ (tst (evB cf k p)))) ∧
    (∀ kws ks, chkKs T N bk sc p ks kws = true → PK X kws (tAs ⟨X.K, X.mg, W⟩ (evAs cf p)) ∧ (∀ env pos, (backToKw pos (keywordEach kws env)).all (·.1.isSome) = true ∧ (backToKw pos (keywordEach kws env)).filterMap (·.1) = ks ∧ (backToKw pos (keywordEach kws env)).any (·.1.isNone) = false)) ∧
    (∀ fs, chkFs T N bk sc p fs = true → PTs X fs (tT ⟨X.K, X.mg, W⟩ (evFs cf p)))
def SO (T : Tb) (N : List Str) (CX : CXT) (cf : CF) (p : Oe) : Prop :=
  ∀ (W : L2.WX) (bk : Option Scope) (sc : Scope) (X : Cx), Good T N CX cf W bk sc X → ∀ e, chkO T N bk sc p e = true →
    PO X e (fun σ H Q => ∃ c M e, Sr X.K c M σ H e ∧ Ok ⟨X.K, X.mg, W⟩ c σ M H e (evO cf p e) fun o M' H' e' => Q o H')
def SI (T : Tb) (N : List Str) (CX : CXT) (cf : CF) (p : Itr) : Prop :=
  ∀ (W : L2.WX) (bk : Option Scope) (sc : Scope) (X : Cx), Good T N CX cf W bk sc X → ∀ e tg tt, chkI T N bk sc p e = true → tgOk p tg = true → tgOk2 p tt = true →
    PI X tg e (tI tt ⟨X.K, X.mg, W⟩ (evI cf p)) ∧ ∀ env x, foldedSetIterable e env x = pure x
theorem mkSE {p : Ex} {e : Expr} (G : Good T N CX cf W bk sc X) (h : PE X e (tE ⟨X.K, X.mg, W⟩ (evE cf p))) (ht : PlainT e X.env) : PE X e (tE ⟨X.K, X.mg, W⟩ (evE cf p)) ∧ PT X e (tT ⟨X.K, X.mg, W⟩ (tst (evE cf p))) :=
  ⟨h, pt_def h rfl ht⟩
theorem const_ok {g : G} {σ : L2.St} {H : Hp} {Q : VK} {d : D} {v : V} (hr : ∀ M H, Rel g.K M H d v) (h : tE g (Ev.M.pure (.val d)) σ H Q) : tC v σ H Q := by
  obtain ⟨c, M, e, s, h⟩ := h
  exact h M H s .refl .refl v (hr M H) trivial
theorem var_ok {g : G} {σ : L2.St} {H : Hp} {Q : VK} {i : Nat} (h : tE g (evE cf (.var i)) σ H Q) : tVar i σ H Q := by
  obtain ⟨c, M, e, s, h⟩ := h
  simp only [evE] at h
  cases hi : e[i]? with
  | none => rw [hi] at h; exact h.elim
  | some t =>
    rw [hi] at h
    cases t with
    | un => exact h.elim
    | val d =>
      obtain ⟨v, h1, h2⟩ := s.val i d hi
      exact ⟨v, h1, h M H s .refl .refl v h2 trivial⟩
    | own l d =>
      obtain ⟨a, h1, h2, h3, h4⟩ := s.own i l d hi
      exact ⟨.ref a, h1, h M H s .refl .refl (.ref a) ⟨h1, _, hi, fun z => nomatch z⟩ trivial⟩
theorem tup_ok {g : G} {σ : L2.St} {H : Hp} {Q : VK} {p : Ev.M (List D)} (h : tE g (p.bind fun ds => Ev.M.opt (if ds.length ≤ sizeLine then some (.val (.tuple ds)) else none)) σ H Q) : tTupF (tTs g p) σ H Q := by
  obtain ⟨c, M, e, s, h⟩ := h
  refine ⟨c, M, e, s, (Ok.bind h).imp fun ds M1 H1 e1 s1 x1 k1 h1 vs r => ?_⟩
  by_cases hz : ds.length ≤ sizeLine
  · rw [if_pos hz] at h1
    refine ⟨by rw [← r.length]; exact hz, fun q o ho hq => ?_⟩
    obtain ⟨s2, x2⟩ := s1.lay hq (.frz o (.tup vs))
    exact h1 M1 _ s2 x2 .refl _ (s1.newTup ho hq hz r) trivial
  · rw [if_neg hz] at h1; exact h1.elim
theorem lst_ok {g : G} {σ : L2.St} {H : Hp} {Q : VK} {p : Ev.M (List D)} (h : tE g (p.bind fun ds => Ev.M.opt (if ds.length ≤ sizeLine then some (.fresh (.list ds)) else none)) σ H Q) : tLst (tTs g p) σ H Q := by
  obtain ⟨c, M, e, s, h⟩ := h
  refine ⟨c, M, e, s, (Ok.bind h).imp fun ds M1 H1 e1 s1 x1 k1 h1 vs r => ?_⟩
  by_cases hz : ds.length ≤ sizeLine
  · rw [if_pos hz] at h1
    refine ⟨by rw [← r.length]; exact hz, fun q hq => ?_⟩
    obtain ⟨s2, x2⟩ := s1.layM hq (.lst vs)
    refine h1 _ _ s2 x2 .refl _ (s1.newList hq hz r) ?_
    intro a z
    cases z
    cases y : H q with
    | none => rfl
    | some u => exact absurd hq (x1.e5 q (by rw [y]; exact fun w => nomatch w))
  · rw [if_neg hz] at h1; exact h1.elim
theorem neg_ok {g : G} {σ : L2.St} {H : Hp} {Q : VK} {p : Ev.M Opd} (h : tE g ((pk p).bind fun dx => Ev.M.opt ((intD dx).map fun i => .val (.int (-i)))) σ H Q) : tUn (rU fun i => .int (-i)) (tE g p) σ H Q := by
  refine one_ok (f := fun dx => (intD dx).map fun i => .val (.int (-i))) ?_ h
  intro c M σ H e x d1 o Q s t ho fin
  cases d1 <;> simp only [intD] at ho <;> first | (cases ho; done) | skip
  cases ho
  exact ⟨_, t.int, fin.int s⟩
theorem rev_ok {g : G} {σ : L2.St} {H : Hp} {Q : VK} {p : Ev.M Opd} (h : tE g ((pk p).bind fun dx => Ev.M.opt (revD dx)) σ H Q) : tTurn g.K (tE g p) σ H Q := by
  refine one_ok (r := fun x H1 Q => (∃ a xs, x = .ref a ∧ SqL g.K H1 a xs ∧ ∀ p, H1 p = none → Q (.ref p) (upd H1 p (.lst xs.reverse))) ∨
    (∃ a xs, x = .ref a ∧ SqT g.K H1 a xs ∧ ∀ (p : Addr) (o : Obj), o.dict = none → H1 p = none → Q (.ref p) (upd H1 p (.frz o (.tup xs.reverse))))) ?_ h
  intro c M σ H e x d1 o Q s t ho fin
  cases d1 <;> simp only [revD] at ho <;> first | (cases ho; done) | skip
  · cases ho
    obtain ⟨a, vs, rfl, h1, z, r⟩ := t.list
    exact .inl ⟨a, vs, rfl, .inl h1, fin.list s (by rw [List.length_reverse]; exact z) r.reverse⟩
  · cases ho
    obtain ⟨a, vs, rfl, h1, z, r⟩ := t.tuple
    exact .inr ⟨a, vs, rfl, h1, fin.tup s (by rw [List.length_reverse]; exact z) r.reverse⟩
theorem chain_ok {g : G} {σ : L2.St} {H : Hp} {Q : VK} {op op' : Cop} {a b c' : Ev.M Opd}
    (h : tE g (a.bind fun x => b.bind fun y => (der (peek x)).bind fun dx => (der (peek y)).bind fun dy =>
      (Ev.M.opt (cmpD op dx dy)).bind fun t => if t then c'.bind fun z => (der (peek y)).bind fun dy => (der (peek z)).bind fun dz => Ev.M.opt ((cmpD op' dy dz).map fun b => .val (.bool b)) else Ev.M.pure (.val (.bool false))) σ H Q) :
    tChain (rC g.K op) (rC g.K op') (tE g a) (tE g b) (tE g c') σ H Q := by
  obtain ⟨c, M, e, s, h⟩ := h
  refine ⟨c, M, e, s, (Ok.bind h).imp fun o1 M1 H1 e1 s1 x1 k1 h1 v1 r1 f1 => ?_⟩
  refine ⟨c, M1, e1, s1, (Ok.bind h1).imp fun o2 M2 H2 e2 s2 x2 k2 h2 v2 r2 f2 => ?_⟩
  obtain ⟨d1, t1, h2⟩ := Ok.der s2 (s1.opd x2 k2 r1) h2
  obtain ⟨d2, t2, h2⟩ := Ok.der s2 r2 h2
  obtain ⟨t, ht, h2⟩ := Ok.optB h2
  refine cmp_ok (c := c) (e := e2) t1 t2 ht ⟨t, rfl, ?_⟩
  cases t with
  | false =>
    rw [if_neg Bool.false_ne_true] at h2 ⊢
    exact h2 M2 H2 s2 .refl .refl (.bl false) (by simp only [OR, Rel]) trivial
  | true =>
    rw [if_pos rfl] at h2 ⊢
    refine ⟨c, M2, e2, s2, (Ok.bind h2).imp fun o3 M3 H3 e3 s3 x3 k3 h3 v3 r3 f3 => ?_⟩
    obtain ⟨d2', t2', h3⟩ := Ok.der s3 (s2.opd x3 k3 r2) h3
    obtain ⟨d3, t3, h3⟩ := Ok.der s3 r3 h3
    obtain ⟨o, ho, h3⟩ := Ok.opt h3
    cases hc : cmpD op' d2' d3 with
    | none => rw [hc] at ho; cases ho
    | some bb =>
      rw [hc] at ho
      cases ho
      exact cmp_ok (c := c) (e := e3) t2' t3 hc (h3 M3 H3 s3 .refl (.bl bb) (by simp only [OR, Rel]) trivial)
theorem isB_chain {op op' : Cop} {a b c' : Ev.M Opd} : IsB (a.bind fun x => b.bind fun y => (der (peek x)).bind fun dx => (der (peek y)).bind fun dy =>
      (Ev.M.opt (cmpD op dx dy)).bind fun t => if t then c'.bind fun z => (der (peek y)).bind fun dy => (der (peek z)).bind fun dz => Ev.M.opt ((cmpD op' dy dz).map fun b => .val (.bool b)) else Ev.M.pure (.val (.bool false))) := by
  intro e o e' h
  unfold Ev.M.bind at h
  simp only at h
  split at h <;> first | (cases h; done) | skip
  split at h <;> first | (cases h; done) | skip
  split at h <;> first | (cases h; done) | skip
  split at h <;> first | (cases h; done) | skip
  split at h <;> first | (cases h; done) | skip
  rename_i t _ _
  cases t with
  | false => cases h; exact ⟨_, rfl⟩
  | true =>
    rw [if_pos rfl] at h
    split at h <;> first | (cases h; done) | skip
    split at h <;> first | (cases h; done) | skip
    split at h <;> first | (cases h; done) | skip
    exact optB_ok h
end
end Ev

set_option Elab.async false
set_option linter.all false
set_option maxHeartbeats 8000000
set_option maxRecDepth 100000
namespace Ev
open PySem L2 PySem.Spec
section
variable {T : Tb} {N : List Str} {CX : CXT} {cf : CF} {W : L2.WX} {bk : Option Scope} {sc : Scope} {X : Cx}
/-! ### own parts: isinstance, list(range), slices, calls -/
theorem ty_boot (t : Ty) : bootBuiltins (tyName t : Str) = some (.type (tyName t)) := by cases t <;> decide +kernel
theorem G_ty (G : Good T N CX cf W bk sc X) (t : Ty) : X.mg (tyName t : Str) = none := by cases t <;> exact G.blt _ (by simp [tyName])
theorem nm_ty (t : Ty) : ((tyName t : Str) ≠ ("__name__" : Str)) ∧ (((tyName t : Str) == ("__debug__" : Str)) = false) := by cases t <;> decide +kernel
theorem t1_ok (G : Good T N CX cf W bk sc X) {t : Ty} {e : Expr} (h : chkT1 sc t e = true) : PE X e (tC (.ty (tyName t))) ∧ NoStar e := by
  cases e with
  | Name x pos =>
    simp only [chkT1, Bool.and_eq_true, decide_eq_true_eq] at h
    obtain ⟨rfl, h2⟩ := h
    exact ⟨pe_bltn (G.gl h2) (G_ty G t) (ty_boot t) rfl (nm_ty t).1 (nm_ty t).2, fun _ _ z => nomatch z⟩
  | _ => simp [chkT1] at h
def tTys (ts : List Ty) : TA := fun σ H Q => Q (ts.map fun t => V.ty (tyName t)) H
theorem ts_ok (G : Good T N CX cf W bk sc X) : ∀ {ts : List Ty} {es : List Expr}, chkTs sc ts es = true → PA X es (tTys ts)
  | [], [], _ => pa_nil
  | [], _ :: _, h => by simp [chkTs] at h
  | _ :: _, [], h => by simp [chkTs] at h
  | t :: ts, e :: es, h => by
    simp only [chkTs, Bool.and_eq_true] at h
    have h1 := t1_ok G h.1
    exact PA.mono (pa_cons h1.1 (ts_ok G h.2) (star_ok h1.2)) fun σ H Q q => q
/-- a datum's type -/
def tyOf : D → String
  | .none => "NoneType" | .bool _ => "bool" | .int _ => "int" | .str _ => "str" | .list _ => "list" | .tuple _ => "tuple" | .dict _ => "dict"
theorem TopV.grow {K : PySem.W.Frag} {M : Addr → Prop} {H H' : Hp} {d : D} {v : V} (t : TopV K M H d v) (up : ∀ b x, H b = some x → H' b = some x) : TopV K M H' d v := by
  rcases t with t | ⟨a, e, t⟩
  · exact .inl (Rel.ext (fun b x q _ => up b x q) (fun b q => .inl q) d v t)
  · cases d with
    | list ds =>
      obtain ⟨vs, h1, h2, h3⟩ := t
      exact .inr ⟨a, e, vs, up _ _ h1, h2, Rels.ext (fun b x q _ => up b x q) (fun b q => .inl q) _ _ h3⟩
    | _ => exact t.elim
theorem tyx {K : PySem.W.Frag} {M : Addr → Prop} {H : Hp} {d : D} {v : V} (t : TopV K M H d v) (hf : isFnD d = false) : TyX K H v (.type (tyOf d)) := by
  cases d with
  | none => rw [t.none]; exact .base .non
  | bool b => rw [t.bool]; exact .base (.bl _)
  | int i => rw [t.int]; exact .base (.int _)
  | str i => rw [t.str]; exact .base (.str _)
  | list ds =>
    obtain ⟨a, vs, rfl, h, _⟩ := t.list
    rcases h with h | ⟨o, h⟩
    · exact .base (.lst h)
    · exact .base (.frz h)
  | tuple ds =>
    obtain ⟨a, vs, rfl, h, _⟩ := t.tuple
    rcases h with h | ⟨o, its, n, h1, h2, _⟩
    · rcases h with h | ⟨o, h⟩
      · exact .base (.tup h)
      · exact .fTuple h
    · exact .kTuple h1 h2
  | dict kv =>
    obtain ⟨a, kv, rfl, h⟩ := t.dict hf
    exact .base (.dK h)
def isTyS : Ty → String → Bool
  | .int, n => n == "int" || n == "bool"
  | t, n => n == tyName t
theorem kitS (t : Ty) : ∀ n ∈ ["NoneType", "bool", "int", "str", "list", "tuple", "dict"], kitB n (tyName t) = some (isTyS t n) := by
  cases t <;> decide +kernel
theorem isTy_of (t : Ty) (d : D) : isTyS t (tyOf d) = isTy t d := by
  cases t <;> cases d <;> rfl
theorem tyOf_mem (d : D) : tyOf d ∈ ["NoneType", "bool", "int", "str", "list", "tuple", "dict"] := by
  cases d <;> simp [tyOf]
theorem kit1 {K : PySem.W.Frag} (d : D) (t : Ty) : PySem.W.kitOne K (.type (tyOf d)) (.type (tyName t)) = some (isTy t d) := by
  rw [← isTy_of]
  exact kit_ty (kitS t _ (tyOf_mem d))
theorem kits {K : PySem.W.Frag} (d : D) : ∀ ts : List Ty, PySem.W.kitAny K (.type (tyOf d)) (ts.map fun t => .type (tyName t)) = some (ts.any fun t => isTy t d)
  | [] => rfl
  | t :: ts => by
    refine kitAny_cons (kit1 d t) (fun h => ?_) (fun h => ?_)
    · rw [List.any_cons, h, Bool.false_or]
      exact kits d ts
    · rw [List.any_cons, h, Bool.true_or]
theorem cls_all : ∀ ts : List Ty, Paired ClsV (ts.map fun t => V.ty (tyName t)) (ts.map fun t => Value.type (tyName t))
  | [] => .nil
  | t :: ts => .cons (.ty _) (cls_all ts)
theorem isi_ok (G : Good T N CX cf W bk sc X) {p : Ev.M Opd} {ts : List Ty} {y z : Expr} {x : Str} {p1 pos : Pos} (hx : x = ("isinstance" : Str)) (hg : glB sc x = true) (hy : PE X y (tE ⟨X.K, X.mg, W⟩ p)) (ny : NoStar y) (hz : chkTy sc ts z = true) :
    PE X (.Call (.Name x p1) [y, z] [] pos) (tE ⟨X.K, X.mg, W⟩ ((pk p).bind fun dx => Ev.M.opt (if isFnD dx = true then none else some (.val (.bool (ts.any fun t => isTy t dx)))))) := by
  subst hx
  have hm : X.mg ("isinstance" : Str) = none := G.blt "isinstance" (by decide)
  have key : ∀ {σ : L2.St} {H : Hp} {Q : VK}, tE ⟨X.K, X.mg, W⟩ ((pk p).bind fun dx => Ev.M.opt (if isFnD dx = true then none else some (.val (.bool (ts.any fun t => isTy t dx))))) σ H Q →
      tE ⟨X.K, X.mg, W⟩ p σ H fun v H1 => ∃ d : D, ∀ q : Hp, (∀ b o, H1 b = some o → q b = some o) → TyX X.K q v (.type (tyOf d)) ∧ Q (.bl (ts.any fun t => isTy t d)) q := by
    rintro σ H Q ⟨c, M, e, s, h⟩
    refine ⟨c, M, e, s, (Ok.bind (Ok.bind h)).imp fun o1 M1 H1 e1 s1 x1 k1 h1 v1 r1 f1 => ?_⟩
    obtain ⟨d, t, h2⟩ := Ok.derL s1 r1 h1
    have hf : isFnD d = false := by
      cases q : isFnD d with
      | false => rfl
      | true => rw [q, if_pos rfl] at h2; exact h2.elim
    rw [hf, if_neg Bool.false_ne_true] at h2
    refine ⟨d, fun q up => ?_⟩
    obtain ⟨s2, x2⟩ := s1.grow up
    exact ⟨tyx (t.grow up) hf, h2 M1 q s2 x2 .refl _ (by simp only [OR, Rel]) trivial⟩
  have up : ∀ {H1 : Hp} {q : Addr} {o : HO}, H1 q = none → ∀ b z, H1 b = some z → upd H1 q o b = some z := fun hq b z hb => by rw [upd_ne (ne_of_none hb hq)]; exact hb
  cases z with
  | Name w p2 =>
    cases ts with
    | nil => simp [chkTy] at hz
    | cons t ts =>
      cases ts with
      | cons _ _ => simp [chkTy] at hz
      | nil =>
        have h1 := t1_ok G (show chkT1 sc t (.Name w p2) = true from hz)
        refine PE.mono (pe_callB call_isi (G.gl hg) hm (by decide +kernel) (pa_cons hy (pa_cons h1.1 pa_nil (star_ok h1.2)) (star_ok ny)) (by decide) (by decide) (star_ok ny) (stars_ok (by intro e he; rcases List.mem_cons.mp he with rfl | he; exact h1.2; exact nomatch he))) fun σ H Q h => ?_
        obtain ⟨c, M, e, s, h⟩ := key h
        refine ⟨c, M, e, s, h.imp fun o M1 H1 e1 s1 x1 k1 q v r f => ?_⟩
        obtain ⟨d, h4⟩ := q v r f
        obtain ⟨h2, h5⟩ := h4 H1 fun b o q => q
        exact ⟨v, .ty (tyName t), .type (tyOf d), .type (tyName t), isTy t d, rfl, .ty _, h2, kit1 d t, by simpa using h5⟩
  | Tuple es k2 p2 =>
    have hz' : ts.length ≤ 30 ∧ chkTs sc ts es = true := by
      cases ts with
      | nil => simpa [chkTy] using hz
      | cons t ts => cases ts <;> simpa [chkTy] using hz
    have h1 := pe_tup (x1 := k2) (pos := p2) (ts_ok G hz'.2)
    refine PE.mono (pe_callB call_isiT (G.gl hg) hm (by decide +kernel) (pa_cons hy (pa_cons h1 pa_nil rfl) (star_ok ny)) (by decide) (by decide) (star_ok ny) rfl) fun σ H Q h => ?_
    obtain ⟨c, M, e, s, h⟩ := key h
    refine ⟨c, M, e, s, h.imp fun o M1 H1 e1 s1 x1 k1 q v r f => ?_⟩
    obtain ⟨d, h4⟩ := q v r f
    refine ⟨by rw [List.length_map]; exact Nat.le_trans hz'.1 (by decide), fun tp htp => ?_⟩
    obtain ⟨h2, h5⟩ := h4 _ (up htp)
    exact ⟨v, tp, _, .type (tyOf d), _, ts.any fun t => isTy t d, rfl, upd_same, cls_all ts, h2, kits d ts, h5⟩
  | _ =>
    exfalso
    cases ts with
    | nil => simp [chkTy] at hz
    | cons t ts => cases ts <;> simp [chkTy] at hz
end
end Ev

set_option Elab.async false
set_option linter.all false
set_option maxHeartbeats 8000000
set_option maxRecDepth 100000
namespace Ev
open PySem L2 PySem.Spec
section
variable {T : Tb} {N : List Str} {CX : CXT} {cf : CF} {W : L2.WX} {bk : Option Scope} {sc : Scope} {X : Cx}
/-! ### calls -/
theorem doCall_tA {g : G} {f : Nat} {fn : Fn} {p : Ev.M (List Opd)} (hps : fn.lent.length = fn.ps.length) {σ : L2.St} {H : Hp} {Q : VK} (h : tE g (p.bind fun os => doCall cf f fn.lent os) σ H Q) :
    tAs g p σ H fun vs H1 => spEv g.K g.mg cf f fn vs H1 Q (fun cls d H => g.W cls d σ H) := by
  obtain ⟨c, M, e, s, h⟩ := h
  exact ⟨c, M, e, s, (Ok.bind h).imp fun os M1 H1 e1 s1 x1 k1 h1 vs r nf => call_ok s1 r hps h1 x1.e5⟩
theorem pe_own (G : Good T N CX cf W bk sc X) {f : Nat} {fn : Fn} {x : Str} {p1 pos : Pos} {xs : List Expr} {p : Ev.M (List Opd)} (hf : T.tab[f]? = some fn) (hx : fn.nm = x) (hps : fn.lent.length = fn.ps.length) (hg : glB sc x = true) (hn : nmB x = true)
    (ha : PA X xs (tAs ⟨X.K, X.mg, W⟩ p)) (hs : ∀ e ∈ xs, NoStar e) (h0 : xs = [] → p = Ev.M.pure []) : PE X (.Call (.Name x p1) xs [] pos) (tE ⟨X.K, X.mg, W⟩ (p.bind fun os => doCall cf f fn.lent os)) := by
  obtain ⟨a, fd, k, F⟩ := G.fns f fn hf
  have hdb := (nmB_ok hn).1
  have hm : X.mg x = some (.ref a) := by rw [← hx]; exact F.mg
  cases xs with
  | nil =>
    refine ⟨fun pins s σ H Q I h => ?_⟩
    refine wpAny_Call_Name_kw (ld_glob I (G.gl hg) hm ?_ hdb)
    refine PySem.W.callWith_K0 I.kIn F.kp (run_fnS (us := []) (E := fun σ cls d H => W cls d σ H) F.ok F.room F.bd (G.pass σ) I .nil ?_)
    have := doCall_tA hps h
    rw [h0 rfl] at this
    exact as_nil this
  | cons e es =>
    exact PE.mono (pe_callS (E := fun σ cls d H => W cls d σ H) F.ok F.room (G.gl hg) hm F.kp F.bd G.pass ha hdb (star_ok (hs e List.mem_cons_self)) (stars_ok fun z q => hs z (List.mem_cons_of_mem _ q))) fun σ H Q h => doCall_tA hps h
theorem look_mem {n : Str} {q : Nat × List Bool} : ∀ {fs : List (Str × Nat × List Bool)}, fs.lookup n = some q → (n, q) ∈ fs
  | [], h => nomatch h
  | (m, r) :: fs, h => by
    rw [List.lookup_cons] at h
    split at h
    · rename_i hb
      cases h
      rw [eq_of_beq hb]
      exact List.mem_cons_self
    · exact List.mem_cons_of_mem _ (look_mem h)
theorem pe_callV (G : Good T N CX cf W bk sc X) {i : Nat} {fs : List (Str × Nat × List Bool)} {x : Str} {p1 pos : Pos} {y : Expr} {xs : List Expr} {p : Ev.M (List Opd)} (hN : N[i]? = some x) (hv : visB sc x = true) (hn : nmB x = true) (hfs : fnvB T fs = true)
    (ha : PA X (y :: xs) (tAs ⟨X.K, X.mg, W⟩ p)) (hs : ∀ e ∈ y :: xs, NoStar e) :
    PE X (.Call (.Name x p1) (y :: xs) [] pos) (tE ⟨X.K, X.mg, W⟩ (fun e => match fnAt e i fs with
      | some q => M.bind p (fun os => doCall cf q.1 q.2 os) e
      | none => .stuck)) := by
  refine ⟨fun pins s σ H Q I h => ?_⟩
  obtain ⟨c, M, e, sr, h⟩ := h
  simp only at h
  cases hq : fnAt e i fs with
  | none => rw [hq] at h; exact h.elim
  | some q =>
    rw [hq] at h
    simp only at h
    unfold fnAt at hq
    split at hq
    · rename_i kvs he
      obtain ⟨n, hf, hl⟩ := Option.bind_eq_some_iff.mp hq
      obtain ⟨v, hσ, rel⟩ := sr.val i _ he
      obtain ⟨a, rfl, hk⟩ := TopV.fnc (.inl rel) hf
      have hm := List.all_eq_true.mp hfs _ (look_mem hl)
      rw [Bool.and_eq_true] at hm
      obtain ⟨h1, h2⟩ := hm
      split at h2
      · rename_i fn hfn
        simp only [Bool.and_eq_true, decide_eq_true_eq] at h2
        obtain ⟨⟨h3, h4⟩, h5⟩ := h2
        obtain ⟨a', fd, k, F⟩ := G.fns _ _ hfn
        obtain ⟨a2, g1, g2, g3⟩ := G.fnv _ h1
        have e1 := F.mg
        rw [h3, g1] at e1
        cases e1
        cases g3 a hk
        have hz := nmB_ok hn
        rw [← h4] at h
        have ht := doCall_tA h5 (g := ⟨X.K, X.mg, W⟩) (cf := cf) (f := q.1) (fn := fn) (p := p) (Q := Q) (σ := σ) (H := H) ⟨c, M, e, sr, h⟩
        refine wpAny_Call_Name_kw (thn ((pe_var (pos := p1) (by rw [G.hN]; exact hN) (by rw [G.hsc]; exact visB_ok hv) hz.1 hz.2.1).run pins s σ H (fun v H1 => v = .ref a ∧ H1 = H) I ⟨.ref a, hσ, rfl, rfl⟩) fun u s1 ⟨v, H1, I1, r1, q1⟩ => ?_)
        obtain ⟨rfl, rfl⟩ := q1
        cases r1
        refine PySem.W.callWith_K (h₀ := X.base) I.ok.mod.kin F.kp (thn (ha.run pos pins s1 σ _ _ I1 ht) fun us s2 ⟨vs, H2, I2, r, q⟩ => ⟨I2.kIn, ?_⟩) (star_ok (hs y List.mem_cons_self)) (stars_ok fun z q => hs z (List.mem_cons_of_mem _ q))
        exact run_fnS (E := fun σ cls d H => W cls d σ H) F.ok F.room F.bd (G.pass σ) I2 r q
      · cases h2
    · cases hq
theorem callG_tA {g : G} {f : Nat} {fn : Fn} {p : Ev.M Opd} {q : Ev.M (List Opd)} (hps : fn.lent.length = fn.ps.length) {σ : L2.St} {H : Hp} {Q : VK} (h : tE g (callGM cf f fn.lent p q) σ H Q) :
    tCons (tE g p) (tAs g q) σ H fun vs H1 => spEv g.K g.mg cf f fn vs H1 Q (fun cls d H => g.W cls d σ H) := by
  obtain ⟨c, M, e, s, h⟩ := h
  unfold callGM at h
  refine ⟨c, M, e, s, ?_⟩
  cases hp : p e with
  | stuck => rw [hp] at h; exact h.elim
  | exc cn d e1 => rw [hp] at h; exact h.elim
  | ok o1 e1 =>
    rw [hp] at h
    cases o1 with
    | val d => exact h.elim
    | slot i => exact h.elim
    | fresh d0 =>
      simp only at h
      intro M1 H1 s1 x1 k1 v0 r0 f0
      refine ⟨c, M1, e1, s1, ?_⟩
      cases hq : q e1 with
      | stuck => rw [hq] at h; exact h.elim
      | exc cn d e2 => rw [hq] at h; exact h.elim
      | ok os e2 =>
        rw [hq] at h
        simp only at h
        intro M2 H2 s2 x2 k2 vs r nf
        have r2 := s1.opd x2 k2 r0
        obtain ⟨a, rfl, ha, ht, h0, hw⟩ := r2
        have hHa : H a = none := f0 a rfl
        unfold doCallG at h
        split at h
        · rename_i ls hls
          split at h
          · rename_i ds hds
            obtain ⟨z1, z2, z3⟩ := arg_slots s2 r hds
            have hlen : lentAs ls vs = [] := by
              revert z1
              cases lentAs ls vs with
              | nil => intro _; rfl
              | cons _ _ => intro q; exact q.elim
            have hl2 : lentAs fn.lent (V.ref a :: vs) = [a] := by
              rw [hls]
              show a :: lentAs ls vs = _
              rw [hlen]
            have hrel := arg_rel (B := fun _ => False) s2 r hds (fun i hi => nomatch hi) (fun i hi => nomatch hi)
            have harg : ArgR g.K (fun b => M2 b ∧ ¬ False) H2 fn.lent (d0 :: ds) (V.ref a :: vs) := by
              rw [hls]
              refine ⟨?_, hrel⟩
              rw [if_pos rfl]
              exact ⟨a, rfl, ⟨ha, id⟩, ht.less fun b q => q.1⟩
            refine ⟨fun b => M2 b ∧ ¬ False, d0 :: ds, fun b q => s2.mh b q.1, ?_, harg, ?_, ?_⟩
            · rw [← hps, hls, List.length_cons, List.length_cons, z3]
            · rw [hl2]
              simp
            · rw [hl2]
              cases hcf : cf f (d0 :: ds) with
              | stuck => rw [hcf] at h; exact h.elim
              | exc cn d => rw [hcf] at h; exact h.elim
              | ok fr d lsr =>
                rw [hcf] at h
                simp only at h ⊢
                intro v M' H' A O L
                have same : ∀ b x, H2 b = some x → b ≠ a → H' b = some x := fun b x hb hne => A.same b x hb fun hm => hne (List.mem_singleton.mp hm)
                have wra : ∀ b, Wr σ e2 b → b ≠ a := fun b w z => hw (by rw [← z]; exact w)
                have up : ∀ b, M2 b → M' b := fun b q => A.up b ⟨q, id⟩
                have dn : ∀ b, M' b → M2 b ∨ H2 b = none := fun b q => (A.dn b q).imp (fun z => z.1) id
                have rel : ∀ d v, Rel g.K M2 H2 d v → Rel g.K M' H' d v := fun d v => Rel.ext (fun b x hb hm => same b x hb fun z => hm (by rw [z]; exact ha)) dn d v
                have s3 : Sr g.K c M' σ H' e2 := by
                  refine ⟨s2.len, fun i d hi => ?_, fun i l d hi => ?_, s2.inj, fun b x hb hl => same b x (s2.keep b x hb hl) fun z => ?_, fun b q => up b (s2.m0 b q), fun b q => ?_, fun b q => A.mh b q, s2.c0, s2.c1⟩
                  · obtain ⟨w, h1, h2⟩ := s2.val i d hi
                    exact ⟨w, h1, rel d w h2⟩
                  · obtain ⟨b, h1, h2, h3, h4⟩ := s2.own i l d hi
                    refine ⟨b, h1, up b h2, ?_, h4⟩
                    cases d with
                    | list xs =>
                      obtain ⟨ws, w1, w2, w3⟩ := h3
                      exact ⟨ws, same b _ w1 (wra b ⟨i, l, _, hi, h1⟩), w2, Rels.ext (fun b x hb hm => same b x hb fun z => hm (by rw [z]; exact ha)) dn xs ws w3⟩
                    | _ => exact h3.elim
                  · rw [z, h0] at hb; cases hb
                  · rcases dn b q with q | q
                    · exact s2.m1 b q
                    · exact .inr (s2.born q)
                have x3 := x1.trans x2
                have x4 : Ext σ M H e M' H' e2 := by
                  refine ⟨fun b x hb w => same b x (x3.e1 b x hb w) fun z => ?_, fun b q => ?_, fun b q w => up b (x3.e3 b q w), x3.e4, fun b q => A.kp b (x3.e5 b q)⟩
                  · rw [z, hHa] at hb; cases hb
                  · rcases dn b q with q | q
                    · exact x3.e2 b q
                    · cases z : H b with
                      | none => exact .inr rfl
                      | some o => exact absurd q (x3.e5 b (by rw [z]; exact fun w => nomatch w))
                refine h M' H' s3 x4 (k1.trans k2) v ?_ ?_
                · cases fr with
                  | true =>
                    obtain ⟨b, o1, o2, o3, o4⟩ := (show ∃ a, v = .ref a ∧ M' a ∧ Top g.K M' H' d a ∧ H2 a = none from by simpa [OutR] using O)
                    exact ⟨b, o1, o2, o3, s2.born o4, fun w => s2.mh b (s2.wr w) o4⟩
                  | false => exact (show Rel g.K M' H' d v from by simpa [OutR] using O)
                · cases fr with
                  | true =>
                    obtain ⟨b, o1, o2, o3, o4⟩ := (show ∃ a, v = .ref a ∧ M' a ∧ Top g.K M' H' d a ∧ H2 a = none from by simpa [OutR] using O)
                    intro a' q
                    rw [o1] at q
                    cases q
                    cases z : H b with
                    | none => rfl
                    | some u => exact absurd o4 (x3.e5 b (by rw [z]; exact fun y => nomatch y))
                  | false => trivial
          · exact h.elim
        · exact h.elim
theorem pe_ownG (G : Good T N CX cf W bk sc X) {f : Nat} {fn : Fn} {x : Str} {p1 pos : Pos} {y : Expr} {xs : List Expr} {p : Ev.M Opd} {q : Ev.M (List Opd)} (hf : T.tab[f]? = some fn) (hx : fn.nm = x) (hps : fn.lent.length = fn.ps.length) (hg : glB sc x = true) (hn : nmB x = true)
    (hy : PE X y (tE ⟨X.K, X.mg, W⟩ p)) (ny : NoStar y) (ha : PA X xs (tAs ⟨X.K, X.mg, W⟩ q)) (hs : ∀ e ∈ xs, NoStar e) : PE X (.Call (.Name x p1) (y :: xs) [] pos) (tE ⟨X.K, X.mg, W⟩ (callGM cf f fn.lent p q)) := by
  obtain ⟨a, fd, k, F⟩ := G.fns f fn hf
  have hdb := (nmB_ok hn).1
  have hm : X.mg x = some (.ref a) := by rw [← hx]; exact F.mg
  exact PE.mono (pe_callS (E := fun σ cls d H => W cls d σ H) F.ok F.room (G.gl hg) hm F.kp F.bd G.pass (pa_cons hy ha (star_ok ny)) hdb (star_ok ny) (stars_ok hs)) fun σ H Q h => callG_tA hps h
theorem ORs.get {K : PySem.W.Frag} {c : C} {M : Addr → Prop} {σ : L2.St} {H : Hp} {e : Fm} : ∀ {os : List Opd} {vs : List V} {j : Nat} {o : Opd}, ORs K c M σ H e os vs → os[j]? = some o → ∃ v, vs[j]? = some v ∧ OR K c M σ H e o v
  | [], _, _, _, _, h => by simp at h
  | o :: os, vs, 0, o', r, h => by
    obtain ⟨v, rs, rfl, q, t⟩ := r
    simp at h
    subst h
    exact ⟨v, rfl, q⟩
  | o :: os, vs, j + 1, o', r, h => by
    obtain ⟨v, rs, rfl, q, t⟩ := r
    obtain ⟨w, h1, h2⟩ := ORs.get (j := j) t (by simpa using h)
    exact ⟨w, by simpa using h1, h2⟩
theorem ORs.perm {K : PySem.W.Frag} {c : C} {M : Addr → Prop} {σ : L2.St} {H : Hp} {e : Fm} {os : List Opd} {vs : List V} (r : ORs K c M σ H e os vs) : ∀ {p : List Nat} {os' : List Opd}, p.mapM (fun j => os[j]?) = some os' → ORs K c M σ H e os' (permL p vs) ∧ os'.length = p.length
  | [], os', h => by cases h; exact ⟨rfl, rfl⟩
  | j :: p, os', h => by
    obtain ⟨o, os2, h1, h2, rfl⟩ := mapM_cons h
    obtain ⟨v, h3, h4⟩ := r.get h1
    obtain ⟨h5, h6⟩ := ORs.perm r h2
    refine ⟨⟨v, permL p vs, ?_, h4, h5⟩, by simp [h6]⟩
    unfold permL
    rw [List.filterMap_cons, h3]
theorem ORs.append {K : PySem.W.Frag} {c : C} {M : Addr → Prop} {σ : L2.St} {H : Hp} {e : Fm} : ∀ {os zs : List Opd} {vs ws : List V}, ORs K c M σ H e os vs → ORs K c M σ H e zs ws → ORs K c M σ H e (os ++ zs) (vs ++ ws)
  | [], zs, vs, ws, r, t => by cases (show vs = [] from r); exact t
  | o :: os, zs, vs, ws, r, t => by
    obtain ⟨v, rs, rfl, q, u⟩ := r
    exact ⟨v, rs ++ ws, rfl, q, ORs.append u t⟩
theorem ORs.len {K : PySem.W.Frag} {c : C} {M : Addr → Prop} {σ : L2.St} {H : Hp} {e : Fm} : ∀ {os : List Opd} {vs : List V}, ORs K c M σ H e os vs → os.length = vs.length
  | [], vs, r => by cases (show vs = [] from r); rfl
  | o :: os, vs, r => by
    obtain ⟨v, rs, rfl, q, u⟩ := r
    simp [ORs.len u]
theorem Vals.perm {vs : List V} {us : List Value} (r : Vals vs us) : ∀ {p : List Nat}, Vals (permL p vs) (permL p us)
  | [] => .nil
  | j :: p => by
    unfold permL
    rw [List.filterMap_cons, List.filterMap_cons]
    cases h : vs[j]? with
    | none => rw [L2.Vals.none_of r h]; exact Vals.perm r
    | some v =>
      obtain ⟨u, h1, h2⟩ := L2.Vals.get r h
      rw [h1]
      exact .cons h2 (Vals.perm r)
/-- the reading of a call with keywords -/
theorem doCallK_tA {g : G} {f : Nat} {fn : Fn} {p q : Ev.M (List Opd)} {perm : List Nat} {ks : List Str} (hps : fn.lent.length = fn.ps.length) {σ : L2.St} {H : Hp} {Q : VK} (h : tE g (p.bind fun os => q.bind fun zs => (Ev.M.opt (permO perm ks os zs)).bind fun os' => doCall cf f fn.lent os') σ H Q) :
    tAs g p σ H fun vs H1 => tAs g q σ H1 fun ws H2 => spEv g.K g.mg cf f fn (permL perm (vs ++ ws)) H2 Q (fun cls d H => g.W cls d σ H) ∧ ws.length = ks.length ∧ (vs ++ ws).length = perm.length ∧ perm.length = (permL perm (vs ++ ws)).length := by
  obtain ⟨c, M, e, s, h⟩ := h
  refine ⟨c, M, e, s, (Ok.bind h).imp fun os M1 H1 e1 s1 x1 k1 h1 vs r nf => ?_⟩
  refine ⟨c, M1, e1, s1, (Ok.bind h1).imp fun zs M2 H2 e2 s2 x2 k2 h2 ws r2 nf2 => ?_⟩
  obtain ⟨os', ho, h3⟩ := Ok.optB h2
  have r1 : ORs g.K c M2 σ H2 e2 os vs := by
    clear h h1 h2 h3 ho nf
    induction os generalizing vs with
    | nil => exact r
    | cons o os ih =>
      obtain ⟨v, rs, rfl, q, t⟩ := r
      exact ⟨v, rs, rfl, s1.opd x2 k2 q, ih rs t⟩
  unfold permO at ho
  split at ho
  · rename_i hl
    obtain ⟨r3, l3⟩ := (r1.append r2).perm ho
    refine ⟨call_ok s2 r3 hps h3 fun b q => x2.e5 b (x1.e5 b q), by rw [← r2.len]; exact hl.1, by rw [← (r1.append r2).len]; exact hl.2, ?_⟩
    rw [← l3, r3.len]
  · cases ho
theorem pe_ownK (G : Good T N CX cf W bk sc X) {f : Nat} {fn : Fn} {x : Str} {p1 pos : Pos} {xs : List Expr} {kws : List Keyword} {p q : Ev.M (List Opd)} {ks : List Str} {perm : List Nat} (hf : T.tab[f]? = some fn) (hx : fn.nm = x) (hps : fn.lent.length = fn.ps.length)
    (hk : (ks, perm) ∈ fn.kwp) (hg : glB sc x = true) (hn : nmB x = true) (ha : PA X xs (tAs ⟨X.K, X.mg, W⟩ p)) (hs : ∀ e ∈ xs, NoStar e) (h0 : xs = [] → p = Ev.M.pure []) (hkw : PK X kws (tAs ⟨X.K, X.mg, W⟩ q))
    (hkb : ∀ env pos, (backToKw pos (keywordEach kws env)).all (·.1.isSome) = true ∧ (backToKw pos (keywordEach kws env)).filterMap (·.1) = ks ∧ (backToKw pos (keywordEach kws env)).any (·.1.isNone) = false) :
    PE X (.Call (.Name x p1) xs kws pos) (tE ⟨X.K, X.mg, W⟩ (p.bind fun os => q.bind fun zs => (Ev.M.opt (permO perm ks os zs)).bind fun os' => doCall cf f fn.lent os')) := by
  obtain ⟨a, fd, k, F⟩ := G.fns f fn hf
  have hdb := (nmB_ok hn).1
  have hm : X.mg x = some (.ref a) := by rw [← hx]; exact F.mg
  have run : ∀ {pins : List (Addr × Obj)} {σ : L2.St} {H : Hp} {s : Shared} {Q : VK} {us ws : List Value} {vs zs : List V}, Inv X pins σ H s → Vals vs us → Vals zs ws →
      spEv X.K X.mg cf f fn (permL perm (vs ++ zs)) H Q (fun cls d H => W cls d σ H) ∧ zs.length = ks.length ∧ (vs ++ zs).length = perm.length ∧ perm.length = (permL perm (vs ++ zs)).length →
      wpAny (model X.prog X.w) X.A (call (.ref a) us (ks.zip ws)) (EP X pins σ Q) X.xe s := by
    intro pins σ H s Q us ws vs zs I r rz h
    have r2 : Vals (permL perm (vs ++ zs)) (permL perm (us ++ ws)) := Vals.perm (r.append rz)
    have hl : (permL perm (us ++ ws)).length = fn.ps.length := by rw [← r2.length]; exact F.ok.len _ _ _ _ h.1
    have l2 : perm.length = fn.ps.length := by rw [h.2.2.2, r2.length, hl]
    have l3 : (us ++ ws).length = perm.length := by rw [← (r.append rz).length]; exact h.2.2.1
    refine wpAny_call (codeAny_mono (F.ok.run X.A X.stack s H ⟨us, ks.zip ws⟩ (permL perm (us ++ ws)) _ Q _ F.room I.env0 (F.kb (ks, perm) hk s us ws hl (by rw [← rz.length]; exact h.2.1) l2 l3) r2 h.1) fun r s' hq => ?_)
    cases r with
    | error e => exact G.pass σ pins H s e s' I hq
    | ok fl =>
      cases fl with
      | ret u => exact I.after hq
      | next => exact False.elim hq
      | brk => exact False.elim hq
      | cont => exact False.elim hq
  refine ⟨fun pins s σ H Q I h => ?_⟩
  have h := doCallK_tA hps h
  obtain ⟨k1, k2, k3⟩ := hkb X.env pos
  refine wpAny_Call_Name_kw (ld_glob I (G.gl hg) hm ?_ hdb)
  cases xs with
  | nil =>
    rw [h0 rfl] at h
    have h := as_nil h
    refine PySem.W.callWith_KW0 (h₀ := X.base) I.ok.mod.kin F.kp k1 (thn (hkw.run pos pins s σ H _ I h) fun ws s2 ⟨zs, H2, I2, rz, q2⟩ => ⟨I2.kIn, ?_⟩) (by rw [k3]; rfl)
    rw [k2]
    exact run (us := []) (vs := []) I2 .nil rz q2
  | cons e es =>
    have hst := star_ok (es := es) (env := X.env) (hs e List.mem_cons_self)
    refine PySem.W.callWith_KW (h₀ := X.base) I.ok.mod.kin F.kp k1 (thn (ha.run pos pins s σ H _ I h) fun us s1 ⟨vs, H1, I1, r, q⟩ => ?_) (by rw [stars_ok hs, k3]; rfl) hst
    refine thn (hkw.run pos pins s1 σ H1 _ I1 q) fun ws s2 ⟨zs, H2, I2, rz, q2⟩ => ⟨I2.kIn, ?_⟩
    rw [k2]
    exact run I2 r rz q2
/-! ### built-in functions, list(range(..)), slices -/
theorem bi_names (b : Bi) : ((biName b : Str) ≠ ("__name__" : Str)) ∧ (((biName b : Str) == ("__debug__" : Str)) = false) := by cases b <;> decide +kernel
theorem G_bi (G : Good T N CX cf W bk sc X) (b : Bi) : X.mg (biName b : Str) = none := by cases b <;> exact G.blt _ (by simp [biName])
theorem ORs.peeked {K : PySem.W.Frag} {c : C} {M : Addr → Prop} {σ : L2.St} {H : Hp} {e : Fm} {os : List Opd} {vs : List V} (r : ORs K c M σ H e os vs) : True := trivial
theorem pe_biP (G : Good T N CX cf W bk sc X) {b : Bi} {x : Str} {p1 pos : Pos} {xs : List Expr} {p : Ev.M (List Opd)} (hx : x = (biName b : Str)) (hg : glB sc x = true) (hne : xs ≠ []) (ha : PA X xs (tAs ⟨X.K, X.mg, W⟩ p)) (hs : ∀ e ∈ xs, NoStar e) :
    PE X (.Call (.Name x p1) xs [] pos) (tE ⟨X.K, X.mg, W⟩ (p.bind fun os => (derAll os).bind fun ds => Ev.M.opt (biD b ds))) := by
  subst hx
  have hm := G_bi G b
  have hb := boot_bi b
  have key : ∀ {σ : L2.St} {H : Hp} {Q : VK}, tE ⟨X.K, X.mg, W⟩ (p.bind fun os => (derAll os).bind fun ds => Ev.M.opt (biD b ds)) σ H Q → tCB (rBi X.K b) (tAs ⟨X.K, X.mg, W⟩ p) σ H Q := by
    rintro σ H Q ⟨c, M, e, s, h⟩
    refine ⟨c, M, e, s, (Ok.bind h).imp fun os M1 H1 e1 s1 x1 k1 h1 vs r nf => ?_⟩
    obtain ⟨ds, t, h2⟩ := ORs.ders s1 r h1
    obtain ⟨o, ho, h3⟩ := Ok.opt h2
    exact bi_ok s1 t ho fun M' H' v s' x' r' fr => h3 M' H' s' x' v r' (fr.old x1)
  cases xs with
  | nil => exact absurd rfl hne
  | cons e es =>
    have st := star_ok (es := es) (env := X.env) (hs e List.mem_cons_self)
    have sts := stars_ok (env := X.env) (pos := pos) (es := es) fun z q => hs z (List.mem_cons_of_mem _ q)
    have cr := cr_bi (X := X) G.calm b
    unfold biVal at hb cr
    split at hb
    · rename_i hty
      rw [if_pos hty] at cr
      exact PE.mono (pe_callTy cr (G.gl hg) hm hb ha (bi_names b).1 (bi_names b).2 st sts) fun σ H Q h => key h
    · rename_i hty
      rw [if_neg hty] at cr
      exact PE.mono (pe_callB cr (G.gl hg) hm hb ha (bi_names b).1 (bi_names b).2 st sts) fun σ H Q h => key h
theorem rngOk_ok {i : Int} (h : rngOk i = true) : -(2 ^ 62) ≤ i ∧ i < 2 ^ 62 := by
  have := lt_log (of_decide_eq_true (show decide (i.natAbs.log2 < 62) = true from h))
  omega
theorem lrg_ok (G : Good T N CX cf W bk sc X) {x y : Str} {p1 p2 p3 pos : Pos} {l r : Expr} {a b : Ev.M Opd} (hx : x = ("list" : Str)) (hy : y = ("range" : Str)) (gx : glB sc x = true) (gy : glB sc y = true)
    (ha : PE X l (tE ⟨X.K, X.mg, W⟩ a)) (hb : PE X r (tE ⟨X.K, X.mg, W⟩ b)) (sl : NoStar l) (sr : NoStar r) :
    PE X (.Call (.Name x p1) [.Call (.Name y p2) [l, r] [] p3] [] pos) (tE ⟨X.K, X.mg, W⟩ (two a b lrgD)) := by
  subst hx
  subst hy
  refine PE.mono (pe_listRg G.calm (G.gl gx) (G.blt "list" (by decide)) (prg_2 (G.gl gy) (G.blt "range" (by decide)) ha hb (star_ok sl) (star_ok sr) (stars_ok (by intro e he; rcases List.mem_cons.mp he with rfl | he; exact sr; exact nomatch he)))) fun σ H Q h => ?_
  refine two_ok (r := fun v w H2 Q => ∃ i j, v = V.int i ∧ w = V.int j ∧ RgOk i j ∧ ∀ q, H2 q = none → Q (.ref q) (upd H2 q (.lst (rgV i j)))) ?_ h
  intro c M σ H e x y d1 d2 o Q s t1 t2 ho fin
  cases d1 <;> cases d2 <;> simp only [lrgD] at ho <;> first | (cases ho; done) | skip
  split at ho
  · rename_i i j hc
    cases ho
    simp only [Bool.and_eq_true] at hc
    obtain ⟨⟨h1, h2⟩, h3⟩ := hc
    have h1 := rngOk_ok h1
    have h2 := rngOk_ok h2
    have h3 : (j - i).toNat ≤ sizeLine := of_decide_eq_true h3
    rw [sizeLine_eq] at h3
    refine ⟨i, j, t1.int, t2.int, ⟨h1.1, h1.2, h2.1, h2.2, by omega⟩, fin.list s ?_ ?_⟩
    · unfold rng
      rw [List.length_map, List.length_range, sizeLine_eq]
      exact h3
    · unfold rng rgV
      generalize List.range (j - i).toNat = l
      induction l with
      | nil => exact Rels.nil
      | cons n l ih => exact Rels.cons (by simp only [Rel]) ih
  · cases ho
/-! ### ranges of both directions, as lists and tuples -/
section
open PyProof.Rows
def PRgC (X : Cx) (c : Int) (e : Expr) (t : L2.St → Hp → (Int → Int → Hp → Prop) → Prop) : Prop :=
  ∀ (pins : List (Addr × Obj)) (s : Shared) (σ : L2.St) (H : Hp) (Q : Int → Int → Hp → Prop), Inv X pins σ H s → t σ H Q →
    wpAny (model X.prog X.w) X.A (eval e X.env) (fun x s' => ∃ r a b t u v H', x = .ref r ∧ IsRange s'.heap r a b c t u v ∧ Inv X pins σ H' s' ∧ Q a b H') X.xe s
def tNeg1 : TE := tUn (rU fun i => .int (-i)) (tC (.int 1))
def tRgD (ta tb : TE) : L2.St → Hp → (Int → Int → Hp → Prop) → Prop := fun σ H Q => tCons ta (tCons tb (tCons tNeg1 tNil)) σ H fun vs H1 => ∃ i j : Int, vs = [.int i, .int j, .int (-1)] ∧ Q i j H1
theorem prg_dn {a b : Expr} {ta tb : TE} {k : Nat} {p p1 p2 pos : Pos} (hg : Gl X "range") (hm : X.mg "range" = none) (ha : PE X a ta) (hb : PE X b tb) (na : NoStar a) (nb : NoStar b) :
    PRgC X (-1) (.Call (.Name "range" p) [a, b, .UnaryOp .USub (.Constant (.int 1) k p1) p2] [] pos) (tRgD ta tb) := by
  intro pins s σ H Q I h
  have hc : PE X (.UnaryOp .USub (.Constant (.int 1) k p1) p2) tNeg1 := pe_un un_neg pe_int
  have nc : NoStar (.UnaryOp .USub (.Constant (.int 1) k p1) p2) := fun x q z => by cases z
  have hA : PA X [a, b, .UnaryOp .USub (.Constant (.int 1) k p1) p2] _ := pa_cons ha (pa_cons hb (pa_cons hc pa_nil (star_ok nc)) (star_ok nb)) (star_ok na)
  have hst := stars_ok (env := X.env) (pos := pos) (es := [b, .UnaryOp .USub (.Constant (.int 1) k p1) p2]) (by intro e he; simp only [List.mem_cons, List.not_mem_nil, or_false] at he; rcases he with rfl | rfl; exact nb; exact nc)
  refine Call_ (ld_blt I hg hm boot_range (PyProof.Rows.callWith_type1 (thn (hA.run pos pins s σ H _ I h) fun us s1 ⟨vs, H1, I1, r1, q1⟩ => ?_) (star_ok na) hst))
  obtain ⟨i, j, e, q⟩ := q1
  subst e
  cases r1 with
  | cons r rr =>
    cases rr with
    | cons r' rr =>
      cases rr with
      | cons r'' rr =>
        cases rr
        obtain ⟨t, rfl⟩ := r
        obtain ⟨t', rfl⟩ := r'
        obtain ⟨t'', rfl⟩ := r''
        exact call_range_3 (by decide) ⟨_, i, j, _, _, _, H1, rfl, IsRange.new _ _ _ _ _ _ _, I1.kept (t' := s1.toks) fun b u e => Heap.get?_push_of_some _ e, q⟩ (.inl (PyProof.noPylong_small (by decide)))
theorem prg_up {a b : Expr} {ta tb : TE} {p pos : Pos} (hg : Gl X "range") (hm : X.mg "range" = none) (ha : PE X a ta) (hb : PE X b tb) (na : NoStar a) (nb : NoStar b) : PRgC X 1 (.Call (.Name "range" p) [a, b] [] pos) (tRg2 ta tb) := by
  intro pins s σ H Q I h
  exact prg_2 hg hm ha hb (star_ok na) (star_ok nb) (stars_ok (by intro e he; rcases List.mem_cons.mp he with rfl | he; exact nb; exact nomatch he)) pins s σ H Q I h
def rgV2 (i c : Int) (n : Nat) : List V := (List.range n).map fun k => V.int (i + (k : Nat) * c)
theorem vals_rg2 {i c : Int} {n : Nat} {acc : Array Value} (h : ItemsOf (fun k v => ∃ t, v = .int (i + k * c) t) acc n) : Vals (rgV2 i c n) acc.toList := by
  have e : acc.toList.length = n := by rw [Array.length_toList]; exact h.1
  unfold rgV2
  rw [← e]
  refine vals_of_get acc.toList _ fun j u hj => ?_
  obtain ⟨t, rfl⟩ := h.2 j u (by rw [← hj, Array.getElem?_toList])
  exact ⟨t, rfl⟩
variable {c : Int} {e : Expr} {te : L2.St → Hp → (Int → Int → Hp → Prop) → Prop}
theorem pe_listRgC {p pos : Pos} (hc : X.calm = true) (hg : Gl X "list") (hm : X.mg "list" = none) (he : PRgC X c e te) (na : NoStar e) :
    PE X (.Call (.Name "list" p) [e] [] pos) (fun σ H Q => te σ H fun a b H1 => ∃ n, Builtin.Range.small a b c = true ∧ Builtin.Range.rangeSize a b c = (n : Nat) ∧ n ≤ 2 ^ 24 ∧ ∀ q, H1 q = none → Q (.ref q) (upd H1 q (.lst (rgV2 a c n)))) := by
  refine ⟨fun pins s σ H Q I h => ?_⟩
  refine Call_ (ld_blt I hg hm boot_list (PyProof.Rows.callWith_type1 (args_cons (thn (he pins s σ H _ I h) fun x s1 ⟨r, a, b, t, u, v, H1, ex, hr, I1, n, b1, b2, b3, q⟩ => args_nil ?_) (star_ok na)) (star_ok na)))
  subst ex
  refine call_list_range (n := n) (I1.ok.hd hc) hr b1 b2 b3 fun h' tk acc c' hk e' hi => ?_
  refine ⟨.ref s1.heap.objs.size, upd H1 s1.heap.objs.size (.lst (rgV2 a c n)), I1.laid hk (Nat.le_refl _) (show ObjOk X.prog X.w _ _ _ (.lst (rgV2 a c n)) from ⟨?_, acc.toList, c', vals_rg2 hi, ?_⟩), rfl, q _ (I1.hok.fresh (Nat.le_refl _))⟩
  · unfold rgV2; rw [List.length_map, List.length_range, sizeLine_eq]; omega
  · rw [Array.toArray_toList]; exact e'
theorem pe_tupRgC {p pos : Pos} (hc : X.calm = true) (hg : Gl X "tuple") (hm : X.mg "tuple" = none) (he : PRgC X c e te) (na : NoStar e) :
    PE X (.Call (.Name "tuple" p) [e] [] pos) (fun σ H Q => te σ H fun a b H1 => ∃ n, Builtin.Range.small a b c = true ∧ Builtin.Range.rangeSize a b c = (n : Nat) ∧ n ≤ 2 ^ 24 ∧ ∀ (q : Addr) (o : Obj), o.dict = none → H1 q = none → Q (.ref q) (upd H1 q (.frz o (.tup (rgV2 a c n))))) := by
  refine ⟨fun pins s σ H Q I h => ?_⟩
  refine Call_ (ld_blt I hg hm boot_tuple (PyProof.Rows.callWith_type1 (args_cons (thn (he pins s σ H _ I h) fun x s1 ⟨r, a, b, t, u, v, H1, ex, hr, I1, n, b1, b2, b3, q⟩ => args_nil ?_) (star_ok na)) (star_ok na)))
  subst ex
  refine call_tuple_range (n := n) (I1.ok.hd hc) hr b1 b2 b3 fun h' tk acc hk hi => ?_
  have I2 : Inv X pins σ H1 { s1 with heap := h', toks := tk } := I1.kept hk
  refine ⟨.ref h'.objs.size, _, I2.laid (t' := tk) (fun c o e => Heap.get?_push_of_some _ e) (Nat.le_refl _) ?_, rfl, q _ { cls := .type "tuple", data := .seq acc } rfl (I2.hok.fresh (Nat.le_refl _))⟩
  refine ⟨Heap.get?_push_size _ rfl, ?_, acc.toList, vals_rg2 hi, ?_⟩
  · unfold rgV2; rw [List.length_map, List.length_range, sizeLine_eq]; omega
  · exact IsTup.new _ _
/-- what is asked of the ends -/
def RgE (dn : Bool) (i j : Int) (n : Nat) : Prop := Builtin.Range.small i j (if dn then -1 else 1) = true ∧ Builtin.Range.rangeSize i j (if dn then -1 else 1) = (n : Nat) ∧ n ≤ 2 ^ 24
theorem rgx_val {tup dn : Bool} {d1 d2 : D} {o : Opd} (h : rgxD tup dn d1 d2 = some o) : ∃ i j n, d1 = .int i ∧ d2 = .int j ∧ RgE dn i j n ∧ n ≤ sizeLine ∧
    o = if tup then .val (.tuple ((List.range n).map fun k => PyData.int (i + (k : Nat) * (if dn then -1 else 1)))) else .fresh (.list ((List.range n).map fun k => PyData.int (i + (k : Nat) * (if dn then -1 else 1)))) := by
  cases d1 <;> cases d2 <;> simp only [rgxD] at h <;> first | (cases h; done) | skip
  rename_i i j
  split at h
  · rename_i hc
    rw [Bool.and_eq_true] at hc
    have h1 := rngOk_ok hc.1
    have h2 := rngOk_ok hc.2
    cases dn with
    | true =>
      simp only [if_true] at h
      split at h
      · rename_i hl
        have hl : (i - j).toNat ≤ sizeLine := of_decide_eq_true hl
        cases h
        refine ⟨i, j, (i - j).toNat, rfl, rfl, ⟨PySem.W.small_down h1.1 h1.2 h2.1 h2.2, PySem.W.rangeSize_downNat i j, by rw [sizeLine_eq] at hl; omega⟩, hl, rfl⟩
      · cases h
    | false =>
      simp only [Bool.false_eq_true, if_false] at h
      split at h
      · rename_i hl
        have hl : (j - i).toNat ≤ sizeLine := of_decide_eq_true hl
        cases h
        refine ⟨i, j, (j - i).toNat, rfl, rfl, ⟨small_one h1.1 h1.2 h2.1 h2.2, rangeSize_nat i j, by rw [sizeLine_eq] at hl; omega⟩, hl, ?_⟩
        simp only [Bool.false_eq_true, if_false, rng, Int.mul_one]
      · cases h
  · cases h
theorem rels_rg2 {K : PySem.W.Frag} {M : Addr → Prop} {H : Hp} (i c : Int) (n : Nat) : Rels K M H ((List.range n).map fun k => PyData.int (i + (k : Nat) * c)) (rgV2 i c n) := by
  unfold rgV2
  generalize List.range n = l
  induction l with
  | nil => exact Rels.nil
  | cons n l ih => exact Rels.cons (by simp only [Rel]) ih
theorem rgx_fin {g : G} {tup dn : Bool} {c : C} {M : Addr → Prop} {σ : L2.St} {H : Hp} {e : Fm} {x y : V} {d1 d2 : D} {o : Opd} {Q : VK} (s : Sr g.K c M σ H e) (t1 : TopV g.K M H d1 x) (t2 : TopV g.K M H d2 y) (ho : rgxD tup dn d1 d2 = some o) (fin : Fin g c M σ H e o Q) :
    ∃ i j, x = V.int i ∧ y = V.int j ∧ ∃ n, Builtin.Range.small i j (if dn then -1 else 1) = true ∧ Builtin.Range.rangeSize i j (if dn then -1 else 1) = (n : Nat) ∧ n ≤ 2 ^ 24 ∧
      (tup = false → ∀ q, H q = none → Q (.ref q) (upd H q (.lst (rgV2 i (if dn then -1 else 1) n)))) ∧ (tup = true → ∀ (q : Addr) (o : Obj), o.dict = none → H q = none → Q (.ref q) (upd H q (.frz o (.tup (rgV2 i (if dn then -1 else 1) n))))) := by
  obtain ⟨i, j, n, rfl, rfl, ⟨h1, h2, h3⟩, hz, rfl⟩ := rgx_val ho
  refine ⟨i, j, t1.int, t2.int, n, h1, h2, h3, fun ht => ?_, fun ht => ?_⟩
  · subst ht
    exact fin.list s (by rw [List.length_map, List.length_range]; exact hz) (rels_rg2 _ _ _)
  · subst ht
    exact fin.tup s (by rw [List.length_map, List.length_range]; exact hz) (rels_rg2 _ _ _)
theorem rgx_up {g : G} {tup : Bool} {a b : Ev.M Opd} {σ : L2.St} {H : Hp} {Q : VK} (h : tE g (two a b (rgxD tup false)) σ H Q) : tRg2 (tE g a) (tE g b) σ H fun i j H1 => ∃ n, Builtin.Range.small i j 1 = true ∧ Builtin.Range.rangeSize i j 1 = (n : Nat) ∧ n ≤ 2 ^ 24 ∧
      (tup = false → ∀ q, H1 q = none → Q (.ref q) (upd H1 q (.lst (rgV2 i 1 n)))) ∧ (tup = true → ∀ (q : Addr) (o : Obj), o.dict = none → H1 q = none → Q (.ref q) (upd H1 q (.frz o (.tup (rgV2 i 1 n))))) := by
  obtain ⟨c, M, e, s, h⟩ := h
  refine ⟨c, M, e, s, (Ok.bind h).imp fun o1 M1 H1 e1 s1 x1 k1 h1 v1 r1 f1 => ?_⟩
  refine ⟨c, M1, e1, s1, (Ok.bind h1).imp fun o2 M2 H2 e2 s2 x2 k2 h2 v2 r2 f2 => ?_⟩
  obtain ⟨d1, t1, h2⟩ := Ok.der s2 (s1.opd x2 k2 r1) h2
  obtain ⟨d2, t2, h2⟩ := Ok.der s2 r2 h2
  obtain ⟨o, ho, h2⟩ := Ok.opt h2
  exact rgx_fin (dn := false) s2 t1 t2 ho fun M' H' v s' x' r' fr => h2 M' H' s' x' v r' (fr.old (x1.trans x2))
theorem rgx_dn {g : G} {tup : Bool} {a b : Ev.M Opd} {σ : L2.St} {H : Hp} {Q : VK} (h : tE g (two a b (rgxD tup true)) σ H Q) : tRgD (tE g a) (tE g b) σ H fun i j H1 => ∃ n, Builtin.Range.small i j (-1) = true ∧ Builtin.Range.rangeSize i j (-1) = (n : Nat) ∧ n ≤ 2 ^ 24 ∧
      (tup = false → ∀ q, H1 q = none → Q (.ref q) (upd H1 q (.lst (rgV2 i (-1) n)))) ∧ (tup = true → ∀ (q : Addr) (o : Obj), o.dict = none → H1 q = none → Q (.ref q) (upd H1 q (.frz o (.tup (rgV2 i (-1) n))))) := by
  obtain ⟨c, M, e, s, h⟩ := h
  refine ⟨c, M, e, s, (Ok.bind h).imp fun o1 M1 H1 e1 s1 x1 k1 h1 v1 r1 f1 => ?_⟩
  refine ⟨c, M1, e1, s1, (Ok.bind h1).imp fun o2 M2 H2 e2 s2 x2 k2 h2 v2 r2 f2 => ?_⟩
  obtain ⟨d1, t1, h2⟩ := Ok.der s2 (s1.opd x2 k2 r1) h2
  obtain ⟨d2, t2, h2⟩ := Ok.der s2 r2 h2
  obtain ⟨o, ho, h2⟩ := Ok.opt h2
  obtain ⟨i, j, rfl, rfl, q⟩ := rgx_fin (dn := true) s2 t1 t2 ho (Q := Q) fun M' H' v s' x' r' fr => h2 M' H' s' x' v r' (fr.old (x1.trans x2))
  exact ⟨1, rfl, i, j, rfl, q⟩
theorem rgx_ok (G : Good T N CX cf W bk sc X) {tup dn : Bool} {x y : Str} {p1 p2 p3 pos : Pos} {xs : List Expr} {a b : Ev.M Opd} {l r : Expr} (hx : x = ((if tup then "tuple" else "list") : Str)) (hy : y = ("range" : Str)) (gx : glB sc x = true) (gy : glB sc y = true)
    (ha : PE X l (tE ⟨X.K, X.mg, W⟩ a)) (hb : PE X r (tE ⟨X.K, X.mg, W⟩ b)) (sl : NoStar l) (sr : NoStar r) (hxs : (dn = false ∧ xs = [l, r]) ∨ ∃ k q1 q2, dn = true ∧ xs = [l, r, .UnaryOp .USub (.Constant (.int 1) k q1) q2]) :
    PE X (.Call (.Name x p1) [.Call (.Name y p2) xs [] p3] [] pos) (tE ⟨X.K, X.mg, W⟩ (two a b (rgxD tup dn))) := by
  subst hy
  rcases hxs with ⟨rfl, rfl⟩ | ⟨k, q1, q2, rfl, rfl⟩
  · have hp := prg_up (p := p2) (pos := p3) (G.gl gy) (G.blt "range" (by decide)) ha hb sl sr
    cases tup with
    | true =>
      subst hx
      exact PE.mono (pe_tupRgC G.calm (G.gl gx) (G.blt "tuple" (by decide)) hp (fun x q z => by cases z)) fun σ H Q h => by
        obtain ⟨c, M, e, s, h⟩ := rgx_up h
        refine ⟨c, M, e, s, h.imp fun o1 M1 H1 e1 s1 x1 k1 h1 v1 r1 f1 => ?_⟩
        obtain ⟨c, M, e, s, h⟩ := h1 v1 r1 f1
        refine ⟨c, M, e, s, h.imp fun o1 M1 H1 e1 s1 x1 k1 h1 v1 r1 f1 => ?_⟩
        obtain ⟨i, j, z1, z2, n, w1, w2, w3, _, w4⟩ := h1 v1 r1 f1
        exact ⟨i, j, z1, z2, n, w1, w2, w3, w4 rfl⟩
    | false =>
      subst hx
      exact PE.mono (pe_listRgC G.calm (G.gl gx) (G.blt "list" (by decide)) hp (fun x q z => by cases z)) fun σ H Q h => by
        obtain ⟨c, M, e, s, h⟩ := rgx_up h
        refine ⟨c, M, e, s, h.imp fun o1 M1 H1 e1 s1 x1 k1 h1 v1 r1 f1 => ?_⟩
        obtain ⟨c, M, e, s, h⟩ := h1 v1 r1 f1
        refine ⟨c, M, e, s, h.imp fun o1 M1 H1 e1 s1 x1 k1 h1 v1 r1 f1 => ?_⟩
        obtain ⟨i, j, z1, z2, n, w1, w2, w3, w4, _⟩ := h1 v1 r1 f1
        exact ⟨i, j, z1, z2, n, w1, w2, w3, w4 rfl⟩
  · have hp := prg_dn (k := k) (p := p2) (p1 := q1) (p2 := q2) (pos := p3) (G.gl gy) (G.blt "range" (by decide)) ha hb sl sr
    cases tup with
    | true =>
      subst hx
      exact PE.mono (pe_tupRgC G.calm (G.gl gx) (G.blt "tuple" (by decide)) hp (fun x q z => by cases z)) fun σ H Q h => by
        obtain ⟨c, M, e, s, h⟩ := rgx_dn h
        refine ⟨c, M, e, s, h.imp fun o1 M1 H1 e1 s1 x1 k1 h1 v1 r1 f1 => ?_⟩
        obtain ⟨c, M, e, s, h⟩ := h1 v1 r1 f1
        refine ⟨c, M, e, s, h.imp fun o1 M1 H1 e1 s1 x1 k1 h1 v1 r1 f1 => ?_⟩
        obtain ⟨i0, z0, i, j, z1, n, w1, w2, w3, _, w4⟩ := h1 v1 r1 f1
        exact ⟨i0, z0, i, j, z1, n, w1, w2, w3, w4 rfl⟩
    | false =>
      subst hx
      exact PE.mono (pe_listRgC G.calm (G.gl gx) (G.blt "list" (by decide)) hp (fun x q z => by cases z)) fun σ H Q h => by
        obtain ⟨c, M, e, s, h⟩ := rgx_dn h
        refine ⟨c, M, e, s, h.imp fun o1 M1 H1 e1 s1 x1 k1 h1 v1 r1 f1 => ?_⟩
        obtain ⟨c, M, e, s, h⟩ := h1 v1 r1 f1
        refine ⟨c, M, e, s, h.imp fun o1 M1 H1 e1 s1 x1 k1 h1 v1 r1 f1 => ?_⟩
        obtain ⟨i0, z0, i, j, z1, n, w1, w2, w3, w4, _⟩ := h1 v1 r1 f1
        exact ⟨i0, z0, i, j, z1, n, w1, w2, w3, w4 rfl⟩
end
end
end Ev

set_option Elab.async false
set_option linter.all false
set_option maxRecDepth 100000
set_option maxHeartbeats 2000000
/-! itertools.permutations -/
namespace Pm
open PySem PySem.Spec
open Sem (wp)
theorem pm_mro : mroOf (.type "itertools.permutations") = pure [.type "itertools.permutations", .type "object"] := by rw [mroOf_type]; kernel_rfl
theorem pm_look : typeLookup (.type "itertools.permutations") "__new__" = pure (some (.builtin "itertools.permutations.__new__")) := by rw [typeLookup_type, builtinLookup_eq_fast]; kernel_rfl
theorem pm_sub : isSubtype (.type "itertools.permutations") (.type "itertools.permutations") = pure true := by rw [isSubtype_type]; kernel_rfl
theorem pm_init : Slot "itertools.permutations" "__init__" "object.__init__" :=
  .of (owner := "object") (n := "__init__") (by rw [typeLookup_type, builtinLookup_eq_fast]; kernel_rfl) (by decide +kernel) (by decide +kernel) (by decide +kernel)
    (by first | exact .inl (by decide +kernel) | exact .inr (by decide +kernel)) (by rw [isSubtype_type]; kernel_rfl)
theorem pm_called : TypeCalled "itertools.permutations" "itertools.permutations.__new__" "object.__init__" :=
  ⟨by decide +kernel, by decide +kernel, ⟨_, _, pm_mro⟩, madeBy_type pm_mro pm_look (by decide +kernel), by decide +kernel, pm_sub, pm_init⟩
theorem pm_type1 (a : Value) : checkTypeCall "itertools.permutations" ⟨[a], []⟩ = pure () := by kernel_rfl
theorem pm_new1 (a : Value) : checkBuiltinCall "itertools.permutations.__new__" ⟨[.type "itertools.permutations", a], []⟩ = pure () := by kernel_rfl
theorem pm_entry_new : entryFor table "itertools.permutations.__new__" = some Builtin.«itertools.permutations.__new__» := entryFor_of_tree (by kernel_rfl)
theorem pm_slot_iter : Slot "itertools.permutations" "__iter__" "itertools.permutations.__iter__" :=
  .of (owner := "itertools.permutations") (n := "__iter__") (by rw [typeLookup_type, builtinLookup_eq_fast]; kernel_rfl) (by decide +kernel) (by decide +kernel) (by decide +kernel)
    (by first | exact .inl (by decide +kernel) | exact .inr (by decide +kernel)) pm_sub
theorem pm_slot_next : Slot "itertools.permutations" "__next__" "itertools.permutations.__next__" :=
  .of (owner := "itertools.permutations") (n := "__next__") (by rw [typeLookup_type, builtinLookup_eq_fast]; kernel_rfl) (by decide +kernel) (by decide +kernel) (by decide +kernel)
    (by first | exact .inl (by decide +kernel) | exact .inr (by decide +kernel)) pm_sub
theorem pm_entry_iter : entryFor table "itertools.permutations.__iter__" = some Builtin.«dict_keyiterator.__iter__» :=
  entryFor_alias (id' := "dict_keyiterator.__iter__") (by kernel_rfl) (by first | rfl | decide +kernel | (unfold String.splitOn; simp +decide [String.splitOnAux])) (by decide +kernel) (by kernel_rfl)
theorem pm_entry_next : entryFor table "itertools.permutations.__next__" = some Builtin.«itertools.permutations.__next__» := entryFor_of_tree (by kernel_rfl)
theorem pm_noDict : typeHasDict (.type "itertools.permutations") = false := by decide +kernel
theorem pm_owner2 : Manifest.owners.lookup (String.ofList (['s', 'n', 'o', 'i', 't', 'a', 't', 'u', 'm', 'r', 'e', 'p', '.', 's', 'l', 'o', 'o', 't', 'r', 'e', 't', 'i'] : List Char).reverse) = some Manifest.sig_itertools_permutations := by kernel_rfl
theorem pm_args_iter (a : Value) : argsOk "itertools.permutations.__iter__" ⟨[a], []⟩ := by
  unfold argsOk; rw [signature?_of (id := "itertools.permutations.__iter__") (n := ['_', '_', 'r', 'e', 't', 'i', '_', '_']) (o := ['s', 'n', 'o', 'i', 't', 'a', 't', 'u', 'm', 'r', 'e', 'p', '.', 's', 'l', 'o', 'o', 't', 'r', 'e', 't', 'i']) (by kernel_rfl) pm_owner2]; kernel_rfl
theorem pm_args_next (a : Value) : argsOk "itertools.permutations.__next__" ⟨[a], []⟩ := by
  unfold argsOk; rw [signature?_of (id := "itertools.permutations.__next__") (n := ['_', '_', 't', 'x', 'e', 'n', '_', '_']) (o := ['s', 'n', 'o', 'i', 't', 'a', 't', 'u', 'm', 'r', 'e', 'p', '.', 's', 'l', 'o', 'o', 't', 'r', 'e', 't', 'i']) (by kernel_rfl) pm_owner2]; kernel_rfl
/-- a new tuple -/
abbrev NewT (h : Heap) (t : Addr) (its : Array Value) : Prop := h.get? t = some { cls := .type "tuple", data := .seq its }
/-- a permutations object -/
abbrev IsPm (h : Heap) (it pool : Addr) (st : Int) (r : Nat) (last : Value) (ix cy : List Nat) : Prop :=
  h.get? it = some { cls := .type "itertools.permutations", dict := none, data := .fields ([.ref pool, rawInt st, rawInt r, last] ++ (ix ++ cy).map fun (n : Nat) => rawInt n).toArray, slots := #[] }

end Pm

set_option Elab.async false
set_option linter.all false
set_option maxRecDepth 100000
set_option maxHeartbeats 2000000
namespace Pm
open PySem PySem.Spec PyProof.Rows
open Sem (wp)
section
variable {prog : Program} {w : World} {A : Around} {E : Value → Shared → Prop} {s : Shared}
/-- the row of items at some places -/
def rowAt (items : Array Value) (ix : List Nat) : List Value := ix.map fun i => items.getD i .none
theorem nums_from (l : List Value) (h4 : l.length = 4) (ns : List Nat) : ((l ++ ns.map fun (n : Nat) => rawInt n).drop 4).map (fun | .int n _ => n.toNat | _ => 0) = ns := by
  rw [← h4, List.drop_left, List.map_map]
  conv => rhs; rw [← List.map_id ns]
  apply List.map_congr_left
  intro n _
  rfl
theorem row_key {items : Array Value} {r : Nat} {ix cy : List Nat} (l : List Value) (h4 : l.length = 4) (hr : ix.length = r) (F : Value → Nat) (hF : ∀ n : Nat, F (rawInt n) = n) :
    List.map (fun i => items.getD i Value.none) (List.take ((r : Nat) : Int).toNat (List.map F (List.drop 4 (l ++ List.map (fun (n : Nat) => rawInt n) (ix ++ cy))))) = rowAt items ix := by
  have h : List.map F (List.drop 4 (l ++ List.map (fun (n : Nat) => rawInt n) (ix ++ cy))) = ix ++ cy := by
    rw [← h4, List.drop_left, List.map_map]
    conv => rhs; rw [← List.map_id (ix ++ cy)]
    exact List.map_congr_left fun n _ => hF n
  rw [h, Int.toNat_natCast, ← hr, List.take_left]
  rfl
theorem pm_first {it pool : Addr} {items : Array Value} {r : Nat} {last : Value} {ix cy : List Nat} {Q : Option Value → Shared → Prop} (hit : IsPm s.heap it pool 0 r last ix cy) (hp : IsTup s.heap pool items) (hr : ix.length = r) (hz : r ≤ sizeLine)
    (hQ : ∀ h', IsPm h' it pool 1 r (.ref s.heap.objs.size) ix cy → NewT h' s.heap.objs.size (rowAt items ix).toArray → Heap.ExtBut it s.heap h' → Q (some (.ref s.heap.objs.size)) { s with heap := h' }) :
    wpAny (model prog w) A (callSpecial? (.ref it) "__next__") Q E s := by
  have hT : s.TypeIs (.ref it) "itertools.permutations" := ⟨_, hit, rfl⟩
  refine wpAny_callSpecial?_slot (name := Str.ofString "__next__") hT pm_slot_next (wpAny_call_entry pm_slot_next hT pm_entry_next ?_ (pm_args_next _))
  obtain ⟨o, ho, _, n, hd⟩ := id hp
  show wpAny _ _ (field (.ref it) 0 >>= _) _ _ s
  refine wpAny_bind (wpAny_field hit rfl (x := .ref pool) rfl ?_)
  show wpAny _ _ ((seqItems? (.ref pool) >>= _) >>= _) _ _ s
  refine wpAny_bind (wpAny_bind (wpAny_seqItems ho hd (wpAny_pure ?_)))
  show wpAny _ _ ((field (.ref it) 2 >>= _) >>= _) _ _ s
  refine wpAny_bind (wpAny_bind (wpAny_field hit rfl (x := rawInt r) rfl (wpAny_pure ?_)))
  show wpAny _ _ ((load it >>= _) >>= _) _ _ s
  refine wpAny_bind (wpAny_bind (wpAny_load hit (wpAny_pure ?_)))
  show wpAny _ _ ((field (.ref it) 1 >>= _) >>= _) _ _ s
  refine wpAny_bind (wpAny_bind (wpAny_field hit rfl (x := rawInt 0) rfl (wpAny_pure ?_)))
  show wpAny _ _ (setField (.ref it) 1 (rawInt 1) >>= _) _ _ s
  have hsz : 1 < ([Value.ref pool, rawInt 0, rawInt r, last] ++ (ix ++ cy).map fun (n : Nat) => rawInt n).toArray.size := by simp
  refine wpAny_bind (wpAny_setField hit rfl hsz ?_)
  have hit1 : IsPm (s.heap.update it (Obj.mapFields (·.setIfInBounds 1 (rawInt 1)))) it pool 1 r last ix cy := (Heap.get?_update_self _ hit rfl).trans (by simp [Obj.mapFields])
  generalize hh1 : s.heap.update it (Obj.mapFields (·.setIfInBounds 1 (rawInt 1))) = h1 at hit1
  have hsame : Heap.SameBut it s.heap h1 := by rw [← hh1]; exact Heap.SameBut.update ..
  have hsz1 : h1.objs.size = s.heap.objs.size := hsame.1
  show wpAny _ _ (newTuple _ >>= _) _ _ _
  rw [row_key [Value.ref pool, rawInt 0, rawInt r, last] rfl hr _ (fun n => rfl)]
  simp only [newTuple]
  refine wpAny_bind (wpAny_newObj_type ?_ (by show (rowAt items ix).toArray.size ≤ sizeLine; simp [rowAt]; omega))
  show wpAny _ _ (field (.ref it) 3 >>= _) _ _ _
  have hit2 : ∀ o, IsPm (h1.push o) it pool 1 r last ix cy := fun o => Heap.get?_push_of_some _ hit1
  refine wpAny_bind (wpAny_field (hit2 _) rfl (x := last) rfl ?_)
  show wpAny _ _ (setField (.ref it) 3 _ >>= _) _ _ _
  refine wpAny_bind (wpAny_setField (hit2 _) rfl (by simp) ?_)
  refine wpAny_bind (wpAny_letGo ?_)
  refine wpAny_pure ⟨_, rfl, ?_⟩
  rw [show ({ heap := h1, gens := s.gens, drawn := s.drawn, toks := s.toks, os := s.os } : Shared).heap.objs.size = s.heap.objs.size from hsz1]
  refine hQ _ ((Heap.get?_update_self _ (hit2 _) rfl).trans (by simp [Obj.mapFields])) ?_ ?_
  · have hlt : it < s.heap.objs.size := Heap.lt_size hit
    have q1 : NewT (h1.push { cls := .type "tuple", data := .seq (rowAt items ix).toArray }) h1.objs.size (rowAt items ix).toArray := Heap.get?_push_size _ rfl
    rw [hsz1] at q1
    exact (Heap.get?_update_other _ _ (Nat.ne_of_lt hlt)).trans q1
  · exact (hsame.extBut.push _).trans (Heap.SameBut.update ..).extBut
theorem stp_of (f : Nat → Nat → List Nat → List Nat → Option (List Nat × List Nat)) (h0 : ∀ n ix cy, f n 0 ix cy = none) (h1 : ∀ n i ix cy, f n (i + 1) ix cy = if (cy.getD i 0 - 1 == 0) = true then f n i (ix.take i ++ ix.drop (i + 1) ++ [ix.getD i 0]) (cy.set i (n - i)) else some ((ix.set i (ix.getD (n - (cy.getD i 0 - 1)) 0)).set (n - (cy.getD i 0 - 1)) (ix.getD i 0), cy.set i (cy.getD i 0 - 1))) : ∀ n i ix cy, f n i ix cy = stp n i ix cy
  | n, 0, ix, cy => h0 n ix cy
  | n, i + 1, ix, cy => by
    rw [h1, stp_of f h0 h1 n i]
    rfl
theorem num_key {ix cy : List Nat} (l : List Value) (h4 : l.length = 4) (F : Value → Nat) (hF : ∀ n : Nat, F (rawInt n) = n) :
    List.map F (List.drop 4 (l ++ List.map (fun (n : Nat) => rawInt n) (ix ++ cy)).toArray.toList) = ix ++ cy := by
  rw [List.toList_toArray, ← h4, List.drop_left, List.map_map]
  conv => rhs; rw [← List.map_id (ix ++ cy)]
  exact List.map_congr_left fun n _ => hF n
theorem pm_step {it pool : Addr} {items : Array Value} {r : Nat} {last : Value} {ix cy : List Nat} {Q : Option Value → Shared → Prop} (hit : IsPm s.heap it pool 1 r last ix cy) (hp : IsTup s.heap pool items) (hn : items.size = r) (hr : ix.length = r) {ix2 cy2 : List Nat} (hs : stp r r ix cy = some (ix2, cy2)) (hr2 : ix2.length = r) (hc2 : (ix2 ++ cy2).length = (ix ++ cy).length) (hb : (ix ++ cy).length ≤ sizeLine - 1) (hz : r ≤ sizeLine)
    (hQ : ∀ h', IsPm h' it pool 1 r (.ref s.heap.objs.size) ix2 cy2 → NewT h' s.heap.objs.size (rowAt items ix2).toArray → Heap.ExtBut it s.heap h' → Q (some (.ref s.heap.objs.size)) { s with heap := h' }) :
    wpAny (model prog w) A (callSpecial? (.ref it) "__next__") Q E s := by
  have hT : s.TypeIs (.ref it) "itertools.permutations" := ⟨_, hit, rfl⟩
  refine wpAny_callSpecial?_slot (name := Str.ofString "__next__") hT pm_slot_next (wpAny_call_entry pm_slot_next hT pm_entry_next ?_ (pm_args_next _))
  obtain ⟨o, ho, _, n, hd⟩ := id hp
  show wpAny _ _ (field (.ref it) 0 >>= _) _ _ s
  refine wpAny_bind (wpAny_field hit rfl (x := .ref pool) rfl ?_)
  show wpAny _ _ ((seqItems? (.ref pool) >>= _) >>= _) _ _ s
  refine wpAny_bind (wpAny_bind (wpAny_seqItems ho hd (wpAny_pure ?_)))
  show wpAny _ _ ((field (.ref it) 2 >>= _) >>= _) _ _ s
  refine wpAny_bind (wpAny_bind (wpAny_field hit rfl (x := rawInt r) rfl (wpAny_pure ?_)))
  show wpAny _ _ ((load it >>= _) >>= _) _ _ s
  refine wpAny_bind (wpAny_bind (wpAny_load hit (wpAny_pure ?_)))
  show wpAny _ _ ((field (.ref it) 1 >>= _) >>= _) _ _ s
  refine wpAny_bind (wpAny_bind (wpAny_field hit rfl (x := rawInt 1) rfl (wpAny_pure ?_)))
  rw [num_key [Value.ref pool, rawInt 1, rawInt r, last] rfl _ (fun n => rfl)]
  rw [List.take_left' (by rw [hr, hn]), List.drop_left' (by rw [hr, hn])]
  simp only []
  split
  · rename_i a b hq
    have hq2 := (stp_of _ (by intros; rfl) (by intros; rfl) _ _ _ _).symm.trans hq
    rw [hn, Int.toNat_natCast, hs] at hq2
    cases hq2
    have hll : (ix2 ++ cy2).length ≤ sizeLine - 1 := by rw [hc2]; exact hb
    show wpAny _ _ (updateFields it _ >>= _) _ _ s
    refine wpAny_bind (wpAny_updateFields hit rfl ?_ (by
      have h16 : (16777216 : Nat) = sizeLine := by decide
      have e4 : (List.toArray [Value.ref pool, rawInt 1, rawInt r, last]).size = 4 := rfl
      simp only [Array.size_append, Array.size_extract, List.size_toArray, List.length_map, List.length_append, List.length_cons, List.length_nil] at hll ⊢
      omega))
    have hit1 : IsPm (s.heap.update it (Obj.mapFields fun fs => fs.extract 0 4 ++ ((ix2 ++ cy2).map fun (n : Nat) => rawInt n).toArray)) it pool 1 r last ix2 cy2 := (Heap.get?_update_self _ hit rfl).trans (by simp [Obj.mapFields])
    generalize hh1 : s.heap.update it (Obj.mapFields fun fs => fs.extract 0 4 ++ ((ix2 ++ cy2).map fun (n : Nat) => rawInt n).toArray) = h1 at hit1
    have hsame : Heap.SameBut it s.heap h1 := by rw [← hh1]; exact Heap.SameBut.update ..
    have hsz1 : h1.objs.size = s.heap.objs.size := hsame.1
    have hrow : List.map (fun i => items.getD i Value.none) (List.take ((r : Nat) : Int).toNat ix2) = rowAt items ix2 := by
      rw [Int.toNat_natCast, List.take_of_length_le (by omega)]
      rfl
    rw [hrow]
    simp only [newTuple]
    refine wpAny_bind (wpAny_newObj_type ?_ (by show (rowAt items ix2).toArray.size ≤ sizeLine; simp [rowAt]; omega))
    show wpAny _ _ (field (.ref it) 3 >>= _) _ _ _
    have hit2 : ∀ o, IsPm (h1.push o) it pool 1 r last ix2 cy2 := fun o => Heap.get?_push_of_some _ hit1
    refine wpAny_bind (wpAny_field (hit2 _) rfl (x := last) rfl ?_)
    show wpAny _ _ (setField (.ref it) 3 _ >>= _) _ _ _
    refine wpAny_bind (wpAny_setField (hit2 _) rfl (by simp) ?_)
    refine wpAny_bind (wpAny_letGo ?_)
    refine wpAny_pure ⟨_, rfl, ?_⟩
    rw [show ({ heap := h1, gens := s.gens, drawn := s.drawn, toks := s.toks, os := s.os } : Shared).heap.objs.size = s.heap.objs.size from hsz1]
    refine hQ _ ((Heap.get?_update_self _ (hit2 _) rfl).trans (by simp [Obj.mapFields])) ?_ ?_
    · have hlt : it < s.heap.objs.size := Heap.lt_size hit
      have q1 : NewT (h1.push { cls := .type "tuple", data := .seq (rowAt items ix2).toArray }) h1.objs.size (rowAt items ix2).toArray := Heap.get?_push_size _ rfl
      rw [hsz1] at q1
      exact (Heap.get?_update_other _ _ (Nat.ne_of_lt hlt)).trans q1
    · exact (hsame.extBut.push _).trans (Heap.SameBut.update ..).extBut
  · rename_i hq
    have hq2 := (stp_of _ (by intros; rfl) (by intros; rfl) _ _ _ _).symm.trans hq
    rw [hn, Int.toNat_natCast, hs] at hq2
    cases hq2
theorem pm_end {it pool : Addr} {items : Array Value} {r : Nat} {last : Value} {ix cy : List Nat} {Q : Option Value → Shared → Prop} (hh : A.handled = none) (hit : IsPm s.heap it pool 1 r last ix cy) (hp : IsTup s.heap pool items) (hn : items.size = r) (hr : ix.length = r) (hs : stp r r ix cy = none)
    (hQ : ∀ e h', CpRep.StopE e h' → Heap.ExtBut it s.heap h' → E e { s with heap := h' }):
    wpAny (model prog w) A (callSpecial? (.ref it) "__next__") Q E s := by
  have hT : s.TypeIs (.ref it) "itertools.permutations" := ⟨_, hit, rfl⟩
  refine wpAny_callSpecial?_slot (name := Str.ofString "__next__") hT pm_slot_next (wpAny_call_entry pm_slot_next hT pm_entry_next ?_ (pm_args_next _))
  obtain ⟨o, ho, _, n, hd⟩ := id hp
  show wpAny _ _ (field (.ref it) 0 >>= _) _ _ s
  refine wpAny_bind (wpAny_field hit rfl (x := .ref pool) rfl ?_)
  show wpAny _ _ ((seqItems? (.ref pool) >>= _) >>= _) _ _ s
  refine wpAny_bind (wpAny_bind (wpAny_seqItems ho hd (wpAny_pure ?_)))
  show wpAny _ _ ((field (.ref it) 2 >>= _) >>= _) _ _ s
  refine wpAny_bind (wpAny_bind (wpAny_field hit rfl (x := rawInt r) rfl (wpAny_pure ?_)))
  show wpAny _ _ ((load it >>= _) >>= _) _ _ s
  refine wpAny_bind (wpAny_bind (wpAny_load hit (wpAny_pure ?_)))
  show wpAny _ _ ((field (.ref it) 1 >>= _) >>= _) _ _ s
  refine wpAny_bind (wpAny_bind (wpAny_field hit rfl (x := rawInt 1) rfl (wpAny_pure ?_)))
  rw [num_key [Value.ref pool, rawInt 1, rawInt r, last] rfl _ (fun n => rfl)]
  rw [List.take_left' (by rw [hr, hn]), List.drop_left' (by rw [hr, hn])]
  simp only []
  split
  · rename_i a b hq
    have hq2 := (stp_of _ (by intros; rfl) (by intros; rfl) _ _ _ _).symm.trans hq
    rw [hn, Int.toNat_natCast, hs] at hq2
    cases hq2
  · show wpAny _ _ (setField (.ref it) 1 (rawInt 2) >>= _) _ _ s
    refine wpAny_bind (wpAny_setField hit rfl (by simp) ?_)
    have hsame : Heap.SameBut it s.heap (s.heap.update it (Obj.mapFields (·.setIfInBounds 1 (rawInt 2)))) := Heap.SameBut.update ..
    generalize s.heap.update it (Obj.mapFields (·.setIfInBounds 1 (rawInt 2))) = h1 at hsame
    show wpAny _ _ (newExc (.type "StopIteration") [] >>= _) _ _ _
    refine wpAny_bind ?_
    simp only [newExc, newTuple]
    refine wpAny_bind (wpAny_newObj_type ?_ (by size_fits))
    refine wpAny_bind (m := firstArgMember _ _) (wpAny_of_eq (a := Value.none) (by first | rfl | (simp only [firstArgMember]; rfl)) ?_)
    refine wpAny_newObj_type ?_ (by size_fits)
    simp only [raiseNew]
    refine wpAny_bind (wpAny_handled ?_)
    first | rw [show A.in1.handled = none from hh] | rw [hh]
    refine wpAny_bind (wpAny_pure (wpAny_throw ?_))
    exact hQ _ _ ⟨_, _, _, rfl, Heap.get?_push_size _ rfl, rfl, rfl, rfl⟩ ((hsame.extBut.push _).push _)
end
end Pm

set_option Elab.async false
set_option linter.all false
set_option maxRecDepth 100000
set_option maxHeartbeats 2000000
namespace Pm
open PySem PySem.Spec PyProof.Rows
open Sem (wp)
/-- the rows of places that are still to come -/
inductive Run (r : Nat) : List Nat → List Nat → List (List Nat) → Prop where
  | stop {ix cy : List Nat} : stp r r ix cy = none → Run r ix cy []
  | go {ix cy ix2 cy2 : List Nat} {L : List (List Nat)} : stp r r ix cy = some (ix2, cy2) → ix2.length = r → cy2.length = r → Run r ix2 cy2 L → Run r ix cy (ix2 :: L)
/-- new tuples of these rows -/
def Told (h : Heap) (from' : Nat) (items : Array Value) : List (List Nat) → List Value → Prop
  | [], [] => True
  | row :: L, v :: vs => (∃ t, v = .ref t ∧ from' ≤ t ∧ NewT h t (rowAt items row).toArray ∧ Told h (t + 1) items L vs)
  | _, _ => False
theorem Told.mono {h : Heap} {a b : Nat} {items : Array Value} (hab : a ≤ b) : ∀ {L : List (List Nat)} {vs : List Value}, Told h b items L vs → Told h a items L vs
  | [], [], _ => trivial
  | [], _ :: _, h => h
  | _ :: _, [], h => h
  | row :: L, v :: vs, ⟨t, h1, h2, h3⟩ => ⟨t, h1, Nat.le_trans hab h2, h3⟩
section
variable {prog : Program} {w : World} {A : Around} {E : Value → Shared → Prop} {s : Shared}
theorem stop_is {e : Value} {h : Heap} {s : Shared} {Q : Bool → Shared → Prop} (hs : CpRep.StopE e h) (hh : s.heap = h) (hQ : Q true s) : wpAny (model prog w) A (isInstance e (.type "StopIteration")) Q E s := by
  obtain ⟨a, o, vs, rfl, h1, h2, _⟩ := hs
  subst hh
  exact wpAny_isInstance (b := true) ⟨o, h1, h2⟩ (by rw [isSubtype_type]; kernel_rfl) hQ
theorem next_item {it pool : Addr} {items : Array Value} {r : Nat} {last : Value} {ix cy ix2 cy2 : List Nat} {Q : Option Value → Shared → Prop} (hit : IsPm s.heap it pool 1 r last ix cy) (hp : IsTup s.heap pool items) (hn : items.size = r) (hr : ix.length = r) (hc : cy.length = r) (hs : stp r r ix cy = some (ix2, cy2)) (hr2 : ix2.length = r) (hc2 : cy2.length = r) (hz : r ≤ 1000)
    (hQ : ∀ h', IsPm h' it pool 1 r (.ref s.heap.objs.size) ix2 cy2 → NewT h' s.heap.objs.size (rowAt items ix2).toArray → Heap.ExtBut it s.heap h' → Q (some (.ref s.heap.objs.size)) { s with heap := h' }) : wpAny (model prog w) A (pyNext (.ref it)) Q E s := by
  have h16 : (16777216 : Nat) = sizeLine := by decide
  unfold pyNext
  refine wpAny_bind (wpAny_attempt (pm_step hit hp hn hr hs hr2 (by simp [hr, hr2, hc, hc2]) (by simp [hr, hc]; omega) (by omega) fun h' a b c => ?_))
  exact wpAny_pure (hQ h' a b c)
theorem next_end {it pool : Addr} {items : Array Value} {r : Nat} {last : Value} {ix cy : List Nat} {Q : Option Value → Shared → Prop} (hh : A.handled = none) (hit : IsPm s.heap it pool 1 r last ix cy) (hp : IsTup s.heap pool items) (hn : items.size = r) (hr : ix.length = r) (hz : r ≤ 1000) (hs : stp r r ix cy = none)
    (hQ : ∀ h', Heap.ExtBut it s.heap h' → Q none { s with heap := h' }) : wpAny (model prog w) A (pyNext (.ref it)) Q E s := by
  unfold pyNext
  refine wpAny_bind (wpAny_attempt (pm_end hh hit hp hn hr hs fun e h' he hx => ?_))
  refine wpAny_bind (stop_is he rfl ?_)
  exact wpAny_pure (hQ h' hx)
theorem pm_loop {R : Result → Shared → Prop} {it pool S : Addr} {items : Array Value} {r : Nat} (hh : A.handled = none) (hSi : S ≠ it) (hpi : pool ≠ it) (hpS : pool ≠ S) (hn : items.size = r) (hz : r ≤ 1000) (res : Value) :
    ∀ (L : List (List Nat)) (ix cy : List Nat) (last : Value) (s : Shared) (acc : Array Value) (c : Nat), Run r ix cy L → ix.length = r → cy.length = r → IsPm s.heap it pool 1 r last ix cy → IsTup s.heap pool items →
    s.heap.get? S = some { cls := .type "list", dict := none, data := .seq acc c, slots := #[] } → acc.size + L.length ≤ 16777216 →
    (∀ h' acc' c' vs, (∀ b o, b ≠ S → b ≠ it → s.heap.get? b = some o → h'.get? b = some o) → h'.get? S = some { cls := .type "list", dict := none, data := .seq acc' c', slots := #[] } → acc'.toList = acc.toList ++ vs → Told h' s.heap.objs.size items L vs → R (.ok (.ret res)) { s with heap := h' }) →
    codeAny (model prog w) A (.builtin "list.extend.loop" ⟨[.ref S, .ref it, res], []⟩) R s
  | [], ix, cy, last, s, acc, c, hr, hix, hcy, hit, hp, hS, hl, hR => by
    cases hr with
    | stop hs =>
      refine codeAny_builtin F.entry_extend_loop ?_
      rw [Around.under_plainId F.plain_extend_loop _]
      show wpAny _ A.in1 (pyNext (.ref it) >>= _) _ _ s
      refine wpAny_bind (next_end (A := A.in1) hh hit hp hn hix hz hs fun h' hx => ?_)
      exact wpAny_pure (hR h' acc c [] (fun b o _ h2 e => hx b o h2 e) (hx S _ hSi hS) (by simp) trivial)
  | row :: L, ix, cy, last, s, acc, c, hr, hix, hcy, hit, hp, hS, hl, hR => by
    have h16 : (16777216 : Nat) = sizeLine := by decide
    rw [List.length_cons] at hl
    cases hr with
    | go hs hr2 hc2 hrun =>
      rename_i cy2
      refine codeAny_builtin F.entry_extend_loop ?_
      rw [Around.under_plainId F.plain_extend_loop _]
      show wpAny _ A.in1 (pyNext (.ref it) >>= _) _ _ s
      refine wpAny_bind (next_item hit hp hn hix hcy hs hr2 hc2 hz fun h' g1 g2 g3 => ?_)
      have hS' : h'.get? S = _ := g3 S _ hSi hS
      show wpAny _ A.in1 (updateSeq S (·.push _) >>= _) _ _ _
      refine wpAny_bind ?_
      have hSlt := Heap.lt_size hS
      have hilt := Heap.lt_size hit
      refine wpAny_updateSeq hS' rfl (wpAny_pure ⟨plainId_quiet F.plain_extend_loop _, pm_loop hh hSi hpi hpS hn hz res L row cy2 _ _ (acc.push _) _ hrun hr2 hc2 ((Heap.get?_update_other _ _ hSi).trans g1) ?_ (Heap.get?_update_self _ hS' rfl) (by rw [Array.size_push]; omega) fun h2 acc' c' vs k1 k2 k3 k4 => ?_⟩) (by omega) (by show (acc.push _).size ≤ sizeLine + 1; rw [Array.size_push]; omega)
      · obtain ⟨o, q1, q2⟩ := id hp
        exact ⟨o, (Heap.get?_update_other _ _ (Ne.symm hpS)).trans (g3 pool o hpi q1), q2⟩
      · have hts : s.heap.objs.size ≠ S := Nat.ne_of_gt hSlt
        have hti : s.heap.objs.size ≠ it := Nat.ne_of_gt hilt
        have hlt := Heap.lt_size g2
        refine hR h2 acc' c' (.ref s.heap.objs.size :: vs) (fun b o h3 h4 e => k1 b o h3 h4 ((Heap.get?_update_other _ _ (Ne.symm h3)).trans (g3 b o h4 e))) k2 (by rw [k3]; simp) ⟨_, rfl, Nat.le_refl _, k1 _ _ hts hti ((Heap.get?_update_other _ _ (Ne.symm hts)).trans g2), Told.mono ?_ k4⟩
        exact Nat.le_trans hlt (Nat.le_of_eq (Heap.SameBut.update h' S _).1.symm)
theorem pm_loop0 {R : Result → Shared → Prop} {it pool S : Addr} {items : Array Value} {r : Nat} (hh : A.handled = none) (hSi : S ≠ it) (hpi : pool ≠ it) (hpS : pool ≠ S) (hn : items.size = r) (hz : r ≤ 1000) (res : Value)
    (L : List (List Nat)) (ix cy : List Nat) (last : Value) (s : Shared) (acc : Array Value) (c : Nat) (hrun : Run r ix cy L) (hix : ix.length = r) (hcy : cy.length = r) (hit : IsPm s.heap it pool 0 r last ix cy) (hp : IsTup s.heap pool items)
    (hS : s.heap.get? S = some { cls := .type "list", dict := none, data := .seq acc c, slots := #[] }) (hl : acc.size + L.length + 1 ≤ 16777216)
    (hR : ∀ h' acc' c' vs, (∀ b o, b ≠ S → b ≠ it → s.heap.get? b = some o → h'.get? b = some o) → h'.get? S = some { cls := .type "list", dict := none, data := .seq acc' c', slots := #[] } → acc'.toList = acc.toList ++ vs → Told h' s.heap.objs.size items (ix :: L) vs → R (.ok (.ret res)) { s with heap := h' }) :
    codeAny (model prog w) A (.builtin "list.extend.loop" ⟨[.ref S, .ref it, res], []⟩) R s := by
  have h16 : (16777216 : Nat) = sizeLine := by decide
  refine codeAny_builtin F.entry_extend_loop ?_
  rw [Around.under_plainId F.plain_extend_loop _]
  show wpAny _ A.in1 (pyNext (.ref it) >>= _) _ _ s
  have hSlt := Heap.lt_size hS
  have hilt := Heap.lt_size hit
  refine wpAny_bind ?_
  unfold pyNext
  refine wpAny_bind (wpAny_attempt (pm_first hit hp hix (by omega) fun h' g1 g2 g3 => ?_))
  refine wpAny_pure ?_
  have hS' : h'.get? S = _ := g3 S _ hSi hS
  show wpAny _ A.in1 (updateSeq S (·.push _) >>= _) _ _ _
  refine wpAny_bind ?_
  refine wpAny_updateSeq hS' rfl (wpAny_pure ⟨plainId_quiet F.plain_extend_loop _, pm_loop hh hSi hpi hpS hn hz res L ix cy _ _ (acc.push _) _ hrun hix hcy ((Heap.get?_update_other _ _ hSi).trans g1) ?_ (Heap.get?_update_self _ hS' rfl) (by rw [Array.size_push]; omega) fun h2 acc' c' vs k1 k2 k3 k4 => ?_⟩) (by omega) (by show (acc.push _).size ≤ sizeLine + 1; rw [Array.size_push]; omega)
  · obtain ⟨o, q1, q2⟩ := id hp
    exact ⟨o, (Heap.get?_update_other _ _ (Ne.symm hpS)).trans (g3 pool o hpi q1), q2⟩
  · have hts : s.heap.objs.size ≠ S := Nat.ne_of_gt hSlt
    have hti : s.heap.objs.size ≠ it := Nat.ne_of_gt hilt
    have hlt := Heap.lt_size g2
    refine hR h2 acc' c' (.ref s.heap.objs.size :: vs) (fun b o h3 h4 e => k1 b o h3 h4 ((Heap.get?_update_other _ _ (Ne.symm h3)).trans (g3 b o h4 e))) k2 (by rw [k3]; simp) ⟨_, rfl, Nat.le_refl _, k1 _ _ hts hti ((Heap.get?_update_other _ _ (Ne.symm hts)).trans g2), Told.mono ?_ k4⟩
    exact Nat.le_trans hlt (Nat.le_of_eq (Heap.SameBut.update h' S _).1.symm)
end
end Pm

set_option Elab.async false
set_option linter.all false
set_option maxRecDepth 100000
set_option maxHeartbeats 2000000
namespace Pm
open PySem PySem.Spec PyProof.Rows
open Sem (wp)
theorem pm_noLen : typeLookup (.type "itertools.permutations") "__len__" = pure none := by rw [typeLookup_type, builtinLookup_eq_fast]; kernel_rfl
theorem pm_noHint : typeLookup (.type "itertools.permutations") "__length_hint__" = pure none := by rw [typeLookup_type, builtinLookup_eq_fast]; kernel_rfl
section
variable {prog : Program} {w : World} {A : Around} {s : Shared} {R : Result → Shared → Prop}
theorem pm_extend {it pool S : Addr} {items : Array Value} {r c₀ : Nat} (hh : A.handled = none) (hSi : S ≠ it) (hpi : pool ≠ it) (hpS : pool ≠ S) (hn : items.size = r) (hz : r ≤ 1000) (res : Value)
    {L : List (List Nat)} {ix cy : List Nat} {last : Value} (hrun : Run r ix cy L) (hix : ix.length = r) (hcy : cy.length = r) (hit : IsPm s.heap it pool 0 r last ix cy) (hp : IsTup s.heap pool items)
    (hS : s.heap.get? S = some { cls := .type "list", data := .seq #[] c₀ }) (hl : L.length + 1 ≤ 16777216)
    (hR : ∀ h' acc' c', (∀ b o, b ≠ S → b ≠ it → s.heap.get? b = some o → h'.get? b = some o) → h'.get? S = some { cls := .type "list", dict := none, data := .seq acc' c', slots := #[] } → Told h' s.heap.objs.size items (ix :: L) acc'.toList → R (.ok (.ret res)) { s with heap := h' }) :
    wpAny (model prog w) A.in1 (Builtin.List.listExtendWith (.ref S) (.ref it) res)
      (fun fin s' => match fin with | .done f => R (.ok f) s' | .again c' => c'.quiet = true ∧ codeAny (model prog w) A c' R s') (fun e s' => R (.error e) s') s := by
  have hT : s.TypeIs (.ref it) "itertools.permutations" := ⟨_, hit, rfl⟩
  unfold Builtin.List.listExtendWith
  refine wpAny_bind (wpAny_typeOf hT ?_)
  have h1 : Builtin.List.listSameRef (.ref S) (.ref it) = false := by simp [Builtin.List.listSameRef, hSi]
  have h2 : (Value.type "itertools.permutations" == Value.type "list") = false := by decide
  have h3 : (Value.type "itertools.permutations" == Value.type "tuple") = false := by decide
  simp only [h1, h2, h3, Bool.or_false, Bool.false_eq_true, if_false]
  refine wpAny_bind ?_
  refine wpAny_pyIter_slot hT pm_slot_iter (wpAny_call_entry pm_slot_iter hT pm_entry_iter ?_ (pm_args_iter _))
  show wpAny _ _ (ret (.ref it)) _ _ s
  refine wpAny_pure ⟨_, rfl, "itertools.permutations", _, hT, pm_slot_next.lookup, ?_⟩
  refine wpAny_bind (wpAny_holding ?_)
  unfold Builtin.List.listLengthHint
  refine wpAny_bind (wpAny_specialOf hT pm_noLen ?_)
  show wpAny _ A.in1 (specialOf (Value.ref it) (Str.ofString "__length_hint__") >>= _) _ _ _
  refine wpAny_bind (wpAny_specialOf hT pm_noHint (wpAny_pure ?_))
  show wpAny _ A.in1 (rule "list.extend.makes-room" >>= fun _ => Builtin.List.listTouch (.ref S) >>= fun _ => again (.builtin "list.extend.loop" ⟨[.ref S, .ref it, res], []⟩)) _ _ _
  refine wpAny_bind (wpAny_rule (wpAny_bind ?_))
  show wpAny _ A.in1 (updateSeq S (·.push .none) >>= fun _ => updateSeq S (·.pop)) _ _ _
  refine wpAny_bind (wpAny_updateSeq hS rfl ?_)
  have hS2 := Heap.get?_update_self (Obj.mapSeq (·.push Value.none)) hS rfl
  refine wpAny_updateSeq (hz := by seq_fits) hS2 rfl ?_
  have hS3 := Heap.get?_update_self (Obj.mapSeq (·.pop)) hS2 rfl
  have oth : ∀ b o, b ≠ S → s.heap.get? b = some o → ((s.heap.update S (Obj.mapSeq (·.push Value.none))).update S (Obj.mapSeq (·.pop))).get? b = some o :=
    fun b o hb e => (Heap.get?_update_other _ _ (Ne.symm hb)).trans ((Heap.get?_update_other _ _ (Ne.symm hb)).trans e)
  have hsz : ((s.heap.update S (Obj.mapSeq (·.push Value.none))).update S (Obj.mapSeq (·.pop))).objs.size = s.heap.objs.size := (Heap.SameBut.update ..).1.trans (Heap.SameBut.update ..).1
  refine wpAny_pure ⟨plainId_quiet F.plain_extend_loop _, pm_loop0 hh hSi hpi hpS hn hz res L ix cy last _ _ _ hrun hix hcy (oth it _ (Ne.symm hSi) hit) ?_ hS3 (by simp; omega) fun h' acc' c' vs k1 k2 k3 k4 => ?_⟩
  · obtain ⟨o, q1, q2⟩ := id hp
    exact ⟨o, oth pool o hpS q1, q2⟩
  · refine hR h' acc' c' (fun b o h1 h2 e => k1 b o h1 h2 (oth b o h1 e)) k2 ?_
    rw [k3]
    refine Told.mono (Nat.le_of_eq hsz.symm) ?_
    simpa using k4
theorem pm_listInit {it pool S : Addr} {items : Array Value} {r : Nat} (hh : A.handled = none) (hSi : S ≠ it) (hpi : pool ≠ it) (hpS : pool ≠ S) (hn : items.size = r) (hz : r ≤ 1000)
    {L : List (List Nat)} {ix cy : List Nat} {last : Value} (hrun : Run r ix cy L) (hix : ix.length = r) (hcy : cy.length = r) (hit : IsPm s.heap it pool 0 r last ix cy) (hp : IsTup s.heap pool items)
    (hS : s.heap.get? S = some { cls := .type "list", data := .seq #[] }) (hl : L.length + 1 ≤ 16777216)
    (hR : ∀ h' acc' c', (∀ b o, b ≠ S → b ≠ it → s.heap.get? b = some o → h'.get? b = some o) → h'.get? S = some { cls := .type "list", dict := none, data := .seq acc' c', slots := #[] } → Told h' s.heap.objs.size items (ix :: L) acc'.toList → R (.ok (.ret .none)) { s with heap := h' }) :
    wpAny (model prog w) A.in1 (Builtin.«list.__init__» ⟨[.ref S, .ref it], []⟩)
      (fun fin s' => match fin with | .done f => R (.ok f) s' | .again c' => c'.quiet = true ∧ codeAny (model prog w) A c' R s') (fun e s' => R (.error e) s') s := by
  show wpAny _ A.in1 (do let old ← Builtin.List.listItems (.ref S); Builtin.List.listUpdate (.ref S) (fun _ => #[]); letGo old.toList.reverse; Builtin.List.listExtendWith (.ref S) (.ref it) .none) _ _ s
  refine wpAny_bind ?_
  unfold Builtin.List.listItems
  refine wpAny_bind (wpAny_seqItems hS rfl (wpAny_pure ?_))
  show wpAny _ A.in1 (updateSeq S (fun _ => #[]) >>= fun _ => letGo (#[] : Array Value).toList.reverse >>= fun _ => Builtin.List.listExtendWith (.ref S) (.ref it) .none) _ _ s
  refine wpAny_bind (wpAny_updateSeq hS rfl ?_)
  have hS2 := Heap.get?_update_self (Obj.mapSeq (fun _ => (#[] : Array Value))) hS rfl
  have oth : ∀ b o, b ≠ S → s.heap.get? b = some o → (s.heap.update S (Obj.mapSeq (fun _ => (#[] : Array Value)))).get? b = some o :=
    fun b o hb e => (Heap.get?_update_other _ _ (Ne.symm hb)).trans e
  have hsz : (s.heap.update S (Obj.mapSeq (fun _ => (#[] : Array Value)))).objs.size = s.heap.objs.size := (Heap.SameBut.update ..).1
  refine wpAny_bind (wpAny_letGo ?_)
  refine pm_extend hh hSi hpi hpS hn hz .none hrun hix hcy (oth it _ (Ne.symm hSi) hit) ?_ hS2 hl fun h' acc' c' k1 k2 k3 => ?_
  · obtain ⟨o, q1, q2⟩ := id hp
    exact ⟨o, oth pool o hpS q1, q2⟩
  · exact hR h' acc' c' (fun b o h1 h2 e => k1 b o h1 h2 (oth b o h1 e)) k2 (Told.mono (Nat.le_of_eq hsz.symm) k3)
end
section
variable {prog : Program} {w : World} {A : Around} {E : Value → Shared → Prop} {s : Shared}
theorem pm_callList {it pool : Addr} {items : Array Value} {r : Nat} (hh : A.handled = none) (hpi : pool ≠ it) (hn : items.size = r) (hz : r ≤ 1000)
    {L : List (List Nat)} {ix cy : List Nat} {last : Value} (hrun : Run r ix cy L) (hix : ix.length = r) (hcy : cy.length = r) (hit : IsPm s.heap it pool 0 r last ix cy) (hp : IsTup s.heap pool items) (hl : L.length + 1 ≤ 16777216) {Q : Value → Shared → Prop}
    (hQ : ∀ h' acc' c', (∀ b o, b ≠ it → s.heap.get? b = some o → h'.get? b = some o) → h'.get? s.heap.objs.size = some { cls := .type "list", dict := none, data := .seq acc' c', slots := #[] } → Told h' (s.heap.objs.size + 1) items (ix :: L) acc'.toList → Q (.ref s.heap.objs.size) { s with heap := h' }) :
    wpAny (model prog w) A (call (.type "list") [.ref it]) Q E s := by
  have hlt := Heap.lt_size hit
  obtain ⟨op, hop, rp⟩ := id hp
  have hplt := Heap.lt_size hop
  refine callType_codes (Q₁ := fun obj s₁ => obj = .ref s.heap.objs.size ∧ s₁ = { s with heap := s.heap.push { cls := .type "list", data := .seq #[] } }) F.called_list (F.typeCall_list_1 _) F.entry_list_init
    (code_list_new _ ⟨rfl, rfl⟩) fun obj s₁ h₁ => ?_
  obtain ⟨rfl, rfl⟩ := h₁
  have hS : (s.heap.push { cls := .type "list", data := .seq #[] }).get? s.heap.objs.size = some { cls := .type "list", data := .seq #[] } := Heap.get?_push_size _ rfl
  refine ⟨⟨_, hS, rfl⟩, F.args_list_init_2 _ _, pm_listInit hh (Nat.ne_of_gt hlt) hpi (Nat.ne_of_lt hplt) hn hz hrun hix hcy (Heap.get?_push_of_some _ hit) ⟨op, Heap.get?_push_of_some _ hop, rp⟩ hS hl fun h' acc' c' k1 k2 k3 => ?_⟩
  refine ⟨rfl, hQ h' acc' c' (fun b o hb e => k1 b o (Nat.ne_of_lt (Heap.lt_size e)) hb (Heap.get?_push_of_some _ e)) k2 ?_⟩
  have hsz : (s.heap.push { cls := .type "list", data := .seq #[] }).objs.size = s.heap.objs.size + 1 := by simp [Heap.push]
  rw [← hsz]
  exact k3
end
end Pm

set_option Elab.async false
set_option linter.all false
set_option maxRecDepth 100000
set_option maxHeartbeats 2000000
namespace Pm
open PySem PySem.Spec PyProof.Rows
open Sem (wp)
section
variable {prog : Program} {w : World}
def newSpec (r : Addr) (a b c : Int) (t u v : Tok) (n : Nat) : _root_.PySem.Spec := fun A R s => A.handled = none ∧ IsRange s.heap r a b c t u v ∧ Builtin.Range.small a b c = true ∧ Builtin.Range.rangeSize a b c = n ∧ n ≤ 1000 ∧
  ∀ (h' : Heap) (tk : Nat) (acc : Array Value) (pool : Addr), (∀ b o, s.heap.get? b = some o → h'.get? b = some o) → ItemsOf (fun i v => ∃ t, v = .int (a + i * c) t) acc n → s.heap.get? pool = none → pool + 1 = h'.objs.size →
    IsTup h' pool acc →
    R (.ok (.ret (.ref h'.objs.size))) { s with heap := h'.push { cls := .type "itertools.permutations", data := .fields ([.ref pool, rawInt 0, rawInt n, .none] ++ (List.range n ++ (List.range n).map fun i => n - i).map fun (n : Nat) => rawInt n).toArray }, toks := tk }
theorem pm_meets (r : Addr) (a b c : Int) (t u v : Tok) (n : Nat) : MeetsIn prog w (Builtin.«itertools.permutations.__new__» ⟨[.type "itertools.permutations", .ref r], []⟩) (newSpec r a b c t u v n) :=
  .of_wp fun A R s h => by
    obtain ⟨hh, hr, hsm, hn, hz, hR⟩ := h
    have hsub := pm_sub
    have hd := pm_noDict
    unfold Builtin.«itertools.permutations.__new__»
    refine wpAny_bind (wpAny_of_eq (a := (Value.type "itertools.permutations", [Value.ref r])) (by simp only [Builtin.Itertools.itClassAndRest, isType, hsub, pure_bind, Bool.not_true, Bool.false_eq_true, if_false]; rfl) ?_)
    refine wpAny_bind (wpAny_of_eq (a := [some (Value.ref r), none]) (by first | rfl | kernel_rfl) ?_)
    refine wpAny_bind (L2.collect_range (A := A.in1) hh hr hsm hn (by omega) fun h' tk acc k1 k2 => ?_)
    have hlen : acc.toList.length = n := by rw [Array.length_toList]; exact k2.1
    refine wpAny_bind (wpAny_of_eq (a := ((acc.toList.length : Nat) : Int)) rfl ?_)
    rw [hlen]
    show wpAny _ _ (if ((n : Nat) : Int) < 0 then _ else _) _ _ _
    rw [if_neg (by omega)]
    show wpAny _ _ (if Builtin.Itertools.itTooMany ((n : Nat) : Int) = true then _ else _) _ _ _
    rw [if_neg (by unfold Builtin.Itertools.itTooMany; simp; omega)]
    have h16 : (16777216 : Nat) = sizeLine := by decide
    have hsz : acc.size = n := k2.1
    show wpAny _ _ (newTuple acc.toList >>= _) _ _ _
    simp only [newTuple]
    refine wpAny_bind (wpAny_newObj_type ?_ (by show acc.toList.toArray.size ≤ sizeLine; rw [List.size_toArray, hlen]; omega))
    have hf : ([Value.ref h'.objs.size, rawInt (if ((n : Nat) : Int).toNat > n then 2 else 0), rawInt (((n : Nat) : Int).toNat : Nat), Value.none] ++ List.map (fun (i : Nat) => rawInt i) (List.range n) ++ List.map (fun (i : Nat) => rawInt ((n : Int) - i)) (List.range ((n : Nat) : Int).toNat)) =
        [Value.ref h'.objs.size, rawInt 0, rawInt n, Value.none] ++ (List.range n ++ (List.range n).map fun i => n - i).map fun (n : Nat) => rawInt n := by
      rw [Int.toNat_natCast, if_neg (by omega), List.map_append, List.map_map, List.append_assoc]
      congr 2
      apply List.map_congr_left
      intro i hi
      rw [List.mem_range] at hi
      show rawInt ((n : Int) - i) = rawInt ((n - i : Nat) : Int)
      congr 1
      omega
    show wpAny _ _ (Builtin.Itertools.itNewRecord (Value.type "itertools.permutations") ([Value.ref h'.objs.size, rawInt (if ((n : Nat) : Int).toNat > n then 2 else 0), rawInt (((n : Nat) : Int).toNat : Nat), Value.none] ++ List.map (fun (i : Nat) => rawInt i) (List.range n) ++ List.map (fun (i : Nat) => rawInt ((n : Int) - i)) (List.range ((n : Nat) : Int).toNat)) >>= _) _ _ _
    rw [hf]
    unfold Builtin.Itertools.itNewRecord
    simp only [hd]
    rw [if_pos (by decide)]
    refine wpAny_bind (wpAny_newObj_type ?_ (by first | trivial | (simp [sizeOk]; omega) | size_fits))
    refine wpAny_pure ⟨_, rfl, ?_⟩
    have hsz2 : (h'.push { cls := .type "tuple", data := .seq acc.toList.toArray }).objs.size = h'.objs.size + 1 := by simp [Heap.push]
    exact hR _ tk acc h'.objs.size (fun b o e => Heap.get?_push_of_some _ (k1 b o e)) k2 (by
      cases hq : s.heap.get? h'.objs.size with
      | none => rfl
      | some o => exact absurd (Heap.lt_size (k1 _ _ hq)) (Nat.lt_irrefl _)) hsz2.symm (IsTup.new h' acc)
theorem pm_call {A : Around} {E : Value → Shared → Prop} {s : Shared} {Q : Value → Shared → Prop} {r : Addr} {a b c : Int} {t u v : Tok} {n : Nat} (hh : A.handled = none) (hr : IsRange s.heap r a b c t u v) (hsm : Builtin.Range.small a b c = true) (hn : Builtin.Range.rangeSize a b c = n) (hz : n ≤ 1000)
    (hQ : ∀ (h' : Heap) (tk : Nat) (acc : Array Value) (pool it : Addr), (∀ b o, s.heap.get? b = some o → h'.get? b = some o) → ItemsOf (fun i v => ∃ t, v = .int (a + i * c) t) acc n → s.heap.get? pool = none → s.heap.get? it = none → pool ≠ it → IsTup h' pool acc →
      IsPm h' it pool 0 n .none (List.range n) ((List.range n).map fun i => n - i) → Q (.ref it) { s with heap := h', toks := tk }) :
    wpAny (model prog w) A (call (.type "itertools.permutations") [.ref r]) Q E s := by
  refine callType_newIn pm_called (by decide +kernel) (pm_type1 _) (pm_new1 _) (fun obj => F.args_object_init_2 obj _) pm_entry_new (pm_meets r a b c t u v n) ⟨hh, hr, hsm, hn, hz, fun h' tk acc pool k1 k2 k3 k4 k5 => ?_⟩
  have hp : (h'.push { cls := .type "itertools.permutations", data := .fields ([.ref pool, rawInt 0, rawInt n, .none] ++ (List.range n ++ (List.range n).map fun i => n - i).map fun (n : Nat) => rawInt n).toArray }).get? h'.objs.size = some { cls := .type "itertools.permutations", data := .fields ([.ref pool, rawInt 0, rawInt n, .none] ++ (List.range n ++ (List.range n).map fun i => n - i).map fun (n : Nat) => rawInt n).toArray } := Heap.get?_push_size _ rfl
  obtain ⟨o, q1, q2⟩ := k5
  refine ⟨⟨_, hp, rfl⟩, hQ _ tk acc pool h'.objs.size (fun b o e => Heap.get?_push_of_some _ (k1 b o e)) k2 k3 ?_ (Nat.ne_of_lt (by rw [← k4]; exact Nat.lt_succ_self _)) ⟨o, Heap.get?_push_of_some _ q1, q2⟩ hp⟩
  cases hq : s.heap.get? h'.objs.size with
  | none => rfl
  | some o => exact absurd (Heap.lt_size (k1 _ _ hq)) (Nat.lt_irrefl _)
end
end Pm

set_option Elab.async false
set_option linter.all false
set_option maxRecDepth 100000
set_option maxHeartbeats 2000000
namespace Pm
theorem run_rows {r : Nat} : ∀ {k : Nat} {ix cy : List Nat}, runB r k ix cy = true → Run r ix cy (rows r k ix cy) ∧ ∀ row ∈ rows r k ix cy, row.length = r ∧ ∀ i ∈ row, i < r
  | 0, _, _, h => by cases h
  | k + 1, ix, cy, h => by
    unfold runB at h
    unfold rows
    cases hs : stp r r ix cy with
    | none => exact ⟨.stop hs, fun _ q => nomatch q⟩
    | some p =>
      obtain ⟨a, b⟩ := p
      rw [hs] at h
      simp only [Bool.and_eq_true, decide_eq_true_eq] at h
      obtain ⟨h1, h2⟩ := run_rows h.2
      refine ⟨.go hs h.1.1.1 h.1.1.2 h1, fun row q => ?_⟩
      rcases List.mem_cons.mp q with rfl | q
      · exact ⟨h.1.1.1, fun i hi => of_decide_eq_true (List.all_eq_true.mp h.1.2 i hi)⟩
      · exact h2 row q
end Pm

set_option Elab.async false
set_option linter.all false
set_option maxHeartbeats 8000000
set_option maxRecDepth 100000
/-! list(permutations(range(a, b))) -/
namespace Ev
open PySem L2 PySem.Spec PyProof.Rows
/-- new tuples, one behind the other -/
inductive Lays : Hp → List (List V) → List V → Hp → Prop where
  | nil {H : Hp} : Lays H [] [] H
  | cons {H H1 : Hp} {a : Addr} {o : Obj} {row : List V} {rows : List (List V)} {vs : List V} : o.dict = none → H a = none → Lays (upd H a (.frz o (.tup row))) rows vs H1 → Lays H (row :: rows) (.ref a :: vs) H1
theorem Lays.len {H H1 : Hp} {rows : List (List V)} {vs : List V} (h : Lays H rows vs H1) : vs.length = rows.length := by
  induction h with
  | nil => rfl
  | cons _ _ _ ih => rw [List.length_cons, List.length_cons, ih]
def rowV (a : Int) (row : List Nat) : List V := row.map fun (k : Nat) => V.int (a + (k : Nat))
theorem vals_row {a : Int} {n : Nat} {acc : Array Value} (h : ItemsOf (fun i v => ∃ t, v = .int (a + i * 1) t) acc n) : ∀ {row : List Nat}, (∀ i ∈ row, i < n) → Vals (rowV a row) (Pm.rowAt acc row)
  | [], _ => .nil
  | k :: row, hk => by
    refine .cons ?_ (vals_row h fun i q => hk i (List.mem_cons_of_mem _ q))
    have hlt : k < acc.size := by rw [h.1]; exact hk k List.mem_cons_self
    obtain ⟨t, e⟩ := h.2 k acc[k] (Array.getElem?_eq_getElem hlt)
    refine ⟨t, ?_⟩
    show acc.getD k .none = _
    rw [Array.getD_eq_getD_getElem?, Array.getElem?_eq_getElem hlt]
    show acc[k] = _
    rw [e, Int.mul_one]
theorem told_lays {P : Program} {w : World} {h : Heap} {a : Int} {n : Nat} {acc : Array Value} (hi : ItemsOf (fun i v => ∃ t, v = .int (a + i * 1) t) acc n) (hn : n ≤ 1000) :
    ∀ {L : List (List Nat)} {us : List Value} {f : Nat} {H : Hp}, Pm.Told h f acc L us → (∀ row ∈ L, row.length = n ∧ ∀ i ∈ row, i < n) → (∀ b, f ≤ b → H b = none) → HOk P w H h →
      ∃ vs H1, Lays H (L.map (rowV a)) vs H1 ∧ Vals vs us ∧ HOk P w H1 h ∧ (∀ b o, H b = some o → H1 b = some o) ∧ (∀ b, b < f → H1 b = H b)
  | [], [], f, H, _, _, _, hk => ⟨[], H, .nil, .nil, hk, fun _ _ q => q, fun _ _ => rfl⟩
  | [], _ :: _, _, _, h, _, _, _ => h.elim
  | _ :: _, [], _, _, h, _, _, _ => h.elim
  | row :: L, u :: us, f, H, hT, hr, hf, hk => by
    obtain ⟨t, rfl, h1, h2, h3⟩ := hT
    have r0 := hr row List.mem_cons_self
    have ht : H t = none := hf t h1
    have new : ObjOk P w (upd H t (.frz { cls := .type "tuple", data := .seq (Pm.rowAt acc row).toArray } (.tup (rowV a row)))) h t (.frz { cls := .type "tuple", data := .seq (Pm.rowAt acc row).toArray } (.tup (rowV a row))) := by
      refine ⟨h2, ?_, _, vals_row hi r0.2, ⟨_, h2, rfl, _, rfl⟩⟩
      unfold rowV
      rw [List.length_map, r0.1, sizeLine_eq]
      omega
    obtain ⟨vs, H1, k1, k2, k3, k4, k5⟩ := told_lays hi hn h3 (fun r q => hr r (List.mem_cons_of_mem _ q)) (H := upd H t _) (fun b q => by rw [upd_ne (Nat.ne_of_gt q)]; exact hf b (by omega)) (hk.laidN (fun _ _ q => q) ht new)
    refine ⟨.ref t :: vs, H1, .cons rfl ht k1, .cons rfl k2, k3, fun b o q => k4 b o ?_, fun b q => ?_⟩
    · rw [upd_ne (ne_of_none q ht)]
      exact q
    · rw [k5 b (by omega), upd_ne (show b ≠ t by omega)]
section
variable {T : Tb} {N : List Str} {CX : CXT} {cf : CF} {W : L2.WX} {bk : Option Scope} {sc : Scope} {X : Cx}
theorem pe_perms {e : Expr} {te : L2.St → Hp → (Int → Int → Hp → Prop) → Prop} {p p1 p2 pos : Pos} (hc : X.calm = true) (hg : Gl X "list") (hm : X.mg "list" = none) (hp : Gl X "permutations") (hq : X.mg "permutations" = some (.type "itertools.permutations")) (he : PRgC X 1 e te) (na : NoStar e) :
    PE X (.Call (.Name "list" p) [.Call (.Name "permutations" p1) [e] [] p2] [] pos) (fun σ H Q => te σ H fun a b H1 => ∃ n, Builtin.Range.small a b 1 = true ∧ Builtin.Range.rangeSize a b 1 = (n : Nat) ∧ Pm.allOk n = true ∧
      ∀ vs H2 q, Lays H1 ((Pm.all n).map (rowV a)) vs H2 → H2 q = none → Q (.ref q) (upd H2 q (.lst vs))) := by
  refine ⟨fun pins s σ H Q I h => ?_⟩
  have nb : NoStar (.Call (.Name "permutations" p1) [e] [] p2) := fun x q z => by cases z
  refine Call_ (ld_blt I hg hm boot_list (PyProof.Rows.callWith_type1 (args_cons ?_ (star_ok nb)) (star_ok nb)))
  refine Call_ (ld_glob I hp hq (PyProof.Rows.callWith_type1 (args_cons (thn (he pins s σ H _ I h) fun x s1 ⟨r, a, b, t, u, v, H1, ex, hr, I1, n, b1, b2, b3, q⟩ => args_nil ?_) (star_ok na)) (star_ok na)))
  subst ex
  unfold Pm.allOk at b3
  simp only [Bool.and_eq_true, decide_eq_true_eq] at b3
  obtain ⟨⟨z1, z2⟩, z3⟩ := b3
  obtain ⟨run, rok⟩ := Pm.run_rows z2
  have hd := I1.ok.hd hc
  refine Pm.pm_call hd hr b1 b2 (by omega) fun h' tk acc pool it k1 k2 k3 k4 k5 k6 k7 => ?_
  refine args_nil ?_
  refine Pm.pm_callList (s := { s1 with heap := h', toks := tk }) hd k5 k2.1 (by omega) run List.length_range (show (Pm.cyc n).length = n by unfold Pm.cyc; rw [List.length_map, List.length_range]) k7 k6 (by have z4 : (Pm.rows n 5040 (List.range n) (Pm.cyc n)).length + 1 ≤ 5040 := z3; exact Nat.le_trans z4 (by decide)) fun h2 acc' c' g1 g2 g3 => ?_
  have kept : ∀ b o, s1.heap.get? b = some o → h2.get? b = some o := fun b o w => g1 b o (fun z => by rw [z, k4] at w; cases w) (k1 b o w)
  have I2 : Inv X pins σ H1 { s1 with heap := h', toks := tk } := I1.kept k1
  have hrows : ∀ row ∈ List.range n :: Pm.rows n 5040 (List.range n) (Pm.cyc n), row.length = n ∧ ∀ i ∈ row, i < n := fun row hrow => by
    rcases List.mem_cons.mp hrow with rfl | hrow
    · exact ⟨List.length_range, fun i q => List.mem_range.mp q⟩
    · exact rok row hrow
  obtain ⟨vs, H2, w1, w2, w3, w4, w5⟩ := told_lays (P := X.prog) (w := X.w) (H := H1) (a := a) k2 (by omega) g3 hrows (fun b hb => I2.hok.fresh (Nat.le_of_succ_le hb)) (I1.hok.kept kept)
  have hq2 : H2 h'.objs.size = none := by rw [w5 _ (Nat.lt_succ_self _)]; exact I2.hok.fresh (Nat.le_refl _)
  have new : ObjOk X.prog X.w (upd H2 h'.objs.size (.lst vs)) h2 h'.objs.size (.lst vs) := by
    refine ⟨?_, acc'.toList, c', w2, by rw [Array.toArray_toList]; exact g2⟩
    rw [w1.len, List.length_map, sizeLine_eq]
    have z4 : (List.range n :: Pm.rows n 5040 (List.range n) (Pm.cyc n)).length ≤ 5040 := z3
    omega
  refine ⟨.ref h'.objs.size, upd H2 h'.objs.size (.lst vs), I1.un (t' := tk) ?_ (w3.laidN (fun _ _ q => q) hq2 new), rfl, q vs H2 _ w1 hq2⟩
  have fresh : ∀ b o, s1.heap.get? b = some o → b < h'.objs.size := fun b o w => Heap.lt_size (k1 b o w)
  refine ⟨fun b o w _ _ _ => kept b o w, fun b o w _ _ _ => ⟨o.slots, kept b o w⟩, fun b o w n _ => ?_, fun b o w _ => ⟨o, kept b o w⟩, fun b xs w => ?_, fun b o xs w => ?_, fun b ps w => ⟨#[], ?_⟩⟩
  · rw [upd_ne (Nat.ne_of_lt (fresh b o w)), w5 b (Nat.lt_succ_of_lt (fresh b o w))]
    exact n
  · rw [upd_ne (ne_of_none (w4 _ _ w) hq2)]
    exact w4 _ _ w
  · rw [upd_ne (ne_of_none (w4 _ _ w) hq2)]
    exact w4 _ _ w
  · rw [upd_ne (ne_of_none (w4 _ _ w) hq2), w4 _ _ w]
    simp
theorem lays_rel {g : G} {c : C} {M : Addr → Prop} {σ : L2.St} {e : Fm} {i : Int} : ∀ {L : List (List Nat)} {H : Hp} {vs : List V} {H1 : Hp}, Sr g.K c M σ H e → (∀ row ∈ L, row.length ≤ 1000) → Lays H (L.map (rowV i)) vs H1 →
    Sr g.K c M σ H1 e ∧ Ext σ M H e M H1 e ∧ Rels g.K M H1 (L.map fun row => PyData.tuple (row.map fun (k : Nat) => .int (i + (k : Nat)))) vs
  | [], H, vs, H1, s, _, h => by
    cases h
    exact ⟨s, .refl, Rels.nil⟩
  | row :: L, H, vs, H1, s, hr, h => by
    cases h with
    | cons ho ha h =>
      rename_i a o vs
      obtain ⟨s1, x1⟩ := s.lay ha (.frz o (.tup (rowV i row)))
      have hrow : Rels g.K M H (row.map fun (k : Nat) => PyData.int (i + (k : Nat))) (rowV i row) := by
        unfold rowV
        generalize row = l
        induction l with
        | nil => exact Rels.nil
        | cons n l ih => exact Rels.cons (by simp only [Rel]) ih
      have r1 := s.newTup ho ha (by rw [List.length_map]; exact Nat.le_trans (hr row List.mem_cons_self) (by decide)) hrow
      obtain ⟨s2, x2, r2⟩ := lays_rel s1 (fun r q => hr r (List.mem_cons_of_mem _ q)) h
      exact ⟨s2, x1.trans x2, Rels.cons (s1.rel x2 r1) r2⟩
theorem all_len {n : Nat} (h : Pm.allOk n = true) : n ≤ 7 ∧ (Pm.all n).length ≤ 5040 ∧ ∀ row ∈ Pm.all n, row.length ≤ 1000 := by
  unfold Pm.allOk at h
  simp only [Bool.and_eq_true, decide_eq_true_eq] at h
  refine ⟨h.1.1, h.2, fun row q => ?_⟩
  rcases List.mem_cons.mp q with rfl | q
  · rw [List.length_range]; omega
  · rw [((Pm.run_rows h.1.2).2 row q).1]; omega
theorem prm_val {d1 d2 : D} {o : Opd} (h : prmD d1 d2 = some o) : ∃ i j, d1 = .int i ∧ d2 = .int j ∧ rngOk i = true ∧ rngOk j = true ∧ Pm.allOk (j - i).toNat = true ∧ o = .fresh (.list ((Pm.all (j - i).toNat).map fun row => .tuple (row.map fun (k : Nat) => .int (i + (k : Nat))))) := by
  cases d1 <;> cases d2 <;> simp only [prmD] at h <;> first | (cases h; done) | skip
  rename_i i j
  split at h
  · rename_i hc
    cases h
    simp only [Bool.and_eq_true] at hc
    exact ⟨i, j, rfl, rfl, hc.1.1, hc.1.2, hc.2, rfl⟩
  · cases h
theorem prm_rd {g : G} {a b : Ev.M Opd} {σ : L2.St} {H : Hp} {Q : VK} (h : tE g (two a b prmD) σ H Q) : tRg2 (tE g a) (tE g b) σ H fun i j H1 => ∃ n, Builtin.Range.small i j 1 = true ∧ Builtin.Range.rangeSize i j 1 = (n : Nat) ∧ Pm.allOk n = true ∧
      ∀ vs H2 q, Lays H1 ((Pm.all n).map (rowV i)) vs H2 → H2 q = none → Q (.ref q) (upd H2 q (.lst vs)) := by
  obtain ⟨c, M, e, s, h⟩ := h
  refine ⟨c, M, e, s, (Ok.bind h).imp fun o1 M1 H1 e1 s1 x1 k1 h1 v1 r1 f1 => ?_⟩
  refine ⟨c, M1, e1, s1, (Ok.bind h1).imp fun o2 M2 H2 e2 s2 x2 k2 h2 v2 r2 f2 => ?_⟩
  obtain ⟨d1, t1, h2⟩ := Ok.der s2 (s1.opd x2 k2 r1) h2
  obtain ⟨d2, t2, h2⟩ := Ok.der s2 r2 h2
  obtain ⟨o, ho, h2⟩ := Ok.opt h2
  obtain ⟨i, j, rfl, rfl, z1, z2, z3, rfl⟩ := prm_val ho
  have z1 := rngOk_ok z1
  have z2 := rngOk_ok z2
  obtain ⟨w1, w2, w3⟩ := all_len z3
  refine ⟨i, j, t1.int, t2.int, (j - i).toNat, small_one z1.1 z1.2 z2.1 z2.2, rangeSize_nat i j, z3, fun vs H3 q hl hq => ?_⟩
  obtain ⟨s3, x3, r3⟩ := lays_rel s2 w3 hl
  refine Fin.list (g := g) (Q := Q) s3 (fun M' H' v s' x' r' fr => h2 M' H' s' (x3.trans x') v r' ((fr.old x3).old (x1.trans x2))) ?_ r3 q hq
  rw [List.length_map]
  exact Nat.le_trans w2 (by decide)
theorem prm_ok (G : Good T N CX cf W bk sc X) {x y z : Str} {p1 p2 p3 p4 p5 pos : Pos} {a b : Ev.M Opd} {l r : Expr} (hx : x = ("list" : Str)) (hz : z = ("permutations" : Str)) (hy : y = ("range" : Str)) (gx : glB sc x = true) (gz : glB sc z = true) (gy : glB sc y = true) (hp : X.mg ("permutations" : Str) = some (.type "itertools.permutations"))
    (ha : PE X l (tE ⟨X.K, X.mg, W⟩ a)) (hb : PE X r (tE ⟨X.K, X.mg, W⟩ b)) (sl : NoStar l) (sr : NoStar r) :
    PE X (.Call (.Name x p1) [.Call (.Name z p2) [.Call (.Name y p3) [l, r] [] p4] [] p5] [] pos) (tE ⟨X.K, X.mg, W⟩ (two a b prmD)) := by
  subst hx
  subst hy
  subst hz
  exact PE.mono (pe_perms G.calm (G.gl gx) (G.blt "list" (by decide)) (G.gl gz) hp (prg_up (p := p3) (pos := p4) (G.gl gy) (G.blt "range" (by decide)) ha hb sl sr) (fun x q z => by cases z)) fun σ H Q h => prm_rd h
end
end Ev

set_option Elab.async false
set_option linter.all false
set_option maxHeartbeats 8000000
set_option maxRecDepth 100000
/-! texts and their methods; chains of three; a display's get -/
namespace Ev
open PySem L2 PySem.Spec
section
variable {X : Cx}
theorem laid_partsF {pins : List (Addr × Obj)} {σ : L2.St} {H : Hp} {s : Shared} {Q : VK} {x y z : Str} {t u v : Tok} {k : Nat} (I : Inv X pins σ H s) (h : ∀ (p : Addr) (o : Obj), o.dict = none → H p = none → Q (.ref p) (upd H p (.frz o (.tup [.str x, .str y, .str z])))) :
    EP X pins σ Q (.ref s.heap.objs.size) { s with toks := k, heap := s.heap.push { cls := .type "tuple", data := .seq [Value.str x t, .str y u, .str z v].toArray } } := by
  have hp := I.hok.fresh (Nat.le_refl _)
  exact ⟨.ref s.heap.objs.size, _, I.laid (fun b u q => Heap.get?_push_of_some _ q) (Nat.le_refl _)
    (tup_obj (by show 3 ≤ sizeLine; decide) (.cons (show RelV (.str x) _ from ⟨t, rfl⟩) (.cons (show RelV (.str y) _ from ⟨u, rfl⟩) (.cons (show RelV (.str z) _ from ⟨v, rfl⟩) .nil))) rfl), rfl, h _ _ rfl hp⟩
def rPartF : V → List V → Hp → VK → Prop := fun x xs H Q => ∃ a b, x = V.str a ∧ xs = [.str b] ∧ (b.length == 0) = false ∧ a.length ≤ sizeLine ∧
    ∀ (p : Addr) (o : Obj), o.dict = none → H p = none → Q (.ref p) (upd H p (.frz o (.tup [.str (Txt.partition a b).1, .str (Txt.partition a b).2.1, .str (Txt.partition a b).2.2])))
theorem mt_partF : MtR X "str.partition" rPartF := by
  intro pins s σ H x xs v us Q I rx rs h
  obtain ⟨a, b, rfl, rfl, hb, hz, h⟩ := h
  obtain ⟨t, rfl⟩ := rx
  cases rs with
  | cons r1 rs =>
    cases rs
    obtain ⟨u, rfl⟩ := r1
    refine call_meets F.slot_str_partition (typeIs_str _ _ _) F.entry_str_partition (F.args_str_partition_2 _ _) (meets_str_partition a b t u hb hz) ?_
    unfold Txt.partition at h
    revert h
    cases Builtin.Str.occurrences a b 0 a.length 1 with
    | nil => intro h; exact laid_partsF I h
    | cons i r => intro h; exact laid_partsF I h
def rSm (K : PySem.W.Frag) : Sq → V → List V → Hp → VK → Prop
  | .join => fun x xs H Q => ∃ a p, ∃ ys : List Str, x = V.str a ∧ xs = [.ref p] ∧ (SqL K H p (ys.map V.str) ∨ SqT K H p (ys.map V.str)) ∧ (ys.map (·.length)).sum + ys.length * a.length ≤ 16777216 ∧ Q (.str (Txt.join a ys)) H
  | .split => fun x xs H Q => ∃ a b, x = V.str a ∧ xs = [.str b] ∧ (b.length == 0) = false ∧ a.length + 2 ≤ sizeLine ∧ rNewStrs (Txt.split a b) H Q
  | .part => rPartF
  | .starts => fun x xs H Q => ∃ a b, x = V.str a ∧ xs = [.str b] ∧ Q (.bl (Txt.startswith a b)) H
  | .find => fun x xs H Q => ∃ a b, x = V.str a ∧ xs = [.str b] ∧ Q (.int (Txt.find a b)) H
  | .count => fun x xs H Q => ∃ a b, x = V.str a ∧ xs = [.str b] ∧ Q (.int (Txt.count a b)) H
  | .upper => fun x xs H Q => ∃ a, x = V.str a ∧ xs = [] ∧ a.length ≤ 5592405 ∧ Q (.str (Txt.upper a)) H
  | .find2 => fun x xs H Q => ∃ (a b : Str) (i : Int), x = V.str a ∧ xs = [.str b, .int i] ∧ Q (.int (Txt.find3 a b i)) H
  | _ => fun _ _ _ _ => False
theorem few_okS {env : PySem.Env} {pos : Pos} {es : List Expr} (hst : ∀ e ∈ es, NoStar e) (h3 : es.length < 30) : ((backTo pos (starEach es env)).all (fun x => !x.1) && (backToKw pos (keywordEach [] env)).all (fun x => x.1.isSome)
      && decide (es.length + ([] : List Keyword).length + (if ([] : List Keyword).isEmpty then 0 else 1) < 30)) = true := by
  have q1 := stars_ok (env := env) (pos := pos) hst
  have q2 : (backToKw pos (keywordEach [] env)).all (fun x => x.1.isSome) = true := rfl
  rw [q2, Bool.and_true, Bool.and_eq_true]
  refine ⟨?_, by simpa using h3⟩
  rw [List.all_eq_not_any_not]
  simpa using q1
theorem base_ok {o : Expr} {a : Str} {env : PySem.Env} {whole : Sem Value} (h : baseOk o = true) : attributeBase o a env whole = whole := by
  unfold attributeBase
  split
  · cases h
  · rfl
/-- the call of a method of texts, with arguments -/
theorem pe_sm {m : Sq} {o e : Expr} {es : List Expr} {to : TE} {t : TA} {apos cpos : Pos} (ho : PE X o to) (ha : PA X (e :: es) t) (hb : baseOk o = true) (hst : ∀ x ∈ e :: es, NoStar x) (hl : (e :: es).length < 30) (hline : (apos.endLine == cpos.line) = true) (hn : sqAr m = some (e :: es).length) :
    PE X (.Call (.Attribute o (sqNm m : Str) apos) (e :: es) [] cpos) (tBM X.K "str" (rSm X.K m) to t) := by
  have hs := star_ok (es := es) (env := X.env) (hst e (by simp))
  have hp := stars_ok (env := X.env) (pos := cpos) fun x q => hst x (List.mem_cons_of_mem _ q)
  have hf := few_okS (env := X.env) (pos := cpos) hst hl
  have pa := PySem.F.plainAttrs_str
  cases m <;> first | (cases hn; done) | skip
  · exact pe_bm pa PySem.F.slot_str_join PySem.F.type_str_join mt_join ho ha (base_ok hb) hf hline hs hp
  · exact pe_bm pa PySem.F.slot_str_split PySem.F.type_str_split mt_split ho ha (base_ok hb) hf hline hs hp
  · exact pe_bm pa PySem.F.slot_str_partition PySem.F.type_str_partition mt_partF ho ha (base_ok hb) hf hline hs hp
  · exact pe_bm pa PySem.F.slot_str_startswith PySem.F.type_str_startswith mt_startswith ho ha (base_ok hb) hf hline hs hp
  · exact pe_bm pa PySem.F.slot_str_find PySem.F.type_str_find mt_find ho ha (base_ok hb) hf hline hs hp
  · exact pe_bm pa PySem.F.slot_str_find PySem.F.type_str_find mt_find3 ho ha (base_ok hb) hf hline hs hp
  · exact pe_bm pa PySem.F.slot_str_count PySem.F.type_str_count mt_count ho ha (base_ok hb) hf hline hs hp
theorem pe_sm0 {m : Sq} {o : Expr} {to : TE} {apos cpos : Pos} (ho : PE X o to) (hb : baseOk o = true) (hline : (apos.endLine == cpos.line) = true) (hn : sqAr m = some 0) :
    PE X (.Call (.Attribute o (sqNm m : Str) apos) [] [] cpos) (tBM0 X.K "str" (rSm X.K m) to) := by
  cases m <;> first | (cases hn; done) | skip
  exact pe_bm0 PySem.F.plainAttrs_str PySem.F.slot_str_upper PySem.F.type_str_upper mt_upper ho (base_ok hb) hline
variable {g : G} {c : C} {M : Addr → Prop} {σ : L2.St} {H : Hp} {e : Fm}
theorem rels_strs : ∀ {ds : List D} {vs : List V} {ys : List Str}, Rels g.K M H ds vs → ds.mapM strD = some ys → vs = ys.map V.str
  | [], vs, ys, r, h => by
    simp only [Rels] at r
    cases h
    exact r
  | d :: ds, vs, ys, r, h => by
    simp only [Rels] at r
    obtain ⟨v, rs, rfl, q, t⟩ := r
    obtain ⟨y, ys', h1, h2, rfl⟩ := mapM_cons h
    cases d <;> simp only [strD] at h1 <;> first | (cases h1; done) | skip
    cases h1
    rw [rels_strs t h2, show v = V.str _ from by simpa only [Rel] using q]
    rfl
theorem rels_of_strs : ∀ ys : List Str, Rels g.K M H (strL ys) (ys.map V.str)
  | [] => Rels.nil
  | y :: r => Rels.cons (by simp only [Rel]) (rels_of_strs r)
theorem split_len (a b : Str) : (Txt.split a b).length ≤ a.length + 2 := by
  exact PyProof.Rows.split_le a b
theorem sm_ok {m : Sq} {a : Str} {ds : List D} {vs : List V} {o : Opd} {Q : VK} (s : Sr g.K c M σ H e) (ts : TopVs g.K M H ds vs) (ho : smD m a ds = some o) (fin : Fin g c M σ H e o Q) : rSm g.K m (.str a) vs H Q := by
  unfold smD at ho
  split at ho
  · obtain ⟨v, rfl, t⟩ := TopVs.one ts
    cases hi : items _ with
    | none => rw [hi] at ho; cases ho
    | some xs =>
      rw [hi] at ho
      simp only [Option.bind_some] at ho
      cases hy : xs.mapM strD with
      | none => rw [hy] at ho; cases ho
      | some ys =>
        rw [hy] at ho
        simp only [Option.bind_some] at ho
        split at ho
        · rename_i hz
          cases ho
          obtain ⟨b, vs, rfl, h1, z, r⟩ := t.items hi
          rw [rels_strs r hy] at h1
          exact ⟨a, b, ys, rfl, rfl, h1, hz, fin.str s⟩
        · cases ho
  · obtain ⟨v, rfl, t⟩ := TopVs.one ts
    split at ho
    · rename_i hz
      cases ho
      rw [t.str]
      exact ⟨a, _, rfl, rfl, hz.1, hz.2, fin.list s (by unfold strL; rw [List.length_map]; exact Nat.le_trans (split_len _ _) hz.2) (rels_of_strs _)⟩
    · cases ho
  · obtain ⟨v, rfl, t⟩ := TopVs.one ts
    split at ho
    · rename_i hz
      cases ho
      rw [t.str]
      exact ⟨a, _, rfl, rfl, hz.1, hz.2, fin.tup s (by rw [show ([_, _, _] : List D).length = 3 from rfl]; decide) (rels_of_strs [_, _, _])⟩
    · cases ho
  · obtain ⟨v, rfl, t⟩ := TopVs.one ts
    cases ho
    rw [t.str]
    exact ⟨a, _, rfl, rfl, fin.bool s⟩
  · obtain ⟨v, rfl, t⟩ := TopVs.one ts
    cases ho
    rw [t.str]
    exact ⟨a, _, rfl, rfl, fin.int s⟩
  · obtain ⟨v, rfl, t⟩ := TopVs.one ts
    cases ho
    rw [t.str]
    exact ⟨a, _, rfl, rfl, fin.int s⟩
  · have : vs = [] := ts
    subst this
    split at ho
    · rename_i hz
      cases ho
      exact ⟨a, rfl, rfl, hz, fin.str s⟩
    · cases ho
  · obtain ⟨v, w, rfl, t, u⟩ := TopVs.two ts
    cases ho
    rw [t.str, u.int]
    exact ⟨a, _, _, rfl, rfl, fin.int s⟩
  · cases ho
theorem sm_rd {m : Sq} {p : Ev.M Opd} {q : Ev.M (List Opd)} {Q : VK} (h : tE g ((pk p).bind fun d0 => (Ev.M.opt (strD d0)).bind fun a => q.bind fun os => (derAll os).bind fun ds => Ev.M.opt (smD m a ds)) σ H Q) :
    tBM g.K "str" (rSm g.K m) (tE g p) (tAs g q) σ H Q := by
  obtain ⟨c, M, e, s, h⟩ := h
  refine ⟨c, M, e, s, (Ok.bind (Ok.bind h)).imp fun o1 M1 H1 e1 s1 x1 k1 h1 v1 r1 f1 => ?_⟩
  obtain ⟨d, t, h2⟩ := Ok.derL s1 r1 h1
  obtain ⟨a, ha, h3⟩ := Ok.optB h2
  cases d <;> simp only [strD] at ha <;> first | (cases ha; done) | skip
  cases ha
  rw [t.str]
  refine ⟨rfl, c, M1, e1, s1, (Ok.bind h3).imp fun os M2 H2 e2 s2 x2 k2 h3 vs rs nf => ?_⟩
  obtain ⟨ds, ts, h4⟩ := ORs.ders s2 rs h3
  obtain ⟨o, ho, h5⟩ := Ok.opt h4
  exact sm_ok s2 ts ho fun M' H' v s' x' r' fr => h5 M' H' s' x' v r' (fr.old (x1.trans x2))
theorem sm0_rd {m : Sq} {p : Ev.M Opd} {Q : VK} (h : tE g ((pk p).bind fun d0 => (Ev.M.opt (strD d0)).bind fun a => (Ev.M.pure []).bind fun os => (derAll os).bind fun ds => Ev.M.opt (smD m a ds)) σ H Q) :
    tBM0 g.K "str" (rSm g.K m) (tE g p) σ H Q := by
  obtain ⟨c, M, e, s, h⟩ := h
  refine ⟨c, M, e, s, (Ok.bind (Ok.bind h)).imp fun o1 M1 H1 e1 s1 x1 k1 h1 v1 r1 f1 => ?_⟩
  obtain ⟨d, t, h2⟩ := Ok.derL s1 r1 h1
  obtain ⟨a, ha, h3⟩ := Ok.optB h2
  cases d <;> simp only [strD] at ha <;> first | (cases ha; done) | skip
  cases ha
  rw [t.str]
  refine ⟨rfl, ?_⟩
  obtain ⟨o, ho, h5⟩ := Ok.opt (show Ok g c σ M1 H1 e1 (Ev.M.opt (smD m _ []) e1) _ from h3)
  exact sm_ok s1 (show TopVs g.K M1 H1 [] [] from rfl) ho fun M' H' v s' x' r' fr => h5 M' H' s' x' v r' (fr.old x1)

/-! ### chains of three -/
variable {g : G}
end
section
open PyProof.Rows
variable {X : Cx}
def tChain3 (r1 r2 r3 : R2) (ta tb tc td : TE) : TE := fun σ H Q => ta σ H fun x H1 => tb σ H1 fun y H2 => r1 x y H2 fun z H3 => ∃ k, z = .bl k ∧
  (if k = true then tc σ H3 fun w H4 => r2 y w H4 fun z' H5 => ∃ k', z' = .bl k' ∧ (if k' = true then td σ H5 fun u H6 => r3 w u H6 Q else Q (.bl false) H5) else Q (.bl false) H3)
theorem pe_chain3 {op op' op2 : CmpOp} {r r' r2 : R2} {a b c d : Expr} {ta tb tc td : TE} {pos : Pos} (ho : OpR X (compareOp op) r) (ho' : OpR X (compareOp op') r') (ho2 : OpR X (compareOp op2) r2) (ha : PE X a ta) (hb : PE X b tb) (hc : PE X c tc) (hd : PE X d td)
    (hm : lastMarks [op, op', op2] [b, c, d] = false) : PE X (.Compare a [op, op', op2] [b, c, d] pos) (tChain3 r r' r2 ta tb tc td) := by
  refine ⟨fun pins s σ H Q I h => ?_⟩
  refine Compare_chain (thn (ha.run pins s σ H _ I h) fun v s1 ⟨x, H1, I1, r1, q1⟩ => chain_link (thn (hb.run pins s1 σ H1 _ I1 q1) fun u s2 ⟨y, H2, I2, r2, q2⟩ =>
    thn (ho pins s2 σ H2 x y v u _ I2 r1 r2 q2) fun d s3 ⟨z, H3, I3, r3, k, e, q3⟩ => ?_)) hm
  subst e
  cases r3
  refine wpAny_truthy_bool ?_
  cases k with
  | false => exact ite_ff ⟨.bl false, H3, I3, rfl, q3⟩
  | true =>
    refine ite_tt (chain_link (thn (hc.run pins s3 σ H3 _ I3 q3) fun w' s4 ⟨z', H4, I4, r4, q4⟩ => thn (ho' pins s4 σ H4 y z' u w' _ I4 r2 r4 q4) fun d s5 ⟨z2, H5, I5, r5, k2, e2, q5⟩ => ?_))
    subst e2
    cases r5
    refine wpAny_truthy_bool ?_
    cases k2 with
    | false => exact ite_ff ⟨.bl false, H5, I5, rfl, q5⟩
    | true => exact ite_tt (chain_last (thn (hd.run pins s5 σ H5 _ I5 q5) fun w2 s6 ⟨z3, H6, I6, r6, q6⟩ => ho2 pins s6 σ H6 z' z3 w' w2 Q I6 r4 r6 q6))
theorem pt_chain3 {op op' op2 : CmpOp} {r r' r2 : R2} {a b c d : Expr} {ta tb tc td : TE} {pos : Pos} (ho : OpR X (compareOp op) r) (ho' : OpR X (compareOp op') r') (ho2 : OpR X (compareOp op2) r2) (ha : PE X a ta) (hb : PE X b tb) (hc : PE X c tc) (hd : PE X d td)
    (hm : lastMarks [op, op', op2] [b, c, d] = false) : PT X (.Compare a [op, op', op2] [b, c, d] pos) (tTest (tChain3 r r' r2 ta tb tc td)) := by
  refine ⟨fun pins s σ H Q I h => ?_⟩
  refine isTrue_chain (thn (ha.run pins s σ H _ I h) fun v s1 ⟨x, H1, I1, r1, q1⟩ => test_link (thn (hb.run pins s1 σ H1 _ I1 q1) fun u s2 ⟨y, H2, I2, r2, q2⟩ =>
    thn (ho pins s2 σ H2 x y v u _ I2 r1 r2 q2) fun d s3 ⟨z, H3, I3, r3, k, e, q3⟩ => ?_)) hm
  subst e
  cases r3
  refine wpAny_truthy_bool ?_
  cases k with
  | false =>
    obtain ⟨k', e', q'⟩ := q3
    cases e'
    exact ite_ff ⟨H3, I3, q'⟩
  | true =>
    refine ite_tt (test_link (thn (hc.run pins s3 σ H3 _ I3 q3) fun w' s4 ⟨z', H4, I4, r4, q4⟩ => thn (ho' pins s4 σ H4 y z' u w' _ I4 r2 r4 q4) fun d s5 ⟨z2, H5, I5, r5, k2, e2, q5⟩ => ?_))
    subst e2
    cases r5
    refine wpAny_truthy_bool ?_
    cases k2 with
    | false =>
      obtain ⟨k', e', q'⟩ := q5
      cases e'
      exact ite_ff ⟨H5, I5, q'⟩
    | true =>
      refine ite_tt (test_last (thn (hd.run pins s5 σ H5 _ I5 q5) fun w2 s6 ⟨z3, H6, I6, r6, q6⟩ => thn (ho2 pins s6 σ H6 z' z3 w' w2 _ I6 r4 r6 q6) fun d' s7 ⟨z4, H7, I7, r7, k3, e3, q7⟩ => ?_))
      subst e3
      cases r7
      exact wpAny_truthy_bool ⟨H7, I7, q7⟩
abbrev ch3 (o1 o2 o3 : Cop) (a b c' d' : Ev.M Opd) : Ev.M Opd := a.bind fun x => b.bind fun y => (der (peek x)).bind fun dx => (der (peek y)).bind fun dy =>
      (Ev.M.opt (cmpD o1 dx dy)).bind fun t => if t then c'.bind fun z => (der (peek y)).bind fun dy => (der (peek z)).bind fun dz => (Ev.M.opt (cmpD o2 dy dz)).bind fun t2 => if t2 then d'.bind fun w => (der (peek z)).bind fun dz => (der (peek w)).bind fun dw => Ev.M.opt ((cmpD o3 dz dw).map fun b => .val (.bool b)) else Ev.M.pure (.val (.bool false)) else Ev.M.pure (.val (.bool false))
theorem chain3_ok {g : G} {σ : L2.St} {H : Hp} {Q : VK} {o1 o2 o3 : Cop} {a b c' d' : Ev.M Opd} (h : tE g (ch3 o1 o2 o3 a b c' d') σ H Q) :
    tChain3 (rC g.K o1) (rC g.K o2) (rC g.K o3) (tE g a) (tE g b) (tE g c') (tE g d') σ H Q := by
  obtain ⟨c, M, e, s, h⟩ := h
  refine ⟨c, M, e, s, (Ok.bind h).imp fun p1 M1 H1 e1 s1 x1 k1 h1 v1 r1 f1 => ?_⟩
  refine ⟨c, M1, e1, s1, (Ok.bind h1).imp fun p2 M2 H2 e2 s2 x2 k2 h2 v2 r2 f2 => ?_⟩
  obtain ⟨d1, t1, h2⟩ := Ok.der s2 (s1.opd x2 k2 r1) h2
  obtain ⟨d2, t2, h2⟩ := Ok.der s2 r2 h2
  obtain ⟨t, ht, h2⟩ := Ok.optB h2
  refine cmp_ok (c := c) (e := e2) t1 t2 ht ⟨t, rfl, ?_⟩
  cases t with
  | false =>
    rw [if_neg Bool.false_ne_true] at h2 ⊢
    exact h2 M2 H2 s2 .refl .refl (.bl false) (by simp only [OR, Rel]) trivial
  | true =>
    rw [if_pos rfl] at h2 ⊢
    refine ⟨c, M2, e2, s2, (Ok.bind h2).imp fun p3 M3 H3 e3 s3 x3 k3 h3 v3 r3 f3 => ?_⟩
    obtain ⟨d2', t2', h3⟩ := Ok.der s3 (s2.opd x3 k3 r2) h3
    obtain ⟨d3, t3, h3⟩ := Ok.der s3 r3 h3
    obtain ⟨t', ht', h3⟩ := Ok.optB h3
    refine cmp_ok (c := c) (e := e3) t2' t3 ht' ⟨t', rfl, ?_⟩
    cases t' with
    | false =>
      rw [if_neg Bool.false_ne_true] at h3 ⊢
      exact h3 M3 H3 s3 .refl .refl (.bl false) (by simp only [OR, Rel]) trivial
    | true =>
      rw [if_pos rfl] at h3 ⊢
      refine ⟨c, M3, e3, s3, (Ok.bind h3).imp fun p4 M4 H4 e4 s4 x4 k4 h4 v4 r4 f4 => ?_⟩
      obtain ⟨d3', t3', h4⟩ := Ok.der s4 (s3.opd x4 k4 r3) h4
      obtain ⟨d4, t4, h4⟩ := Ok.der s4 r4 h4
      obtain ⟨o, ho, h4⟩ := Ok.opt h4
      cases hc : cmpD o3 d3' d4 with
      | none => rw [hc] at ho; cases ho
      | some bb =>
        rw [hc] at ho
        cases ho
        exact cmp_ok (c := c) (e := e4) t3' t4 hc (h4 M4 H4 s4 .refl (.bl bb) (by simp only [OR, Rel]) trivial)
theorem isB_chain3 {o1 o2 o3 : Cop} {a b c' d' : Ev.M Opd} : IsB (ch3 o1 o2 o3 a b c' d') := by
  intro e o e' h
  unfold ch3 Ev.M.bind at h
  simp only at h
  split at h <;> first | (cases h; done) | skip
  split at h <;> first | (cases h; done) | skip
  split at h <;> first | (cases h; done) | skip
  split at h <;> first | (cases h; done) | skip
  split at h <;> first | (cases h; done) | skip
  rename_i t _ _
  cases t with
  | false => cases h; exact ⟨_, rfl⟩
  | true =>
    rw [if_pos rfl] at h
    split at h <;> first | (cases h; done) | skip
    split at h <;> first | (cases h; done) | skip
    split at h <;> first | (cases h; done) | skip
    split at h <;> first | (cases h; done) | skip
    rename_i t _ _
    cases t with
    | false => cases h; exact ⟨_, rfl⟩
    | true =>
      rw [if_pos rfl] at h
      split at h <;> first | (cases h; done) | skip
      split at h <;> first | (cases h; done) | skip
      split at h <;> first | (cases h; done) | skip
      exact optB_ok h
/-! ### a text is walked -/
theorem yields_str {tg : Tg} {K : PySem.W.Frag} {M : Addr → Prop} {H : Hp} (z : Str) : Yields tg K M H (Its z) (chs z) := by
  intro M2 H2 h1 h2 h3 i
  refine ⟨fun hi => ?_, fun d hd => ?_⟩
  · unfold chs at hi
    rw [List.length_map, Array.length_toList] at hi
    exact hi
  · unfold chs at hd
    rw [List.getElem?_map, Array.getElem?_toList] at hd
    cases hc : z.cps[i]? with
    | none => rw [hc] at hd; cases hd
    | some ch =>
      rw [hc] at hd
      cases hd
      refine ⟨?_, fun x H3 y => ?_⟩
      · show i < z.cps.size
        exact (Array.getElem?_eq_some_iff.mp hc).1
      · obtain ⟨rfl, c2, h4, rfl⟩ := y
        rw [hc] at h4
        cases h4
        exact ⟨fun b z q => q, .inl (by simp only [Rel])⟩
end
end Ev

set_option Elab.async false
set_option linter.all false
set_option maxHeartbeats 8000000
set_option maxRecDepth 100000
namespace Ev
open PySem L2 PySem.Spec
section
variable {T : Tb} {N : List Str} {CX : CXT} {cf : CF} {W : L2.WX} {bk : Option Scope} {sc : Scope} {X : Cx}
abbrev tO (g : G) (p : Ev.M (Option Int)) : TO := fun σ H Q => ∃ c M e, Sr g.K c M σ H e ∧ Ok g c σ M H e (p e) fun o M' H' e' => Q o H'
theorem slc_rd {g : G} {a : Ev.M Opd} {lo hi : Ev.M (Option Int)} {σ : L2.St} {H : Hp} {Q : VK} (h : tE g (a.bind fun x => lo.bind fun l => hi.bind fun h => (der (peek x)).bind fun dx => Ev.M.opt (slcD dx l h)) σ H Q) :
    tSl (rSlc g.K) (tE g a) (tO g lo) (tO g hi) σ H Q := by
  obtain ⟨c, M, e, s, h⟩ := h
  refine ⟨c, M, e, s, (Ok.bind h).imp fun o1 M1 H1 e1 s1 x1 k1 h1 v1 r1 f1 => ?_⟩
  refine ⟨c, M1, e1, s1, (Ok.bind h1).imp fun l M2 H2 e2 s2 x2 k2 h2 => ?_⟩
  refine ⟨c, M2, e2, s2, (Ok.bind h2).imp fun u M3 H3 e3 s3 x3 k3 h3 => ?_⟩
  obtain ⟨d, t, h4⟩ := Ok.der s3 (s2.opd x3 k3 (s1.opd x2 k2 r1)) h3
  obtain ⟨o, ho, h5⟩ := Ok.opt h4
  exact slc_ok (c := c) (e := e3) s3 t ho fun M' H' v s' x' r' fr => h5 M' H' s' x' v r' (fr.old (x1.trans (x2.trans x3)))
theorem po_mono {e : Option Expr} {t t' : TO} (h : PO X e t) (f : ∀ σ H Q, t' σ H Q → t σ H Q) : PO X e t' := ⟨fun pins s σ H Q I q => h.run pins s σ H Q I (f σ H Q q)⟩
theorem part_rd {g : G} {p : Ev.M Opd} {σ : L2.St} {H : Hp} {Q : Option Int → Hp → Prop} (h : tO g ((pk p).bind fun d => Ev.M.opt ((intD d).map some)) σ H Q) : tPart (tE g p) σ H Q := by
  obtain ⟨c, M, e, s, h⟩ := h
  refine ⟨c, M, e, s, (Ok.bind (Ok.bind h)).imp fun o1 M1 H1 e1 s1 x1 k1 h1 v1 r1 f1 => ?_⟩
  obtain ⟨d, t, h2⟩ := Ok.derL s1 r1 h1
  obtain ⟨o, ho, h3⟩ := Ok.opt h2
  cases d <;> simp only [intD] at ho <;> first | (cases ho; done) | skip
  cases ho
  exact ⟨_, t.int, h3 M1 H1 s1 .refl⟩
theorem plainIx_of {e : Expr} {p : Ex} (h : chkE T N bk sc p e = true) : PlainIx e := by
  intro o i
  cases e <;> first | rfl | (cases p <;> simp [chkE] at h; done)
/-- no test of its own kind: the shape decides -/
def testy : Expr → Bool
  | .UnaryOp .Not _ _ => true
  | .BoolOp _ _ _ => true
  | .IfExp _ _ _ _ => true
  | .Compare _ _ _ _ => true
  | _ => false
theorem plainT_of {e : Expr} (h : testy e = false) {env : PySem.Env} : PlainT e env := by
  intro whole
  cases e <;> first | rfl | (simp [testy] at h; done) | skip
  rename_i op a p
  cases op <;> first | rfl | (simp [testy] at h; done)
theorem Good.blk (G : Good T N CX cf W bk sc X) {scope : Scope} (s : Shared) (H : Hp) (Cc : Addr) (cl : List (Str × Addr)) (fp : List Addr) :
    Good T N CX cf noW (some scope) (relS scope sc) (X.blk s H scope (compEnvC scope cl Cc X.env) fp) where
  hsc := by rw [← G.hsc]; rfl
  hN := G.hN
  nd := G.nd
  calm := G.calm
  hu := G.hu
  hf := fun x h => by
    simp only [fnB, Bool.or_eq_true, decide_eq_true_eq] at h
    rcases h with h | h
    · exact .inl h
    · exact .inr h
  blt := G.blt
  con := G.con
  fnv := G.fnv
  dcs := G.dcs
  r2 := G.r2
  err := G.err
  isx := G.isx
  gcd := G.gcd
  prm := G.prm
  fns := fun i fn h => by
    obtain ⟨a, fd, k, F⟩ := G.fns i fn h
    exact ⟨a, fd, k, F.mg, F.kp, F.bd, F.kb, F.ok, F.room⟩
  pass := fun σ pins H s e s' I h => (G.cxF _ _ _ _ _ h).elim
  cxF := G.cxF
theorem pgn_ok (G : Good T N CX cf W bk sc X) {i : Nat} {x : Str} {pos : Pos} (h : N[i]? = some x ∧ locB sc x = true ∧ fnB bk sc x = true) : PG X (.Name x pos) (gName i) := by
  refine pg_name (by rw [G.hN]; exact G.nd) (by rw [G.hN]; exact h.1) (by rw [G.hsc]; exact locB_ok h.2.1) ?_
  rw [G.hsc]
  exact G.hf x h.2.2
theorem pgs_ok (G : Good T N CX cf W bk sc X) : ∀ {is : List Nat} {es : List Expr}, chkNs N sc bk is es = true → PGs X es (gTs is) ∧ (assignEach es X.env).length = is.length ∧ (assignEach es X.env).findIdx? (·.1) = none
  | [], [], _ => ⟨pgs_nil, rfl, rfl⟩
  | [], _ :: _, h => by simp [chkNs] at h
  | _ :: _, [], h => by simp [chkNs] at h
  | i :: is, e :: es, h => by
    cases e with
    | Name x pos =>
      simp only [chkNs, Bool.and_eq_true, decide_eq_true_eq] at h
      obtain ⟨h1, h2, h3⟩ := pgs_ok G h.2
      refine ⟨pgs_cons (pgn_ok G ⟨h.1.1.1, h.1.1.2, h.1.2⟩) h1, ?_, ?_⟩
      · show (assignEach es X.env).length + 1 = is.length + 1
        rw [h2]
      · show List.findIdx? (fun x => x.1) ((false, assign (.Name x pos) X.env) :: assignEach es X.env) = none
        rw [List.findIdx?_cons, h3]
        rfl
    | _ => simp [chkNs] at h
theorem pg_ok (G : Good T N CX cf W bk sc X) {tg : Tg} {e : Expr} (h : chkTg N sc bk tg e = true) : PG X e (gT X.K tg) := by
  cases tg with
  | nm i =>
    cases e with
    | Name x pos =>
      simp only [chkTg, Bool.and_eq_true, decide_eq_true_eq] at h
      exact pgn_ok G ⟨h.1.1, h.1.2, h.2⟩
    | _ => simp [chkTg] at h
  | tp is =>
    cases e with
    | Tuple es k pos =>
      obtain ⟨h1, h2, h3⟩ := pgs_ok G (show chkNs N sc bk is es = true from h)
      exact pg_tup G.calm h1 h2 h3
    | _ => simp [chkTg] at h
theorem fs_nil {g : G} {σ : L2.St} {H : Hp} {Q : Bool → Hp → Prop} (h : tT g (Ev.M.pure true) σ H Q) : tYes σ H Q := by
  obtain ⟨c, M, e, s, h⟩ := h
  exact h M H s .refl .refl
theorem fs_one {g : G} {p : Ev.M Bool} {σ : L2.St} {H : Hp} {Q : Bool → Hp → Prop} (h : tT g (p.bind fun t => if t then Ev.M.pure true else Ev.M.pure false) σ H Q) : tT g p σ H Q := by
  obtain ⟨c, M, e, s, h⟩ := h
  refine ⟨c, M, e, s, (Ok.bind h).imp fun t M1 H1 e1 s1 x1 k1 h1 => ?_⟩
  cases t with
  | true => exact h1 M1 H1 s1 .refl .refl
  | false => exact h1 M1 H1 s1 .refl .refl
theorem pi_or {tg l : Expr} {w1 w2 : TI} (h1 : PI X tg l w1) (h2 : PI X tg l w2) : PI X tg l (fun σ H R => w1 σ H R ∨ w2 σ H R) := by
  refine ⟨fun pins s σ H R I h => ?_⟩
  rcases h with h | h
  · exact h1.run pins s σ H R I h
  · exact h2.run pins s σ H R I h
theorem pi_mono {tg l : Expr} {w w' : TI} (h : PI X tg l w) (f : ∀ σ H R, w' σ H R → w σ H R) : PI X tg l w' := ⟨fun pins s σ H R I q => h.run pins s σ H R I (f σ H R q)⟩
theorem seq_rd {tt : Tg} {g : G} {p : Ev.M Opd} {σ : L2.St} {H : Hp} {R : It → Hp → Prop} (h : tI tt g ((tk p).bind fun d => Ev.M.opt (itemsI d)) σ H R) : (iList g.K (tE g p) σ H R ∨ iTup g.K (tE g p) σ H R) ∨ iStr (tE g p) σ H R := by
  obtain ⟨c, M, e, s, h⟩ := h
  have fin : ∀ {o : Opd} {e1 : Fm}, p e = .ok o e1 → ∀ {d : D} {e2 : Fm}, take o e1 = .ok d e2 → ∃ ds, itemsI d = some ds ∧ ∀ M1 H1, Sr g.K c M1 σ H1 e1 → Ext σ M H e M1 H1 e1 → Keeps e e1 → ∀ v, OR g.K c M1 σ H1 e1 o v → Fr H o v →
      ∃ M2, Rel g.K M2 H1 d v ∧ ∀ J, Yields tt g.K M2 H1 J ds → ds.length ≤ sizeLine → R J H1 := by
    intro o e1 hp d e2 ht
    simp only [tk, Ev.M.bind, hp, ht] at h
    cases hi : itemsI d with
    | none => rw [hi] at h; exact h.elim
    | some ds =>
      rw [hi] at h
      refine ⟨ds, rfl, fun M1 H1 s1 x1 k1 v r f => ?_⟩
      obtain ⟨M2, s2, x2, k2, rd⟩ := s.take s1 x1 r f ht
      exact ⟨M2, rd, h M2 H1 s2 x2 (k1.trans k2)⟩
  cases hp : p e with
  | stuck => simp only [tk, Ev.M.bind, hp] at h; exact h.elim
  | exc cn d e1 =>
    simp only [tk, Ev.M.bind, hp] at h
    refine .inl (.inl ⟨c, M, e, s, ?_⟩)
    rw [hp]
    exact h
  | ok o e1 =>
    cases ht : take o e1 with
    | stuck => simp only [tk, Ev.M.bind, hp, ht] at h; exact h.elim
    | exc cn d e2 => exact absurd ht take_exc
    | ok d e2 =>
      obtain ⟨ds, hi, fin⟩ := fin hp ht
      cases d <;> first | (cases hi; done) | skip
      · simp only [itemsI] at hi
        split at hi
        · rename_i z hz
          cases hi
          refine .inr ⟨c, M, e, s, ?_⟩
          rw [hp]
          intro M1 H1 s1 x1 k1 v r f
          obtain ⟨M2, rd, q⟩ := fin M1 H1 s1 x1 k1 v r f
          simp only [Rel] at rd
          exact ⟨z, rd, q _ (yields_str z) (by unfold chs; rw [List.length_map, Array.length_toList]; exact hz)⟩
        · cases hi
      · cases hi
        refine .inl (.inl ⟨c, M, e, s, ?_⟩)
        rw [hp]
        intro M1 H1 s1 x1 k1 v r f
        obtain ⟨M2, rd, q⟩ := fin M1 H1 s1 x1 k1 v r f
        simp only [Rel] at rd
        obtain ⟨a, vs, rfl, ⟨h1, h2⟩, z, rs⟩ := rd
        exact ⟨a, rfl, ⟨vs, .inl h1⟩, q _ (yields_list h1 h2 rs) z⟩
      · cases hi
        refine .inl (.inr ⟨c, M, e, s, ?_⟩)
        rw [hp]
        intro M1 H1 s1 x1 k1 v r f
        obtain ⟨M2, rd, q⟩ := fin M1 H1 s1 x1 k1 v r f
        obtain ⟨a, vs, rfl, h1, y⟩ := yields_tup rd
        obtain ⟨_, _, _, _, z, _⟩ := TopV.tuple (.inl rd)
        exact ⟨a, rfl, ⟨vs, h1⟩, q _ y z⟩
theorem rel_list {K : PySem.W.Frag} {M : Addr → Prop} {H : Hp} {ds : List D} {v : V} (h : Rel K M H (.list ds) v) : ∃ a vs, v = .ref a ∧ Rd H a (.lst vs) ∧ ¬ M a ∧ ds.length ≤ sizeLine ∧ Rels K M H ds vs := by
  simp only [Rel] at h
  obtain ⟨a, vs, e, ⟨h1, h2⟩, z, r⟩ := h
  exact ⟨a, vs, e, h1, h2, z, r⟩
theorem ops_gcd {g : G} : OpS g (fun x y H Q => rGcd [x, y] H Q) gcdD := by
  intro c M σ H e x y d1 d2 o Q s t1 t2 ho fin
  unfold gcdD at ho
  split at ho
  · cases ho
    exact ⟨_, _, by rw [t1.int, t2.int], fin.int s⟩
  · cases ho
theorem zip_rd {tt : Tg} (htt : ∃ is, tt = .tp is) {g : G} {p q : Ev.M D} {σ : L2.St} {H : Hp} {R : It → Hp → Prop} (h : tI tt g (p.bind fun dx => q.bind fun dy => Ev.M.opt (zipD dx dy)) σ H R) : RZ.iZipA g.K (tCons (tD g p) (tCons (tD g q) tNil)) σ H R := by
  obtain ⟨c, M, e, s, h⟩ := h
  refine ⟨c, M, e, s, (Ok.bind h).imp fun d1 M1 H1 e1 s1 x1 k1 h1 v1 r1 => ?_⟩
  refine ⟨c, M1, e1, s1, (Ok.bind h1).imp fun d2 M2 H2 e2 s2 x2 k2 h2 v2 r2 => ?_⟩
  have r1 := s1.rel x2 r1
  obtain ⟨ds, ho, h3⟩ := Ok.opt h2
  have lz : ∀ {xs ys : List D}, xs.length ≤ sizeLine → (List.zipWith (fun x y => PyData.tuple [x, y]) xs ys).length ≤ sizeLine := fun hx => by
    rw [List.length_zipWith]
    exact Nat.le_trans (Nat.min_le_left _ _) hx
  unfold zipD at ho
  split at ho
  · cases ho
    obtain ⟨a, vs, rfl, q1, q2, q3, q4⟩ := rel_list r1
    obtain ⟨b, ws, rfl, w1, w2, w3, w4⟩ := rel_list r2
    exact ⟨a, b, vs, ws, rfl, .inl ⟨.inl q1, .inl w1, h3 M2 H2 s2 .refl _ (yields_zipL htt q1 q2 q4 w1 w2 w4) (lz q3)⟩⟩
  · cases ho
    obtain ⟨a, vs, rfl, q1, q2, q3⟩ := tup_place r1
    obtain ⟨b, ws, rfl, w1, w2, w3⟩ := tup_place r2
    exact ⟨a, b, vs, ws, rfl, .inr ⟨q3 M2 H2 (fun _ _ h _ => h) (fun _ h => .inl h), w3 M2 H2 (fun _ _ h _ => h) (fun _ h => .inl h), h3 M2 H2 s2 .refl _ (yields_zipT htt q3 q2 w3 w2) (lz q1)⟩⟩
  · cases ho
theorem enm_rd {tt : Tg} (htt : ∃ is, tt = .tp is) {g : G} {p : Ev.M D} {σ : L2.St} {H : Hp} {R : It → Hp → Prop} (h : tI tt g (p.bind fun dx => Ev.M.opt (enmD dx)) σ H R) : iEnum g.K (tCons (tD g p) tNil) σ H R ∨ iEnumT g.K (tCons (tD g p) tNil) σ H R := by
  obtain ⟨c, M, e, s, h⟩ := h
  have hb := Ok.bind h
  cases hp : p e with
  | stuck => rw [hp] at hb; exact hb.elim
  | exc cn d e1 => rw [hp] at hb; exact .inl ⟨c, M, e, s, by rw [hp]; exact hb⟩
  | ok d1 e1 =>
    rw [hp] at hb
    have lz : ∀ {xs : List D}, xs.length ≤ sizeLine → (List.zipWith (fun x y => PyData.tuple [x, y]) (rng 0 xs.length) xs).length ≤ sizeLine := fun hx => by
      rw [List.length_zipWith]
      exact Nat.le_trans (Nat.min_le_right _ _) hx
    cases hd : enmD d1 with
    | none =>
      refine .inl ⟨c, M, e, s, ?_⟩
      rw [hp]
      intro M1 H1 s1 x1 k1
      have h1 : Ok g c σ M1 H1 e1 (Ev.M.opt (enmD d1) e1) _ := hb M1 H1 s1 x1 k1
      rw [hd] at h1
      exact h1.elim
    | some ds =>
      cases d1 <;> first | (cases hd; done) | skip
      · cases hd
        refine .inl ⟨c, M, e, s, ?_⟩
        rw [hp]
        intro M1 H1 s1 x1 k1 v1 r1
        obtain ⟨ds, ho, h3⟩ := Ok.opt (hb M1 H1 s1 x1 k1)
        cases ho
        obtain ⟨a, vs, rfl, q1, q2, q3, q4⟩ := rel_list r1
        exact ⟨a, vs, rfl, .inl q1, h3 M1 H1 s1 .refl _ (yields_enm htt q1 q2 q4) (lz q3)⟩
      · cases hd
        refine .inr ⟨c, M, e, s, ?_⟩
        rw [hp]
        intro M1 H1 s1 x1 k1 v1 r1
        obtain ⟨ds, ho, h3⟩ := Ok.opt (hb M1 H1 s1 x1 k1)
        cases ho
        obtain ⟨a, vs, rfl, h1, y⟩ := yields_enmT htt r1
        obtain ⟨_, _, _, _, z, _⟩ := TopV.tuple (.inl r1)
        exact ⟨a, vs, rfl, h1, h3 M1 H1 s1 .refl _ y (lz z)⟩
theorem r1_rd {tt : Tg} {g : G} {p : Ev.M Opd} {σ : L2.St} {H : Hp} {R : It → Hp → Prop} (h : tI tt g ((pk p).bind fun d => Ev.M.opt (r1D d)) σ H R) : iRng1 (tCons (tE g p) tNil) σ H R := by
  obtain ⟨c, M, e, s, h⟩ := h
  refine ⟨c, M, e, s, (Ok.bind (Ok.bind h)).imp fun o1 M1 H1 e1 s1 x1 k1 h1 v1 r1 f1 => ?_⟩
  obtain ⟨d, t, h2⟩ := Ok.derL s1 r1 h1
  obtain ⟨o, ho, h3⟩ := Ok.opt h2
  cases d <;> simp only [r1D] at ho <;> first | (cases ho; done) | skip
  split at ho
  · rename_i j hc
    cases ho
    rw [Bool.and_eq_true] at hc
    have hb := rngOk_ok hc.1
    exact ⟨j, by rw [t.int], hb.1, hb.2, h3 M1 H1 s1 .refl _ yields_rng (by unfold rng; rw [List.length_map, List.length_range]; exact of_decide_eq_true hc.2)⟩
  · cases ho
theorem r2_rd {tt : Tg} {g : G} {p q : Ev.M Opd} {σ : L2.St} {H : Hp} {R : It → Hp → Prop} (h : tI tt g (p.bind fun x => q.bind fun y => (der (peek x)).bind fun dx => (der (peek y)).bind fun dy => Ev.M.opt (r2D dx dy)) σ H R) : iRng2 (tCons (tE g p) (tCons (tE g q) tNil)) σ H R := by
  obtain ⟨c, M, e, s, h⟩ := h
  refine ⟨c, M, e, s, (Ok.bind h).imp fun o1 M1 H1 e1 s1 x1 k1 h1 v1 r1 f1 => ?_⟩
  refine ⟨c, M1, e1, s1, (Ok.bind h1).imp fun o2 M2 H2 e2 s2 x2 k2 h2 v2 r2 f2 => ?_⟩
  obtain ⟨d1, t1, h2⟩ := Ok.der s2 (s1.opd x2 k2 r1) h2
  obtain ⟨d2, t2, h2⟩ := Ok.der s2 r2 h2
  obtain ⟨o, ho, h3⟩ := Ok.opt h2
  cases d1 <;> cases d2 <;> simp only [r2D] at ho <;> first | (cases ho; done) | skip
  split at ho
  · rename_i hc
    cases ho
    simp only [Bool.and_eq_true] at hc
    obtain ⟨⟨h5, h6⟩, h7⟩ := hc
    have hb := rngOk_ok h5
    have hb2 := rngOk_ok h6
    exact ⟨_, _, by rw [t1.int, t2.int], ⟨hb.1, hb.2, hb2.1, hb2.2⟩, h3 M2 H2 s2 .refl _ yields_rng (by unfold rng; rw [List.length_map, List.length_range]; exact of_decide_eq_true h7)⟩
  · cases ho
theorem rd_rd {tt : Tg} {g : G} {p q : Ev.M Opd} {σ : L2.St} {H : Hp} {R : It → Hp → Prop} (h : tI tt g (p.bind fun x => q.bind fun y => (der (peek x)).bind fun dx => (der (peek y)).bind fun dy => Ev.M.opt (rdD dx dy)) σ H R) : iRng3 (tCons (tE g p) (tCons (tE g q) (tCons tNeg1 tNil))) σ H R := by
  obtain ⟨c, M, e, s, h⟩ := h
  refine ⟨c, M, e, s, (Ok.bind h).imp fun o1 M1 H1 e1 s1 x1 k1 h1 v1 r1 f1 => ?_⟩
  refine ⟨c, M1, e1, s1, (Ok.bind h1).imp fun o2 M2 H2 e2 s2 x2 k2 h2 v2 r2 f2 => ?_⟩
  obtain ⟨d1, t1, h2⟩ := Ok.der s2 (s1.opd x2 k2 r1) h2
  obtain ⟨d2, t2, h2⟩ := Ok.der s2 r2 h2
  obtain ⟨o, ho, h3⟩ := Ok.opt h2
  cases d1 <;> cases d2 <;> simp only [rdD] at ho <;> first | (cases ho; done) | skip
  split at ho
  · rename_i hc
    cases ho
    simp only [Bool.and_eq_true] at hc
    obtain ⟨⟨h5, h6⟩, h7⟩ := hc
    have hb := rngOk_ok h5
    have hb2 := rngOk_ok h6
    have hl := of_decide_eq_true h7
    refine ⟨1, rfl, _, _, -1, _, by rw [t1.int, t2.int], ⟨by decide, by decide, PySem.W.small_down hb.1 hb.2 hb2.1 hb2.2, PySem.W.rangeSize_downNat _ _⟩, ?_⟩
    exact h3 M2 H2 s2 .refl _ yields_rdn (by unfold rdn; rw [List.length_map, List.length_range]; exact hl)
  · cases ho
theorem cmpPE (G : Good T N CX cf W bk sc X) {op : Cop} {l r : Expr} {pos : Pos} {a b : Ev.M Opd} (ha : PE X l (tE ⟨X.K, X.mg, W⟩ a)) (hb : PE X r (tE ⟨X.K, X.mg, W⟩ b)) (hm : behindInMarks (copO op) r = false) :
    PE X (.Compare l [copO op] [r] pos) (tE ⟨X.K, X.mg, W⟩ (two a b fun dx dy => (cmpD op dx dy).map fun b => .val (.bool b))) ∧ PT X (.Compare l [copO op] [r] pos) (tT ⟨X.K, X.mg, W⟩ (tst (two a b fun dx dy => (cmpD op dx dy).map fun b => .val (.bool b)))) := by
  have o := opr_cmp (X := X) op G.hu
  exact ⟨PE.mono (pe_cmpR o ha hb hm) fun σ H Q h => two_ok (ops_cmp op) h, PT.mono (pt_cmpR o ha hb hm) fun σ H Q h => two_ok (ops_cmp op) (tst_bool isB_two h)⟩
end
section
variable {T : Tb} {N : List Str} {CX : CXT} {cf : CF}
/-! ### methods, dicts -/
section
variable {W : L2.WX} {bk : Option Scope} {sc : Scope} {X : Cx} {g : G}
theorem pe_or {e : Expr} {t1 t2 : TE} (h1 : PE X e t1) (h2 : PE X e t2) : PE X e (fun σ H Q => t1 σ H Q ∨ t2 σ H Q) := by
  refine ⟨fun pins s σ H Q I h => ?_⟩
  rcases h with h | h
  · exact h1.run pins s σ H Q I h
  · exact h2.run pins s σ H Q I h
def tyL (x : V) (H : Hp) : Prop := ∃ a vs, x = V.ref a ∧ Rd H a (.lst vs)
def tyT (K : PySem.W.Frag) (x : V) (H : Hp) : Prop := ∃ a vs, x = V.ref a ∧ (FT H a vs ∨ KT K a vs)
theorem tyok_L : TyOk X "list" tyL := by
  intro pins σ H s x v I r ty
  obtain ⟨a, vs, rfl, h⟩ := ty
  cases r
  obtain ⟨z, its, n, r, hl, e⟩ := rdM I h
  refine ⟨⟨_, e, rfl⟩, fun b q => ?_⟩
  cases q
  exact ⟨_, e, rfl⟩
theorem tyok_T : TyOk X "tuple" (tyT X.K) := by
  intro pins σ H s x v I r ty
  obtain ⟨a, vs, rfl, h⟩ := ty
  cases r
  rcases h with ⟨o, ho, h⟩ | ⟨o, its, n, h1, h2, h3, h4, h5, h6⟩
  · obtain ⟨h1, h2, us, r, o', h3, h4, _⟩ := I.hok _ _ h
    rw [h1] at h3
    cases h3
    exact ⟨⟨o, h1, h4⟩, fun b q => by cases q; exact ⟨o, h1, ho⟩⟩
  · have := I.kIn a o h1
    exact ⟨⟨o, this, h2⟩, fun b q => by cases q; exact ⟨o, this, h6⟩⟩
def rIndexT (K : PySem.W.Frag) : V → List V → Hp → VK → Prop := fun x xs H Q => ∃ (a : Addr) (y : V) (d : PyData) (ds : List PyData) (j : Nat) (z : PyData), x = V.ref a ∧ xs = [y] ∧ Dp K H (V.ref a) (.tuple ds) ∧ Dp K H y d ∧
  SeqAt.shaped (.tuple ds) = true ∧ SeqAt.shaped d = true ∧ ds[j]? = some z ∧ PyData.eqv z d = true ∧ (∀ (m : Nat) (z' : PyData), m < j → ds[m]? = some z' → PyData.eqv z' d = false) ∧ Q (.int (j : Nat)) H
open PyProof.Rows in
theorem mt_indexT (hu : X.A.units + 65 < cLine) : MtR X "tuple.index" (rIndexT X.K) := by
  intro pins s σ H x xs v us Q I rx rxs h
  obtain ⟨a, y, d, ds, j, z, rfl, rfl, hl, hy, sl, sd, hz, hzj, hno, q⟩ := h
  cases rx
  obtain ⟨uy, rfl, ry⟩ := L2.vals1 rxs
  obtain ⟨bs, r1⟩ := Dp.reads I d y uy hy ry
  have hxs : PyData.canLayAll0 ds = true := SeqAt.canLay_of_shaped sl
  have hroom : X.A.units + 1 + min (PyData.depthAll ds) d.depth < cLine := room_in_shaped sd hu
  cases hl with
  | tup hs ha =>
    obtain ⟨its, rv, ⟨⟨cls, dd, data, sls⟩, ho, hc, n, hdt⟩, hlen⟩ := I.tuple hs
    simp only at hc hdt
    subst hc hdt
    obtain ⟨as, h4⟩ := Dp.readsAll I ds _ its ha rv
    have hn : its.length = ds.length := SeqAt.ReadsAll.length ds its as h4
    have hmap : its.map (SeqAt.readOf s.heap) = ds := SeqAt.readsAll_map ds its as hxs h4
    obtain ⟨hjd, _⟩ := List.getElem?_eq_some_iff.mp hz
    have hjl : j < its.length := by omega
    have hj : j < its.toArray.size := by simpa using hjl
    have at_ : ∀ (m : Nat) (hm : m < its.toArray.size) (z' : PyData), ds[m]? = some z' → SeqAt.readOf s.heap its.toArray[m] = z' := by
      intro m hm z' hz'
      have hml : m < its.length := by simpa using hm
      rw [← hmap, List.getElem?_map, List.getElem?_eq_getElem hml] at hz'
      have e1 : SeqAt.readOf s.heap its[m] = z' := Option.some.inj (show some (SeqAt.readOf s.heap its[m]) = some z' from hz')
      simpa using e1
    have eqa := SeqAt.items_eqAt (vs := its.toArray) (show ReadsAll s.heap its.toArray.toList ds as from h4) r1 hxs (SeqAt.canLay_of_shaped sd) hroom
    refine call_meets PySem.F.slot_tuple_index ⟨_, ho, rfl⟩ PySem.F.entry_tuple_index (PySem.F.args_tuple_index_2 _ _)
      (TI.tuple_indexAt a its.toArray n dd sls uy (fun u => PyData.eqv (SeqAt.readOf s.heap u) d) j hj ?_ ?_) ⟨ho, eqa, ?_⟩
    · show PyData.eqv (SeqAt.readOf s.heap its.toArray[j]) d = true
      rw [at_ j hj z hz]
      exact hzj
    · intro m hm hmj
      have hmd : m < ds.length := by omega
      have hz' : ds[m]? = some ds[m] := List.getElem?_eq_getElem hmd
      show PyData.eqv (SeqAt.readOf s.heap its.toArray[m]) d = false
      rw [at_ m hm _ hz']
      exact hno m _ hmj hz'
    · exact ⟨.int (j : Nat), H, I.tok _, ⟨_, rfl⟩, q⟩
theorem findIx_ok {x : D} : ∀ {xs : List D} {j : Nat}, findIx x xs = some j → ∃ z, xs[j]? = some z ∧ PyData.eqv z x = true ∧ ∀ (m : Nat) (z' : D), m < j → xs[m]? = some z' → PyData.eqv z' x = false
  | [], _, h => by cases h
  | z :: r, j, h => by
    unfold findIx at h
    by_cases hz : PyData.eqv z x = true
    · rw [if_pos hz] at h
      cases h
      exact ⟨z, rfl, hz, fun m z' hm => absurd hm (Nat.not_lt_zero m)⟩
    · rw [if_neg hz] at h
      cases hf : findIx x r with
      | none => rw [hf] at h; cases h
      | some j' =>
        rw [hf] at h
        cases h
        obtain ⟨z', h1, h2, h3⟩ := findIx_ok hf
        refine ⟨z', h1, h2, fun m w hm hw => ?_⟩
        cases m with
        | zero =>
          cases hw
          simpa using hz
        | succ m => exact h3 m w (Nat.lt_of_succ_lt_succ hm) hw
theorem der_exc {o : Opd} {e e' : Fm} {cn : Str} {d : D} : der o e ≠ .exc cn d e' := by
  intro ht
  cases o <;> simp only [der] at ht
  · cases ht
  · revert ht
    split <;> (intro ht; cases ht)
  · cases ht
theorem meth_rd {m : Mt} {p : Ev.M Opd} {q : Ev.M (List Opd)} {σ : L2.St} {H : Hp} {Q : VK} (h : tE g (p.bind fun x => (der (peek x)).bind fun d0 => (Ev.M.opt (rcv d0)).bind fun k => q.bind fun os => (der (peek x)).bind fun dx => (derAll os).bind fun ds => Ev.M.opt (if rcv dx = some k then mtD m dx ds else none)) σ H Q) :
    tMG tyL (rIndexD g.K) (tE g p) (tAs g q) σ H Q ∨ tMG (tyT g.K) (rIndexT g.K) (tE g p) (tAs g q) σ H Q := by
  obtain ⟨c, M, e, s, h⟩ := h
  have h1 := Ok.bind h
  cases hp : p e with
  | stuck => rw [hp] at h1; exact h1.elim
  | exc cn d e1 => rw [hp] at h1; exact .inl ⟨c, M, e, s, by rw [hp]; exact h1⟩
  | ok o1 e1 =>
    rw [hp] at h1
    cases hd : der (peek o1) e1 with
    | stuck =>
      refine .inl ⟨c, M, e, s, ?_⟩
      rw [hp]
      intro M1 H1 s1 x1 k1
      have h2 := h1 M1 H1 s1 x1 k1
      simp only [Ev.M.bind, hd] at h2
      exact h2.elim
    | exc cn d e2 => exact absurd hd der_exc
    | ok d0 e2 =>
      have fin : ∀ k M1 H1, rcv d0 = some k → Sr g.K c M1 σ H1 e1 → Ext σ M H e M1 H1 e1 → Keeps e e1 → ∀ v, OR g.K c M1 σ H1 e1 o1 v → TopV g.K M1 H1 d0 v ∧ tAs g q σ H1 fun vs H2 => ∃ M2 e3 dx ds o, Sr g.K c M2 σ H2 e3 ∧ TopV g.K M2 H2 dx v ∧ TopVs g.K M2 H2 ds vs ∧ rcv dx = some k ∧ mtD m dx ds = some o ∧ ∀ u, OR g.K c M2 σ H2 e3 o u → Fr H o u → Q u H2 := by
        intro k M1 H1 hr s1 x1 k1 v r
        have h2 := h1 M1 H1 s1 x1 k1
        obtain ⟨rfl, t⟩ := OR.peekV s1 r hd
        simp only [Ev.M.bind, hd, hr, Ev.M.opt, Ev.M.pure] at h2
        refine ⟨t, c, M1, e2, s1, (Ok.bind (show Ok g c σ M1 H1 e2 (Ev.M.bind q (fun os => Ev.M.bind (der (peek o1)) fun dx => Ev.M.bind (derAll os) fun ds => Ev.M.opt (if rcv dx = some k then mtD m dx ds else none)) e2) _ from h2)).imp fun os M2 H2 e3 s2 x2 k2 h3 vs rs nf => ?_⟩
        obtain ⟨dx, tx, h4⟩ := Ok.der s2 (s1.opd x2 k2 r) h3
        obtain ⟨ds, ts, h5⟩ := ORs.ders s2 rs h4
        obtain ⟨o, ho, h6⟩ := Ok.opt h5
        by_cases hk : rcv dx = some k
        · rw [if_pos hk] at ho
          exact ⟨M2, e3, dx, ds, o, s2, tx, ts, hk, ho, h6 M2 H2 s2 .refl⟩
        · rw [if_neg hk] at ho
          cases ho
      cases d0 <;> first
        | (refine .inl ⟨c, M, e, s, ?_⟩
           rw [hp]
           intro M1 H1 s1 x1 k1
           have h2 := h1 M1 H1 s1 x1 k1
           simp only [Ev.M.bind, hd, rcv, Ev.M.opt] at h2
           exact h2.elim)
        | skip
      · rename_i xs
        refine .inl ⟨c, M, e, s, ?_⟩
        rw [hp]
        intro M1 H1 s1 x1 k1 v r f
        obtain ⟨t, q1⟩ := fin true M1 H1 rfl s1 x1 k1 v r
        refine ⟨?_, ?_⟩
        · obtain ⟨a, vs, rfl, t, _⟩ := t.list
          exact ⟨a, vs, rfl, t⟩
        · obtain ⟨c', M', e', s', q2⟩ := q1
          refine ⟨c', M', e', s', q2.imp fun os M2 H2 e3 s2 x2 k2 h3 vs rs nf => ?_⟩
          obtain ⟨M4, e4, dx, ds, o, s4, tx, ts, hk, ho, h6⟩ := h3 vs rs nf
          cases dx <;> first | (cases hk; done) | skip
          cases m
          match ds, ho, ts with
          | [x], ho, ts =>
            simp only [mtD] at ho
            split at ho
            · rename_i hs
              rw [Bool.and_eq_true] at hs
              cases hf : findIx x _ with
              | none => rw [hf] at ho; cases ho
              | some j =>
                rw [hf] at ho
                cases ho
                obtain ⟨w, rfl, tw⟩ := TopVs.one (g := g) ts
                obtain ⟨z, z1, z2, z3⟩ := findIx_ok hf
                have dp := tx.dp hs.1
                obtain ⟨a, vs, rfl, _⟩ := tx.list
                exact ⟨a, w, x, _, j, z, rfl, rfl, dp, tw.dp hs.2, hs.1, hs.2, z1, z2, z3, h6 (.int (j : Nat)) (by simp only [OR, Rel]) trivial⟩
            · cases ho
          | [], ho, ts => cases ho
          | _ :: _ :: _, ho, ts => cases ho
      · rename_i xs
        refine .inr ⟨c, M, e, s, ?_⟩
        rw [hp]
        intro M1 H1 s1 x1 k1 v r f
        obtain ⟨t, q1⟩ := fin false M1 H1 rfl s1 x1 k1 v r
        refine ⟨?_, ?_⟩
        · rcases t with t | ⟨_, _, t⟩
          · simp only [Rel] at t
            obtain ⟨a, vs, rfl, t, _⟩ := t
            rcases t with ⟨t, _⟩ | t
            · exact ⟨a, vs, rfl, .inl t⟩
            · exact ⟨a, vs, rfl, .inr t⟩
          · exact t.elim
        · obtain ⟨c', M', e', s', q2⟩ := q1
          refine ⟨c', M', e', s', q2.imp fun os M2 H2 e3 s2 x2 k2 h3 vs rs nf => ?_⟩
          obtain ⟨M4, e4, dx, ds, o, s4, tx, ts, hk, ho, h6⟩ := h3 vs rs nf
          cases dx <;> first | (cases hk; done) | skip
          cases m
          match ds, ho, ts with
          | [x], ho, ts =>
            simp only [mtD] at ho
            split at ho
            · rename_i hs
              rw [Bool.and_eq_true] at hs
              cases hf : findIx x _ with
              | none => rw [hf] at ho; cases ho
              | some j =>
                rw [hf] at ho
                cases ho
                obtain ⟨w, rfl, tw⟩ := TopVs.one (g := g) ts
                obtain ⟨z, z1, z2, z3⟩ := findIx_ok hf
                have dp := tx.dp hs.1
                obtain ⟨a, vs, rfl, _⟩ := tx.tuple
                exact ⟨a, w, x, _, j, z, rfl, rfl, dp, tw.dp hs.2, hs.1, hs.2, z1, z2, z3, h6 (.int (j : Nat)) (by simp only [OR, Rel]) trivial⟩
            · cases ho
          | [], ho, ts => cases ho
          | _ :: _ :: _, ho, ts => cases ho
theorem few_ok {env : PySem.Env} {pos : Pos} {es : List Expr} (hst : ∀ e ∈ es, NoStar e) (h3 : es.length < 30) : ((backTo pos (starEach es env)).all (fun x => !x.1) && (backToKw pos (keywordEach [] env)).all (fun x => x.1.isSome)
      && decide (es.length + ([] : List Keyword).length + (if ([] : List Keyword).isEmpty then 0 else 1) < 30)) = true := by
  have q1 := stars_ok (env := env) (pos := pos) hst
  have q2 : (backToKw pos (keywordEach [] env)).all (fun x => x.1.isSome) = true := rfl
  rw [q2, Bool.and_true, Bool.and_eq_true]
  refine ⟨?_, by simpa using h3⟩
  rw [List.all_eq_not_any_not]
  simpa using q1
theorem meth_ok (G : Good T N CX cf W bk sc X) {m : Mt} {y : Str} {py apos cpos : Pos} {x : Expr} {p : Ev.M Opd} {q : Ev.M (List Opd)} (ho : PE X (.Name y py) (tE ⟨X.K, X.mg, W⟩ p)) (ha : PA X [x] (tAs ⟨X.K, X.mg, W⟩ q)) (hs : NoStar x) (h4 : (apos.endLine == cpos.line) = true) :
    PE X (.Call (.Attribute (.Name y py) (mtNm m : Str) apos) [x] [] cpos) (tE ⟨X.K, X.mg, W⟩ (p.bind fun x => (der (peek x)).bind fun d0 => (Ev.M.opt (rcv d0)).bind fun k => q.bind fun os => (der (peek x)).bind fun dx => (derAll os).bind fun ds => Ev.M.opt (if rcv dx = some k then mtD m dx ds else none))) := by
  have hst : ∀ e ∈ [x], NoStar e := by
    intro e he
    rw [List.mem_singleton] at he
    rw [he]
    exact hs
  cases m
  exact PE.mono (pe_or (pe_mG tyok_L F.plainAttrs_list F.slot_list_index rfl (mt_indexD G.hu) ho ha rfl (few_ok hst (by simp)) h4 (star_ok hs) rfl)
    (pe_mG tyok_T F.plainAttrs_tuple F.slot_tuple_index rfl (mt_indexT G.hu) ho ha rfl (few_ok hst (by simp)) h4 (star_ok hs) rfl)) fun σ H Q h => meth_rd h
/-! ### pop -/
theorem Sr.isOwn0 {c : C} {M : Addr → Prop} {σ : L2.St} {H : Hp} {e : Fm} (s : Sr g.K c M σ H e) {i : Nat} (h : Ev.isOwn e i = true) : ∃ a vs, σ[i]? = some (some (V.ref a)) ∧ H a = some (.lst vs) := by
  unfold Ev.isOwn at h
  split at h
  · rename_i l d hq
    obtain ⟨a, h1, h2, h3, _⟩ := s.own i l d hq
    cases d with
    | list ds => obtain ⟨vs, h4, _⟩ := h3; exact ⟨a, vs, h1, h4⟩
    | _ => exact h3.elim
  · cases h
/-- the list that slot i alone holds changes, within an expression -/
theorem Sr.ownPut {c : C} {M : Addr → Prop} {σ : L2.St} {H : Hp} {e : Fm} (s : Sr g.K c M σ H e) {i : Nat} {l : Bool} {d : D} {a : Addr} {xs ys : List V} {ds : List D} (h : e[i]? = some (Slot.own l d)) (ha : σ[i]? = some (some (V.ref a))) (hp : H a = some (.lst xs)) (hz : ds.length ≤ sizeLine) (r : Rels g.K M H ds ys) :
    Sr g.K c M σ (upd H a (.lst ys)) (e.set i (.own l (.list ds))) ∧ Ext σ M H e M (upd H a (.lst ys)) (e.set i (.own l (.list ds))) ∧ Keeps e (e.set i (.own l (.list ds))) ∧ ∀ d v, Rel g.K M H d v → Rel g.K M (upd H a (.lst ys)) d v := by
  obtain ⟨a', h1, h2, h3, h4⟩ := s.own i l d h
  rw [ha] at h1
  cases h1
  have hi := (List.getElem?_eq_some_iff.mp h).1
  have k : ∀ b x, H b = some x → ¬ M b → upd H a (.lst ys) b = some x := fun b x q m => by
    rw [upd_ne fun z => m (by rw [z]; exact h2)]; exact q
  have k2 : ∀ b, M b → M b ∨ H b = none := fun b q => .inl q
  refine ⟨⟨by rw [List.length_set]; exact s.len, fun j t q => ?_, fun j lj t q => ?_, fun j j2 lj lk dj dk b q1 q2 q3 q4 => ?_, fun b x q1 q2 => ?_, s.m0, s.m1, fun b q => upd_some b (s.mh b q), s.c0, s.c1⟩, ⟨fun b x q w => ?_, k2, fun b q _ => q, fun b ⟨j, lj, dj, q1, q2⟩ => ?_, fun b q => upd_some b q⟩, fun j t q1 q2 => ?_, fun d v => Rel.ext k k2 d v⟩
  · rcases get_set q with ⟨_, z⟩ | ⟨z, q⟩
    · cases z
    · obtain ⟨v, h5, h6⟩ := s.val j t q
      exact ⟨v, h5, Rel.ext k k2 t v h6⟩
  · rcases get_set q with ⟨rfl, z⟩ | ⟨z, q⟩
    · cases z
      exact ⟨a, ha, h2, ⟨ys, upd_same, hz, Rels.ext k k2 _ _ r⟩, h4⟩
    · obtain ⟨b, h5, h6, h7, h8⟩ := s.own j lj t q
      refine ⟨b, h5, h6, ?_, h8⟩
      have hb : b ≠ a := fun y => z (s.inj j i lj l t d a q h (by rw [← y]; exact h5) ha)
      cases t with
      | list ts =>
        obtain ⟨vs, h9, h10, h11⟩ := h7
        exact ⟨vs, by rw [upd_ne hb]; exact h9, h10, Rels.ext k k2 _ _ h11⟩
      | _ => exact h7.elim
  · have o1 : ∃ l d, e[j]? = some (Slot.own l d) := by
      rcases get_set q1 with ⟨rfl, _⟩ | ⟨_, q⟩
      · exact ⟨l, d, h⟩
      · exact ⟨lj, dj, q⟩
    have o2 : ∃ l d, e[j2]? = some (Slot.own l d) := by
      rcases get_set q2 with ⟨rfl, _⟩ | ⟨_, q⟩
      · exact ⟨l, d, h⟩
      · exact ⟨lk, dk, q⟩
    obtain ⟨l1, d1, o1⟩ := o1
    obtain ⟨l2, d2, o2⟩ := o2
    exact s.inj j j2 l1 l2 d1 d2 b o1 o2 q3 q4
  · rw [upd_ne fun z => ?_]
    · exact s.keep b x q1 q2
    · subst z
      cases l with
      | true => exact q2 (i, b) (by simpa using h4) rfl
      | false =>
        have : c.H0 b = none := by simpa using h4
        rw [this] at q1; cases q1
  · rw [upd_ne fun z => w ⟨i, l, d, h, by rw [z]; exact ha⟩]
    exact q
  · rcases get_set q1 with ⟨rfl, z⟩ | ⟨z, q⟩
    · cases z
      exact ⟨_, _, _, h, q2⟩
    · exact ⟨j, lj, dj, q, q2⟩
  · by_cases z : i = j
    · subst z
      exact ⟨_, List.getElem?_set_self hi, fun w => nomatch w⟩
    · exact ⟨t, by rw [List.getElem?_set_ne z]; exact q1, q2⟩
def rPop2 : V → List V → Hp → VK → Prop := fun x vs H Q => rPop x vs H Q ∨ rPopAt x vs H Q
theorem mt_pop2 {X : Cx} : MtR X "list.pop" rPop2 := MtR.or mt_pop mt_popAt
theorem Rels.drop1 {K : PySem.W.Frag} {M : Addr → Prop} {H : Hp} {ds : List D} {vs : List V} (r : Rels K M H ds vs) : Rels K M H ds.dropLast vs.dropLast := by
  rw [List.dropLast_eq_take, List.dropLast_eq_take, r.length]
  exact r.take _
theorem Rels.erase {K : PySem.W.Frag} {M : Addr → Prop} {H : Hp} {ds : List D} {vs : List V} (k : Nat) (r : Rels K M H ds vs) : Rels K M H (ds.eraseIdx k) (vs.eraseIdx k) := by
  rw [List.eraseIdx_eq_take_drop_succ, List.eraseIdx_eq_take_drop_succ]
  exact (r.take _).append (r.drop _)
theorem pop_ok {M : Addr → Prop} {H : Hp} {a : Addr} {ds : List D} {as : List D} {vs ws : List V} {y : D} {o' : D} {Q : VK} (hp : H a = some (.lst vs)) (z : ds.length ≤ sizeLine) (r : Rels g.K M H ds vs) (ra : Rels g.K M H as ws) (h : popD (.list ds) as = some (y, o'))
    (q : ∀ ds' ys v, o' = .list ds' → ds'.length ≤ sizeLine → Rels g.K M H ds' ys → Rel g.K M H y v → Q v (upd H a (.lst ys))) : rPop2 (.ref a) ws H Q := by
  unfold popD at h
  split at h
  · rename_i xs he
    cases he
    cases hx : ds[ds.length - 1]? with
    | none => rw [hx] at h; cases h
    | some w =>
      rw [hx] at h
      cases h
      cases (show ws = [] by simpa only [Rels] using ra)
      obtain ⟨v, h1, h2⟩ := r.get hx
      exact .inl ⟨a, vs, v, rfl, rfl, hp, by rw [← r.length]; exact h1, q _ _ v rfl (by rw [List.length_dropLast]; omega) r.drop1 h2⟩
  · rename_i xs i he
    cases he
    cases hk : ixN ds.length i with
    | none => rw [hk] at h; cases h
    | some k =>
      rw [hk] at h
      simp only [Option.bind_some] at h
      cases hx : ds[k]? with
      | none => rw [hx] at h; cases h
      | some w =>
        rw [hx] at h
        cases h
        simp only [Rels] at ra
        obtain ⟨w1, _, rfl, rw1, rfl⟩ := ra
        obtain ⟨v, h1, h2⟩ := r.get hx
        obtain ⟨s1, s2, s3, s4⟩ := ixN_seq hk
        have z2 : (sizeLine : Nat) < 2 ^ 62 := by decide
        refine .inr ⟨a, vs, i, k, v, rfl, by rw [show w1 = V.int i from by simpa only [Rel] using rw1], hp, by omega, by omega, by rw [← r.length]; exact s1, h1, q _ _ v rfl ?_ (r.erase k) h2⟩
        have := List.length_eraseIdx_le ds k
        omega
  · cases h
theorem pop_rd {p : Ev.M (List D)} {i : Nat} {σ : L2.St} {H : Hp} {Q : VK} (h : tE g (popM i p) σ H Q) : tBM g.K "list" rPop2 (tVar i) (tTs g p) σ H Q := by
  obtain ⟨c, M, e, s, h⟩ := h
  unfold popM at h
  by_cases ho : Ev.isOwn e i = true
  · rw [if_pos ho] at h
    obtain ⟨a, vs0, ha, h0⟩ := s.isOwn0 ho
    refine ⟨.ref a, ha, .inl ⟨rfl, vs0, .inl (.inl h0)⟩, c, M, e, s, (Ok.bind h).imp fun as M1 H1 e1 s1 x1 k1 h1 ws rs => ?_⟩
    split at h1
    · rename_i l o hq
      split at h1
      · rename_i y o' hpo
        obtain ⟨a', z1, z2, z3, z4⟩ := s1.own i l o hq
        rw [ha] at z1
        cases z1
        cases o with
        | list ds =>
          obtain ⟨vs, y1, y2, y3⟩ := z3
          refine pop_ok y1 y2 y3 rs hpo fun ds' ys v e3 hz ry rv => ?_
          subst e3
          obtain ⟨q1, q2, q3, q4⟩ := s1.ownPut hq ha y1 hz ry
          exact h1 M1 _ q1 q2 q3 v (q4 _ _ rv) trivial
        | _ => exact z3.elim
      · exact h1.elim
    · exact h1.elim
  · rw [if_neg ho] at h
    exact h.elim
theorem var_pe0 (G : Good T N CX cf W bk sc X) {i : Nat} {y : Str} {p : Pos} (h : N[i]? = some y) (hv : visB sc y = true) (hn : nmB y = true) : PE X (.Name y p) (tVar i) :=
  pe_var (by rw [G.hN]; exact h) (by rw [G.hsc]; exact visB_ok hv) (nmB_ok hn).1 (nmB_ok hn).2.1
theorem pop1_ok (G : Good T N CX cf W bk sc X) {i : Nat} {y : Str} {py apos cpos : Pos} {x : Expr} {p : Ev.M (List D)} (hi : N[i]? = some y) (hv : visB sc y = true) (hn : nmB y = true) (ha : PA X [x] (tTs ⟨X.K, X.mg, W⟩ p)) (hs : NoStar x) (h4 : (apos.endLine == cpos.line) = true) :
    PE X (.Call (.Attribute (.Name y py) ("pop" : Str) apos) [x] [] cpos) (tE ⟨X.K, X.mg, W⟩ (popM i p)) := by
  have hst : ∀ e ∈ [x], NoStar e := by
    intro e he
    rw [List.mem_singleton] at he
    rw [he]
    exact hs
  exact PE.mono (pe_bm F.plainAttrs_list F.slot_list_pop rfl mt_pop2 (var_pe0 G hi hv hn) ha rfl (few_ok hst (by simp)) h4 (star_ok hs) rfl) fun σ H Q h => pop_rd h
theorem pop0_ok (G : Good T N CX cf W bk sc X) {i : Nat} {y : Str} {py apos cpos : Pos} (hi : N[i]? = some y) (hv : visB sc y = true) (hn : nmB y = true) (h4 : (apos.endLine == cpos.line) = true) :
    PE X (.Call (.Attribute (.Name y py) ("pop" : Str) apos) [] [] cpos) (tE ⟨X.K, X.mg, W⟩ (popM i (evTs cf .nil))) := by
  refine PE.mono (pe_bm0 F.plainAttrs_list F.slot_list_pop rfl mt_pop2 (var_pe0 G hi hv hn) rfl h4) fun σ H Q h => ?_
  obtain ⟨v, h1, h2, h3⟩ := pop_rd h
  exact ⟨v, h1, h2, ts_nil h3⟩
/-! ### {1: 2} -/
def trsOf (kvs : List (Int × Int)) : List (TE × TE) := kvs.map fun p => (tC (.int p.1), tC (.int p.2))
theorem pps_of : ∀ {kvs : List (Int × Int)} {ks : List (Option Expr)} {vs : List Expr} {pos : Pos}, kOk kvs ks = true → vOk kvs vs = true → PPs X pos ks vs (trsOf kvs) ∧ ks.all (·.isSome) = true ∧ ks.length = vs.length ∧ ks.length = kvs.length
  | [], ks, vs, pos, h1, h2 => by
    cases ks with
    | cons _ _ => simp [kOk] at h1
    | nil =>
      cases vs with
      | cons _ _ => simp [vOk] at h2
      | nil => exact ⟨pps_nil, rfl, rfl, rfl⟩
  | p :: r, ks, vs, pos, h1, h2 => by
    unfold kOk at h1
    split at h1
    · rename_i he; cases he
    · rename_i p' r' m x1 x2 es he
      cases he
      unfold vOk at h2
      split at h2
      · rename_i he; cases he
      · rename_i p' r' m' y1 y2 es' he
        cases he
        simp only [Bool.and_eq_true, decide_eq_true_eq] at h1 h2
        obtain ⟨rfl, h1⟩ := h1
        obtain ⟨rfl, h2⟩ := h2
        obtain ⟨q1, q2, q3, q4⟩ := pps_of (pos := pos) h1 h2
        exact ⟨pps_cons pe_int pe_int q1, by rw [List.all_cons, q2]; rfl, by rw [List.length_cons, List.length_cons, q3], by rw [List.length_cons, List.length_cons, q4]⟩
      · cases h2
    · cases h1
theorem pairs_of {σ : L2.St} {H : Hp} : ∀ {kvs : List (Int × Int)} {Q : List (V × V) → Hp → Prop}, Q (kvs.map fun p => (V.int p.1, V.int p.2)) H → tPairs (trsOf kvs) σ H Q
  | [], Q, h => h
  | p :: r, Q, h => pairs_of (kvs := r) (Q := fun ps H3 => Q ((V.int p.1, V.int p.2) :: ps) H3) h
theorem isFn_key : ∀ (l : List (Key × V)), isFn (l.map fun p => (keyD p.1, PyData.none)) = none
  | [] => rfl
  | ⟨.inl _, _⟩ :: _ => rfl
  | ⟨.inr _, _⟩ :: _ => rfl
theorem isEr_key : ∀ (l : List (Key × V)), isEr (l.map fun p => (keyD p.1, PyData.none)) = none
  | [] => rfl
  | ⟨.inl _, _⟩ :: _ => rfl
  | ⟨.inr _, _⟩ :: _ => rfl
theorem dct_fin {kvs : List (Int × Int)} {σ : L2.St} {H : Hp} {Q : VK} (h : tE g (Ev.M.pure (.val (dctD kvs))) σ H Q) : ∀ p, H p = none → Q (.ref p) (upd H p (.dK (dctKV kvs))) := by
  obtain ⟨c, M, e, s, h⟩ := h
  intro p hp
  obtain ⟨s1, x1⟩ := s.lay hp (.dK (dctKV kvs))
  refine h M _ s1 x1 .refl (.ref p) ?_ trivial
  show Rel g.K M _ (dctD kvs) (.ref p)
  unfold dctD
  simp only [Rel]
  rw [isFn_key]
  simp only
  rw [isEr_key]
  exact ⟨p, dctKV kvs, rfl, ⟨upd_same, fun m => s.mh p m hp⟩, by rw [List.map_map]; rfl⟩
theorem dct_ok {kvs : List (Int × Int)} {ks : List (Option Expr)} {vs : List Expr} {pos : Pos} (h0 : kvs.length ≤ 15) (h1 : kOk kvs ks = true) (h2 : vOk kvs vs = true) : PE X (.Dict ks vs pos) (tE g (Ev.M.pure (.val (dctD kvs)))) := by
  obtain ⟨q1, q2, q3, q4⟩ := pps_of (X := X) (pos := pos) h1 h2
  cases kvs with
  | nil =>
    cases ks with
    | cons _ _ => simp at q4
    | nil =>
      cases vs with
      | cons _ _ => simp at q3
      | nil => exact PE.mono pe_dnewK fun σ H Q h => dct_fin h
  | cons p r =>
    refine PE.mono (pe_disp q1 q2 q3 (fun z => by rw [z] at q4; simp at q4) (by rw [q4]; exact h0)) fun σ H Q h p0 hp => ?_
    refine pairs_of ⟨upd_same, (p :: r).map (fun q => ((.inl q.1 : Key), V.int q.2)), ?_, by rw [List.length_map]; exact h0, ?_⟩
    · rw [List.map_map]
      rfl
    · rw [upd_upd]
      exact dct_fin h p0 hp
end
section
variable {W : L2.WX} {bk : Option Scope} {sc : Scope} {X : Cx} {g : G}
theorem mergeK_val : ∀ (r kvs : List (Key × V)) (k : Key), valV (mergeK kvs r) k = r.foldl (fun o p => if k = p.1 then some p.2 else o) (valV kvs k)
  | [], kvs, k => rfl
  | p :: r, kvs, k => by
    show valV (mergeK (putK kvs p.1 p.2) r) k = _
    rw [mergeK_val r, valV_put]
    rfl
theorem look_fold (i : Int) : ∀ (kvs : List (Int × Int)) (o : Option Int), ((kvs.map fun p => ((.inl p.1 : Key), V.int p.2)).foldl (fun o p => if (.inl i : Key) = p.1 then some p.2 else o) (o.map V.int)) = (kvs.foldl (fun r p => if p.1 = i then some p.2 else r) o).map V.int
  | [], o => rfl
  | p :: r, o => by
    rw [List.map_cons, List.foldl_cons, List.foldl_cons, ← look_fold i r]
    congr 1
    by_cases h : p.1 = i
    · rw [if_pos h, if_pos (by rw [h])]
      rfl
    · rw [if_neg h, if_neg (fun q => h (by cases q; rfl))]
theorem look_val (kvs : List (Int × Int)) (i : Int) : valV (dctKV kvs) (.inl i) = (lookI kvs i).map V.int := by
  unfold dctKV lookI
  rw [mergeK_val]
  exact look_fold i kvs none
def tRawD (kvs : List (Int × Int)) : TE := fun σ H Q => ∀ p, H p = none → Q (.ref p) (upd H p (.dK (dctKV kvs)))
theorem dct_raw {kvs : List (Int × Int)} {ks : List (Option Expr)} {vs : List Expr} {pos : Pos} (h0 : kvs.length ≤ 15) (h1 : kOk kvs ks = true) (h2 : vOk kvs vs = true) : PE X (.Dict ks vs pos) (tRawD kvs) := by
  obtain ⟨q1, q2, q3, q4⟩ := pps_of (X := X) (pos := pos) h1 h2
  cases kvs with
  | nil =>
    cases ks with
    | cons _ _ => simp at q4
    | nil =>
      cases vs with
      | cons _ _ => simp at q3
      | nil => exact PE.mono pe_dnewK fun σ H Q h => h
  | cons p r =>
    refine PE.mono (pe_disp q1 q2 q3 (fun z => by rw [z] at q4; simp at q4) (by rw [q4]; exact h0)) fun σ H Q h p0 hp => ?_
    refine pairs_of ⟨upd_same, (p :: r).map (fun q => ((.inl q.1 : Key), V.int q.2)), ?_, by rw [List.length_map]; exact h0, ?_⟩
    · rw [List.map_map]
      rfl
    · rw [upd_upd]
      exact h p0 hp
theorem Ok.from {α : Type} {c : C} {σ : L2.St} {M : Addr → Prop} {H : Hp} {e : Fm} {M1 : Addr → Prop} {H1 : Hp} {e1 : Fm} {r : R α} {P : α → (Addr → Prop) → Hp → Fm → Prop} (h : Ok g c σ M H e r P) (x : Ext σ M H e M1 H1 e1) (k : Keeps e e1) : Ok g c σ M1 H1 e1 r P := by
  cases r with
  | ok a e' => exact fun M' H' s' x' k' => h M' H' s' (x.trans x') (k.trans k')
  | exc cn d e' => exact fun M' H' cls dd s' x' k' => h M' H' cls dd s' (x.trans x') (k.trans k')
  | stuck => exact h
theorem dget_ok (G : Good T N CX cf W bk sc X) {kvs : List (Int × Int)} {ks : List (Option Expr)} {vs : List Expr} {dpos apos cpos : Pos} {x y : Expr} {p q : Ev.M Opd} (h0 : kvs.length ≤ 15) (h1 : kOk kvs ks = true) (h2 : vOk kvs vs = true)
    (hx : PE X x (tE ⟨X.K, X.mg, W⟩ p)) (hy : PE X y (tE ⟨X.K, X.mg, W⟩ q)) (nx : NoStar x) (ny : NoStar y) (hl : (apos.endLine == cpos.line) = true) :
    PE X (.Call (.Attribute (.Dict ks vs dpos) ("get" : Str) apos) [x, y] [] cpos) (tE ⟨X.K, X.mg, W⟩ ((pk p).bind fun dx => (Ev.M.opt (intD dx)).bind fun i => q.bind fun y => match lookI kvs i with
      | some n => Ev.M.pure (.val (.int n))
      | none => Ev.M.pure y)) := by
  have hst : ∀ e ∈ [x, y], NoStar e := by
    intro e he
    simp only [List.mem_cons, List.not_mem_nil, or_false] at he
    rcases he with rfl | rfl
    · exact nx
    · exact ny
  have hs : starEach [x, y] X.env = [(false, eval x X.env), (false, eval y X.env)] := by
    rw [star_ok nx, star_ok ny]
    rfl
  refine PE.mono (pe_dget2 (Nat.lt_of_le_of_lt (by omega) G.hu) (dct_raw h0 h1 h2) hx hy ⟨base_ok rfl, few_ok hst (by simp), hl, by rw [hs]; rfl⟩) fun σ H Q h => ?_
  obtain ⟨c, M, e, s, h⟩ := h
  intro a ha
  obtain ⟨s0, x0⟩ := s.lay ha (.dK (dctKV kvs))
  have hm : ¬ M a := fun m => s.mh a m ha
  have nw : ¬ Wr σ e a := fun w => hm (s.wr w)
  refine ⟨a, rfl, .inl ⟨_, .inl upd_same⟩, c, M, e, s0, (Ok.bind (Ok.bind (Ok.from h x0 .refl))).imp fun o1 M1 H1 e1 s1 x1 k1 h1 v1 r1 f1 => ?_⟩
  obtain ⟨d, t, h2⟩ := Ok.derL s1 r1 h1
  obtain ⟨i, hi, h3⟩ := Ok.optB h2
  cases d <;> simp only [intD] at hi <;> first | (cases hi; done) | skip
  cases hi
  have e1' := t.int
  subst e1'
  refine ⟨c, M1, e1, s1, (Ok.bind h3).imp fun o2 M2 H2 e2 s2 x2 k2 h4 v2 r2 f2 => ?_⟩
  have g2 : H2 a = some (.dK (dctKV kvs)) := x2.e1 a _ (x1.e1 a _ upd_same nw) fun w => nw (x1.e4 a w)
  refine ⟨(lookI kvs i).map V.int, ?_, ?_⟩
  · have := DGet.k (k := (.inl i)) g2
    rw [look_val] at this
    exact this
  · cases hl : lookI kvs i with
    | none =>
      rw [hl] at h4
      refine h4 M2 H2 s2 .refl .refl v2 r2 ?_
      exact f2.old (x0.trans x1)
    | some n =>
      rw [hl] at h4
      exact h4 M2 H2 s2 .refl .refl (.int n) (by simp only [OR, Rel]) trivial
end
theorem evD_of {ks : List Str} {d y : D} (h : evD ks d = some y) : ∃ cn, d = errD cn y ∧ ks.contains cn = true := by
  cases d <;> simp only [evD] at h <;> first | (cases h; done) | skip
  rename_i kvs
  cases q : isEr kvs with
  | none => rw [q] at h; cases h
  | some p =>
    obtain ⟨n, d⟩ := p
    rw [q, Option.bind_some] at h
    simp only at h
    split at h
    · rename_i hk
      cases h
      exact ⟨n, by rw [isEr_of q]; rfl, hk⟩
    · cases h
theorem isxD_of {ks : List Str} {c : Str} {d : D} {b : Bool} (h : isxD ks c d = some b) : ∃ cn y, d = errD cn y ∧ ks.contains cn = true ∧ b = isxB c cn := by
  cases d <;> simp only [isxD] at h <;> first | (cases h; done) | skip
  rename_i kvs
  cases q : isEr kvs with
  | none => rw [q] at h; cases h
  | some p =>
    obtain ⟨n, d⟩ := p
    rw [q, Option.bind_some] at h
    simp only at h
    split at h
    · rename_i hk
      cases h
      exact ⟨n, d, by rw [isEr_of q]; rfl, hk, rfl⟩
    · cases h
theorem ev_rd {T : Tb} {N : List Str} {CX : CXT} {cf : CF} {W : L2.WX} {bk : Option Scope} {sc : Scope} {X : Cx} (G : Good T N CX cf W bk sc X) {ks : List Str} (hk : ks.all (fun c => T.errs.contains c) = true) {p : Ev.M Opd} {σ : L2.St} {H : Hp} {Q : VK}
    (h : tE ⟨X.K, X.mg, W⟩ ((pk p).bind fun dx => Ev.M.opt ((evD ks dx).map .val)) σ H Q) : tErr X.K X.mg (tE ⟨X.K, X.mg, W⟩ p) σ H Q := by
  obtain ⟨c, M, e, s, h⟩ := h
  refine ⟨c, M, e, s, (Ok.bind (Ok.bind h)).imp fun o1 M1 H1 e1 s1 x1 k1 h1 v1 r1 f1 => ?_⟩
  obtain ⟨d, t, h2⟩ := Ok.derL s1 r1 h1
  cases q : evD ks d with
  | none => rw [q] at h2; exact h2.elim
  | some y =>
    rw [q] at h2
    obtain ⟨cn, rfl, hc⟩ := evD_of q
    have hcn := List.all_eq_true.mp hk cn (by simpa using hc)
    obtain ⟨fI, _, Cl', hE, _⟩ := G.err cn hcn
    obtain ⟨a, dx, Cl, v, rfl, ⟨g1, _⟩, g2, ⟨g3, _⟩, g4⟩ := t.err
    have e1 := g2.symm.trans hE.kn
    injection e1 with e1
    injection e1 with e1
    injection e1 with e1
    subst e1
    exact ⟨a, Cl, fI, dx, cn, v, rfl, g1, hE, g3, h2 M1 H1 s1 .refl .refl v g4 trivial⟩
theorem mkv_rd {g : G} {p : Ev.M D} {C : Addr} {σ : L2.St} {H : Hp} {Q : VK} (h : tE g (p.bind fun d => Ev.M.pure (.val d)) σ H Q) :
    tD g p σ H fun v H1 => ∀ a d, H1 a = none → H1 d = none → d ≠ a → Q v (upd (upd H1 d (exd d [(("value" : Str), v)])) a (exo a C (some d))) := by
  obtain ⟨c, M, e, s, h⟩ := h
  refine ⟨c, M, e, s, (Ok.bind h).imp fun d M1 H1 e1 s1 x1 k1 h1 v r a dx ha hd ne => ?_⟩
  obtain ⟨s2, x2⟩ := s1.lay hd (exd dx [(("value" : Str), v)])
  obtain ⟨s3, x3⟩ := s2.lay (p := a) (by rw [upd_ne (Ne.symm ne)]; exact ha) (exo a C (some dx))
  exact h1 M1 _ s3 (x2.trans x3) .refl v (s2.rel x3 (s1.rel x2 r)) trivial
theorem isx_ok {T : Tb} {N : List Str} {CX : CXT} {cf : CF} {W : L2.WX} {bk : Option Scope} {sc : Scope} {X : Cx} (G : Good T N CX cf W bk sc X) {ks : List Str} (hk : ks.all (fun c => T.errs.contains c) = true) {cl : Str} (hx : T.isx.contains cl = true) {p : Ev.M Opd} {y : Expr} {p1 p2 pos : Pos} (hg : glB sc ("isinstance" : Str) = true)
    (hg2 : glB sc cl = true) (hn2 : nmB cl = true) (hy : PE X y (tE ⟨X.K, X.mg, W⟩ p)) (ny : NoStar y) :
    PE X (.Call (.Name ("isinstance" : Str) p1) [y, .Name cl p2] [] pos) (tE ⟨X.K, X.mg, W⟩ ((pk p).bind fun dx => Ev.M.opt ((isxD ks cl dx).map fun b => .val (.bool b)))) := by
  have hm : X.mg ("isinstance" : Str) = none := G.blt "isinstance" (by decide)
  obtain ⟨cv, hnm, hc⟩ := G.isx cl hx
  obtain ⟨w, hw, rw'⟩ : ∃ w : V, PE X (.Name cl p2) (tC w) ∧ ∀ u, RelV w u → u = cv := by
    rcases hnm with ⟨C, h1, rfl⟩ | ⟨rfl, h1, rfl⟩
    · exact ⟨.ref C, pe_glob (G.gl hg2) h1 (show RelV (.ref C) (.ref C) from rfl) (nmB_ok hn2).1, fun u q => q⟩
    · exact ⟨.ty "ValueError", pe_bltn (G.gl hg2) h1 rfl rfl, fun u q => q⟩
  refine PE.mono (pe_callB call_isX (G.gl hg) hm (by decide +kernel) (pa_cons hy (pa_cons hw pa_nil (star_ok fun _ _ z => nomatch z)) (star_ok ny)) (by decide) (by decide) (star_ok ny) (stars_ok (by intro e he; rcases List.mem_cons.mp he with rfl | he; exact fun _ _ z => nomatch z; exact nomatch he))) fun σ H Q h => ?_
  obtain ⟨c, M, e, s, h⟩ := h
  refine ⟨c, M, e, s, (Ok.bind (Ok.bind h)).imp fun o1 M1 H1 e1 s1 x1 k1 h1 v1 r1 f1 => ?_⟩
  obtain ⟨d, t, h2⟩ := Ok.derL s1 r1 h1
  cases q : isxD ks cl d with
  | none => rw [q] at h2; exact h2.elim
  | some b =>
    rw [q] at h2
    obtain ⟨cn, dy, rfl, hcn, rfl⟩ := isxD_of q
    have hcn := List.all_eq_true.mp hk cn (by simpa using hcn)
    obtain ⟨Cl', hkn, hkc, hko⟩ := hc cn hcn
    obtain ⟨a, dx, Cl, v, rfl, ⟨g1, _⟩, g2, ⟨g3, _⟩, g4⟩ := t.err
    have e1 := g2.symm.trans hkn
    injection e1 with e1
    injection e1 with e1
    injection e1 with e1
    subst e1
    exact ⟨a, Cl, dx, _, w, cv, _, rfl, rw', g1, g3, hkc, hko, h2 M1 H1 s1 .refl .refl _ (by simp only [OR, Rel]) trivial⟩
mutual
theorem sE : ∀ p : Ex, SE T N CX cf p
  | .var i => fun W bk sc X G e h => by
    cases e with
    | Name x pos =>
      simp only [chkE, Bool.and_eq_true, decide_eq_true_eq] at h
      have hn := nmB_ok h.2
      exact mkSE G (PE.mono (pe_var (by rw [G.hN]; exact h.1.1) (by rw [G.hsc]; exact visB_ok h.1.2) hn.1 hn.2.1) fun σ H Q q => var_ok q) (plainT_of rfl)
    | _ => simp [chkE] at h
  | .int n => fun W bk sc X G e h => by
    cases e with
    | Constant k1 k2 pos =>
      cases k1 <;> simp only [chkE, decide_eq_true_eq] at h <;> first | (cases h; done) | skip
      subst h
      exact mkSE G (PE.mono pe_int fun σ H Q q => const_ok (fun M H => by simp only [Rel]) q) (plainT_of rfl)
    | _ => simp [chkE] at h
  | .bl n => fun W bk sc X G e h => by
    cases e with
    | Constant k1 k2 pos =>
      cases k1 <;> simp only [chkE, decide_eq_true_eq] at h <;> first | (cases h; done) | skip
      subst h
      exact mkSE G (PE.mono pe_bl fun σ H Q q => const_ok (fun M H => by simp only [Rel]) q) (plainT_of rfl)
    | _ => simp [chkE] at h
  | .non => fun W bk sc X G e h => by
    cases e with
    | Constant k1 k2 pos =>
      cases k1 <;> simp only [chkE] at h <;> first | (cases h; done) | skip
      exact mkSE G (PE.mono pe_non fun σ H Q q => const_ok (fun M H => by simp only [Rel]) q) (plainT_of rfl)
    | _ => simp [chkE] at h
  | .str n => fun W bk sc X G e h => by
    cases e with
    | Constant k1 k2 pos =>
      cases k1 <;> simp only [chkE, decide_eq_true_eq] at h <;> first | (cases h; done) | skip
      subst h
      exact mkSE G (PE.mono pe_str fun σ H Q q => const_ok (fun M H => by simp only [Rel]) q) (plainT_of rfl)
    | _ => simp [chkE] at h
  | .gc y d => fun W bk sc X G e h => by
    cases e with
    | Name x pos =>
      simp only [chkE, Bool.and_eq_true, decide_eq_true_eq, List.any_eq_true] at h
      obtain ⟨⟨⟨rfl, h2⟩, h3⟩, p, hp, hx, hd⟩ := h
      obtain ⟨u, v, hu, rv, hr⟩ := G.con p hp
      rw [hx] at hu
      rw [beqD_ok _ _ hd] at hr
      exact mkSE G (PE.mono (pe_glob (G.gl h2) hu rv (nmB_ok h3).1) fun σ H Q q => const_ok (g := ⟨X.K, X.mg, W⟩) hr q) (plainT_of rfl)
    | _ => simp [chkE] at h
  | .tup es => fun W bk sc X G e h => by
    cases e with
    | Tuple xs k pos => exact mkSE G (PE.mono (pe_tupF ((sEs es W bk sc X G).1 xs h).1) fun σ H Q q => tup_ok q) (plainT_of rfl)
    | _ => simp [chkE] at h
  | .lst es => fun W bk sc X G e h => by
    cases e with
    | List xs pos => exact mkSE G (PE.mono (pe_lst ((sEs es W bk sc X G).1 xs h).1) fun σ H Q q => lst_ok q) (plainT_of rfl)
    | _ => simp [chkE] at h
  | .bin op a b => fun W bk sc X G e h => by
    cases e with
    | BinOp l o r pos =>
      simp only [chkE, Bool.and_eq_true, decide_eq_true_eq] at h
      obtain ⟨⟨rfl, h1⟩, h2⟩ := h
      exact mkSE G (PE.mono (pe_op (opr_bin op) (sE a W bk sc X G l h1).1 (sE b W bk sc X G r h2).1) fun σ H Q q => two_ok (g := ⟨X.K, X.mg, W⟩) (ops_bin op) q) (plainT_of rfl)
    | _ => simp [chkE] at h
  | .neg a => fun W bk sc X G e h => by
    cases e with
    | UnaryOp o l pos =>
      simp only [chkE, Bool.and_eq_true, decide_eq_true_eq] at h
      obtain ⟨rfl, h1⟩ := h
      exact mkSE G (PE.mono (pe_un un_neg (sE a W bk sc X G l h1).1) fun σ H Q q => neg_ok q) (plainT_of rfl)
    | _ => simp [chkE] at h
  | .not a => fun W bk sc X G e h => by
    cases e with
    | UnaryOp o l pos =>
      simp only [chkE, Bool.and_eq_true, decide_eq_true_eq] at h
      obtain ⟨rfl, h1⟩ := h
      have ih := sE a W bk sc X G l h1
      refine ⟨PE.mono (pe_notT ih.1) fun σ H Q q => notV_ok (g := ⟨X.K, X.mg, W⟩) q, PT.mono (pt_not ih.2) fun σ H Q q => ?_⟩
      have e0 : tst (evE cf (.not a)) = (tst (evE cf a)).bind fun b => Ev.M.pure (!b) := tst_val
      rw [e0] at q
      exact notT_ok q
    | _ => simp [chkE] at h
  | .cmp op a b => fun W bk sc X G e h => by
    cases e with
    | Compare l ops rs pos =>
      match ops, rs, h with
      | [o], [r], h =>
        simp only [chkE, Bool.and_eq_true, decide_eq_true_eq, Bool.not_eq_true'] at h
        obtain ⟨⟨⟨rfl, h1⟩, h2⟩, h3⟩ := h
        exact cmpPE G (sE a W bk sc X G l h1).1 (sE b W bk sc X G r h2).1 h3
      | [], _, h => simp [chkE] at h
      | [_], [], h => simp [chkE] at h
      | [_], _ :: _ :: _, h => simp [chkE] at h
      | _ :: _ :: _, _, h => simp [chkE] at h
    | _ => simp [chkE] at h
  | .chain op op' a b c => fun W bk sc X G e h => by
    cases e with
    | Compare l ops rs pos =>
      match ops, rs, h with
      | [o, o'], [r, r'], h =>
        simp only [chkE, Bool.and_eq_true, decide_eq_true_eq, Bool.not_eq_true'] at h
        obtain ⟨⟨⟨⟨⟨rfl, rfl⟩, h1⟩, h2⟩, h3⟩, h4⟩ := h
        have ha := (sE a W bk sc X G l h1).1
        have hb := (sE b W bk sc X G r h2).1
        have hc := (sE c W bk sc X G r' h3).1
        exact ⟨PE.mono (pe_chain (opr_cmp op G.hu) (opr_cmp op' G.hu) ha hb hc h4) fun σ H Q q => chain_ok (g := ⟨X.K, X.mg, W⟩) q,
          PT.mono (pt_chain (opr_cmp op G.hu) (opr_cmp op' G.hu) ha hb hc h4) fun σ H Q q => chain_ok (g := ⟨X.K, X.mg, W⟩) (tst_bool isB_chain q)⟩
      | [], _, h => simp [chkE] at h
      | [_], _, h => simp [chkE] at h
      | [_, _], [], h => simp [chkE] at h
      | [_, _], [_], h => simp [chkE] at h
      | [_, _], _ :: _ :: _ :: _, h => simp [chkE] at h
      | _ :: _ :: _ :: _, _, h => simp [chkE] at h
    | _ => simp [chkE] at h
  | .bop k es => fun W bk sc X G e h => by
    cases e with
    | BoolOp o xs pos =>
      simp only [chkE, Bool.and_eq_true, decide_eq_true_eq, Bool.not_eq_true'] at h
      obtain ⟨⟨rfl, h1⟩, h2⟩ := h
      have ih := (sEs es W bk sc X G).2.1 xs k (fun z => by rw [z] at h1; cases h1) h2 pos
      exact ⟨ih.1, ih.2.pt⟩
    | _ => simp [chkE] at h
  | .ite c a b => fun W bk sc X G e h => by
    cases e with
    | IfExp t x y pos =>
      simp only [chkE, Bool.and_eq_true] at h
      have hc := sE c W bk sc X G t h.1.1
      have ha := sE a W bk sc X G x h.1.2
      have hb := sE b W bk sc X G y h.2
      exact ⟨PE.mono (pe_ifExp hc.2 ha.1 hb.1) fun σ H Q q => ite_ok q, PT.mono (pt_ite hc.2 ha.2 hb.2) fun σ H Q q => iteT_ok q⟩
    | _ => simp [chkE] at h
  | .idx a i => fun W bk sc X G e h => by
    cases e with
    | Subscript x y pos =>
      simp only [chkE, Bool.and_eq_true] at h
      exact mkSE G (PE.mono (pe_ix (IxR.or ix_list (IxR.or ix_tup ix_str)) (sE a W bk sc X G x h.1).1 (sE i W bk sc X G y h.2).1 (plainIx_of h.2)) fun σ H Q q => two_ok (g := ⟨X.K, X.mg, W⟩) ops_idx q) (plainT_of rfl)
    | _ => simp [chkE] at h
  | .slc a lo hi => fun W bk sc X G e h => by
    cases e with
    | Subscript x y pos =>
      match y, h with
      | .Slice l u none p2, h =>
        simp only [chkE, Bool.and_eq_true] at h
        exact mkSE G (PE.mono (pe_slice slr_slc (sE a W bk sc X G x h.1.1).1 (sO lo W bk sc X G l h.1.2) (sO hi W bk sc X G u h.2)) fun σ H Q q => slc_rd (g := ⟨X.K, X.mg, W⟩) q) (plainT_of rfl)
      | .Slice _ _ (some _) _, h => simp [chkE] at h
      | .BoolOp .., h | .NamedExpr .., h | .BinOp .., h | .UnaryOp .., h | .Lambda .., h | .IfExp .., h | .Dict .., h | .Set .., h | .ListComp .., h | .SetComp .., h | .DictComp .., h | .GeneratorExp .., h | .Await .., h | .Yield .., h
      | .YieldFrom .., h | .Compare .., h | .Call .., h | .FormattedValue .., h | .JoinedStr .., h | .Constant .., h | .Attribute .., h | .Subscript .., h | .Starred .., h | .Name .., h | .List .., h | .Tuple .., h => simp [chkE] at h
    | _ => simp [chkE] at h
  | .rev a => fun W bk sc X G e h => by
    unfold chkE at h
    split at h
    · exact mkSE G (PE.mono (pe_turn (sE a W bk sc X G _ h).1) fun σ H Q q => rev_ok (g := ⟨X.K, X.mg, W⟩) q) (plainT_of rfl)
    · cases h
  | .call f lent args => fun W bk sc X G e h => by
    unfold chkE at h
    split at h
    · rename_i x p1 xs pos
      simp only [Bool.and_eq_true] at h
      obtain ⟨⟨⟨h1, h2⟩, h3⟩, h4⟩ := h
      split at h1
      · rename_i fn hf
        simp only [Bool.and_eq_true, decide_eq_true_eq] at h1
        obtain ⟨⟨h5, rfl⟩, h6⟩ := h1
        exact mkSE G (pe_own G hf h5 h6 h2 h3 ((sEs args W bk sc X G).1 xs h4).2 (chkEs_star h4) (fun z => by
          subst z
          cases args with
          | nil => rfl
          | cons _ _ => simp [chkEs] at h4)) (plainT_of rfl)
      · cases h1
    · cases h
  | .callK f lent args kargs ks perm => fun W bk sc X G e h => by
    unfold chkE at h
    split at h
    · rename_i x p1 xs kws pos
      simp only [Bool.and_eq_true] at h
      obtain ⟨⟨⟨⟨h1, h2⟩, h3⟩, h4⟩, h7⟩ := h
      split at h1
      · rename_i fn hf
        simp only [Bool.and_eq_true, decide_eq_true_eq] at h1
        obtain ⟨⟨⟨h5, rfl⟩, h6⟩, h8⟩ := h1
        obtain ⟨q1, q2⟩ := (sEs kargs W bk sc X G).2.2.1 kws ks h7
        exact mkSE G (pe_ownK G hf h5 h6 h8 h2 h3 ((sEs args W bk sc X G).1 xs h4).2 (chkEs_star h4) (fun z => by
          subst z
          cases args with
          | nil => rfl
          | cons _ _ => simp [chkEs] at h4) q1 q2) (plainT_of rfl)
      · cases h1
    · cases h
  | .bi b args => fun W bk sc X G e h => by
    unfold chkE at h
    split at h
    · simp only [Bool.and_eq_true, decide_eq_true_eq, Bool.not_eq_true'] at h
      obtain ⟨⟨⟨h1, h2⟩, h3⟩, h4⟩ := h
      exact mkSE G (pe_biP G h1 h2 (fun z => by rw [z] at h3; cases h3) ((sEs args W bk sc X G).1 _ h4).2 (chkEs_star h4)) (plainT_of rfl)
    · cases h
  | .isi a ts => fun W bk sc X G e h => by
    unfold chkE at h
    split at h
    · simp only [Bool.and_eq_true, decide_eq_true_eq] at h
      obtain ⟨⟨⟨h1, h2⟩, h3⟩, h4⟩ := h
      exact mkSE G (isi_ok G h1 h2 (sE a W bk sc X G _ h3).1 (chkE_star h3) h4) (plainT_of rfl)
    · cases h
  | .meth m o args => fun W bk sc X G e h => by
    unfold chkE at h
    split at h
    · rename_i y py nm apos x cpos
      simp only [Bool.and_eq_true, decide_eq_true_eq] at h
      obtain ⟨⟨⟨rfl, h2⟩, h3⟩, h4⟩ := h
      exact mkSE G (meth_ok G (sE o W bk sc X G _ h2).1 ((sEs args W bk sc X G).1 _ h3).2 (chkEs_star h3 x (by simp)) h4) (plainT_of rfl)
    · cases h
  | .dct kvs => fun W bk sc X G e h => by
    unfold chkE at h
    split at h
    · rename_i ks vs pos
      simp only [Bool.and_eq_true, decide_eq_true_eq] at h
      exact mkSE G (dct_ok h.1.1 h.1.2 h.2) (plainT_of rfl)
    · cases h
  | .pop i args => fun W bk sc X G e h => by
    unfold chkE at h
    split at h
    · rename_i y py nm apos es cpos
      simp only [Bool.and_eq_true, decide_eq_true_eq] at h
      obtain ⟨⟨⟨⟨⟨⟨rfl, h2⟩, h3⟩, h4⟩, h5⟩, h6⟩, h7⟩ := h
      refine mkSE G ?_ (plainT_of rfl)
      match es, h6, h5 with
      | [], _, h5 =>
        cases args with
        | nil => exact pop0_ok G h2 h3 h4 h7
        | cons _ _ => simp [chkEs] at h5
      | [x], _, h5 => exact pop1_ok G h2 h3 h4 ((sEs args W bk sc X G).1 _ h5).1 (chkEs_star h5 x (by simp)) h7
    · cases h
  | .lrg a b => fun W bk sc X G e h => by
    unfold chkE at h
    split at h
    · simp only [Bool.and_eq_true, decide_eq_true_eq] at h
      obtain ⟨⟨⟨⟨⟨h1, h2⟩, h3⟩, h4⟩, h5⟩, h6⟩ := h
      exact mkSE G (lrg_ok G h1 h3 h2 h4 (sE a W bk sc X G _ h5).1 (sE b W bk sc X G _ h6).1 (chkE_star h5) (chkE_star h6)) (plainT_of rfl)
    · cases h
  | .gcd a b => fun W bk sc X G e h => by
    unfold chkE at h
    split at h
    · simp only [Bool.and_eq_true, decide_eq_true_eq] at h
      obtain ⟨⟨⟨⟨h0, rfl⟩, h2⟩, h3⟩, h4⟩ := h
      have st := chkE_star h3
      have st2 := chkE_star h4
      exact mkSE G (PE.mono (pe_callBfun cr_gcd (G.gl h2) (G.gcd h0) (pa_cons (sE a W bk sc X G _ h3).1 (pa_cons (sE b W bk sc X G _ h4).1 pa_nil (star_ok st2)) (star_ok st)) (by decide) (star_ok st) (by rw [star_ok st2]; rfl)) fun σ H Q q => two_ok (g := ⟨X.K, X.mg, W⟩) ops_gcd q) (plainT_of rfl)
    · cases h
  | .prm a b => fun W bk sc X G e h => by
    unfold chkE at h
    split at h
    · simp only [Bool.and_eq_true, decide_eq_true_eq] at h
      obtain ⟨⟨⟨⟨⟨⟨⟨⟨h0, h1⟩, h2⟩, h3⟩, h4⟩, h5⟩, h6⟩, h7⟩, h8⟩ := h
      exact mkSE G (prm_ok G h1 h3 h5 h2 h4 h6 (G.prm h0) (sE a W bk sc X G _ h7).1 (sE b W bk sc X G _ h8).1 (chkE_star h7) (chkE_star h8)) (plainT_of rfl)
    · cases h
  | .fnc n => fun W bk sc X G e h => by
    unfold chkE at h
    split at h
    · rename_i x pos
      simp only [Bool.and_eq_true, decide_eq_true_eq] at h
      obtain ⟨⟨⟨rfl, h2⟩, h3⟩, h4⟩ := h
      obtain ⟨a, g1, g2, _⟩ := G.fnv _ h4
      exact mkSE G (PE.mono (pe_glob (G.gl h2) g1 (show RelV (.ref a) (.ref a) from rfl) (nmB_ok h3).1) fun σ H Q q => const_ok (g := ⟨X.K, X.mg, W⟩) (fun M H => by
        show Rel X.K M H (fnD x) (.ref a)
        unfold fnD
        simp only [Rel, isFn]
        exact ⟨a, rfl, g2⟩) q) (plainT_of rfl)
    · cases h
  | .kdx n kvs a => fun W bk sc X G e h => by
    unfold chkE at h
    split at h
    · rename_i x p1 y pos
      simp only [Bool.and_eq_true, decide_eq_true_eq, List.any_eq_true] at h
      obtain ⟨⟨⟨⟨rfl, h2⟩, h3⟩, p, hp, h4, h5⟩, h6⟩ := h
      obtain ⟨d, g1, g2⟩ := G.dcs p hp
      rw [h4] at g1
      rw [beqKV_ok _ _ h5] at g2
      refine mkSE G (PE.mono (pe_ix ix_kdict (pe_glob (G.gl h2) g1 (show RelV (.ref d) (.ref d) from rfl) (nmB_ok h3).1) (sE a W bk sc X G y h6).1 (plainIx_of h6)) fun σ H Q q => ?_) (plainT_of rfl)
      refine one_ok (g := ⟨X.K, X.mg, W⟩) (f := kdD kvs) (r := fun y H Q => rIxD X.K X.w (.ref d) y H Q) ?_ q
      intro c M σ H e x d1 o Q s t ho fin
      cases d1 <;> simp only [kdD] at ho <;> first | (cases ho; done) | skip
      rename_i z
      cases hl : kvs.lookup z with
      | none => rw [hl] at ho; cases ho
      | some dd =>
        rw [hl] at ho
        cases ho
        obtain ⟨v, k1, k2⟩ := g2 z dd hl
        exact ⟨d, z, v, rfl, t.str, k1, fin.val s (k2 M H)⟩
    · cases h
  | .ev ks a => fun W bk sc X G e h => by
    unfold chkE at h
    split at h
    · rename_i y p f p2
      simp only [Bool.and_eq_true, decide_eq_true_eq] at h
      obtain ⟨⟨rfl, h2⟩, h3⟩ := h
      exact mkSE G (PE.mono (pe_err (sE a W bk sc X G _ h3).1) fun σ H Q q => ev_rd G h2 q) (plainT_of rfl)
    · cases h
  | .isx ks a c => fun W bk sc X G e h => by
    unfold chkE at h
    split at h
    · simp only [Bool.and_eq_true, decide_eq_true_eq] at h
      obtain ⟨⟨⟨⟨⟨⟨⟨rfl, h2⟩, rfl⟩, h4⟩, h5⟩, h6⟩, h7⟩, h8⟩ := h
      exact mkSE G (isx_ok G h7 h4 h2 h5 h6 (sE a W bk sc X G _ h8).1 (chkE_star h8)) (plainT_of rfl)
    · cases h
  | .mkv cn a => fun W bk sc X G e h => by
    unfold chkE at h
    split at h
    · rename_i y p1 x pos f p2
      simp only [Bool.and_eq_true, decide_eq_true_eq] at h
      obtain ⟨⟨⟨⟨⟨rfl, rfl⟩, h3⟩, h4⟩, h5⟩, h6⟩ := h
      obtain ⟨fI, fd, Cl, hE, tI, F1, hb, _⟩ := G.err _ h3
      exact mkSE G (PE.mono (pe_mkv hE tI F1 G.r2 hb (fun pins σ H s e s' I q => (G.cxF _ _ _ _ _ q).elim) (G.gl h4) hE.mg (PE.mono (sE a W bk sc X G _ h6).1 fun σ H Q q => tD_ok (g := ⟨X.K, X.mg, W⟩) q) (nmB_ok h5).1 (star_ok (chkE_star h6))) fun σ H Q q => mkv_rd q) (plainT_of rfl)
    · cases h
  | .callV i fs args => fun W bk sc X G e h => by
    unfold chkE at h
    split at h
    · rename_i x p1 xs pos
      simp only [Bool.and_eq_true, decide_eq_true_eq, Bool.not_eq_true'] at h
      obtain ⟨⟨⟨⟨⟨h1, h2⟩, h3⟩, h4⟩, h5⟩, h6⟩ := h
      cases xs with
      | nil => cases h5
      | cons y ys => exact mkSE G (pe_callV G h1 h2 h3 h4 ((sEs args W bk sc X G).1 _ h6).2 (chkEs_star h6)) (plainT_of rfl)
    · cases h
  | .callG f lent a args => fun W bk sc X G e h => by
    unfold chkE at h
    split at h
    · rename_i x p1 y xs pos
      simp only [Bool.and_eq_true] at h
      obtain ⟨⟨⟨⟨h1, h2⟩, h3⟩, h4⟩, h5⟩ := h
      split at h1
      · rename_i fn hf
        simp only [Bool.and_eq_true, decide_eq_true_eq] at h1
        obtain ⟨⟨h6, rfl⟩, h7⟩ := h1
        exact mkSE G (pe_ownG G hf h6 h7 h2 h3 (sE a W bk sc X G _ h4).1 (chkE_star h4) ((sEs args W bk sc X G).1 xs h5).2 (chkEs_star h5)) (plainT_of rfl)
      · cases h1
    · cases h
  | .rgx tup dn a b => fun W bk sc X G e h => by
    unfold chkE at h
    split at h
    · simp only [Bool.and_eq_true, decide_eq_true_eq] at h
      obtain ⟨⟨⟨⟨h1, h2⟩, h3⟩, h4⟩, h5⟩ := h
      split at h5
      · rw [Bool.and_eq_true] at h5
        exact mkSE G (rgx_ok G h1 h3 h2 h4 (sE a W bk sc X G _ h5.1).1 (sE b W bk sc X G _ h5.2).1 (chkE_star h5.1) (chkE_star h5.2) (.inl ⟨rfl, rfl⟩)) (plainT_of rfl)
      · rw [Bool.and_eq_true] at h5
        exact mkSE G (rgx_ok G h1 h3 h2 h4 (sE a W bk sc X G _ h5.1).1 (sE b W bk sc X G _ h5.2).1 (chkE_star h5.1) (chkE_star h5.2) (.inr ⟨_, _, _, rfl, rfl⟩)) (plainT_of rfl)
      · cases h5
    · cases h
  | .comp own elt tg it ifs => fun W bk sc X G e h => by
    unfold chkE at h
    split at h
    · rename_i y t i fs scope pos
      simp only [Bool.and_eq_true] at h
      obtain ⟨⟨⟨⟨⟨h1, h2⟩, h3⟩, h4', h4⟩, h5⟩, h6⟩ := h
      obtain ⟨q1, q2⟩ := sI it W bk sc X G i t tg h4 h4' (tgOk2_of h4' h3)
      have htg : ∀ j ∈ tgIs tg, j ∈ own := fun j hj => by simpa using List.all_eq_true.mp h2 j hj
      have eo : (ownOf N own).map (·.2) = own := by unfold ownOf; rw [List.map_map]; exact List.map_id' own
      refine mkSE G (PE.mono (pe_lc (own := ownOf N own) (wi := tI tg ⟨X.K, X.mg, W⟩ (evI cf it)) (g := gT X.K tg) (tt := tT ⟨X.K, X.mg, noW⟩ (evFs cf ifs)) (te := tD ⟨X.K, X.mg, noW⟩ (tk (evE cf elt))) G.calm (by rw [G.hN]; exact G.nd) q1 (by rw [G.hN, G.hsc]; exact blkOk_by h1)
        (fun s H Cc cl fp => pg_ok (G.blk s H Cc cl fp) h3) (fun s H Cc cl fp => (sEs ifs noW (some scope) (relS scope sc) _ (G.blk s H Cc cl fp)).2.2.2 fs h5)
        (fun s H Cc cl fp => PE.mono (sE elt noW (some scope) (relS scope sc) _ (G.blk s H Cc cl fp) y h6).1 fun σ H Q q => tD_ok (g := ⟨X.K, X.mg, noW⟩) q) (fun x => q2 X.env x)) fun σ H Q q => ?_) (plainT_of rfl)
      rw [eo]
      exact lc_ok (g := ⟨X.K, X.mg, W⟩) htg q
    · cases h
  | .comp2 own vs elt tg it ifs tg' it' ifs' => fun W bk sc X G e h => by
    unfold chkE at h
    split at h
    · rename_i y t i fs t1 i1 fs1 scope pos
      simp only [Bool.and_eq_true] at h
      obtain ⟨⟨⟨⟨⟨⟨⟨⟨⟨⟨h1, h2⟩, h7⟩, h8⟩, h3⟩, h4', h4⟩, h5⟩, h9⟩, h10', h10⟩, h11⟩, h6⟩ := h
      obtain ⟨q1, q2⟩ := sI it W bk sc X G i t tg h4 h4' (tgOk2_of h4' h3)
      have htg : ∀ j ∈ tgIs tg, j ∈ own := fun j hj => by simpa using List.all_eq_true.mp h2 j hj
      have hvs : ∀ j ∈ vs, j ∈ own := fun j hj => by simpa using List.all_eq_true.mp h7 j hj
      have htg' : ∀ j ∈ tgIs tg', j ∈ vs := fun j hj => by simpa using List.all_eq_true.mp h8 j hj
      have eo : (ownOf N own).map (·.2) = own := by unfold ownOf; rw [List.map_map]; exact List.map_id' own
      have inn := fun (s : Shared) (H : Hp) (Cc : Addr) (cl : List (Str × Addr)) (fp : List Addr) => sI it' noW (some scope) (relS scope sc) _ (G.blk (scope := scope) s H Cc cl fp) i1 t1 tg' h10 h10' (tgOk2_of h10' h9)
      refine mkSE G (PE.mono (pe_lc2 (own := ownOf N own) (vs1 := vs) (wi := tI tg ⟨X.K, X.mg, W⟩ (evI cf it)) (g := gT X.K tg) (tt := tT ⟨X.K, X.mg, noW⟩ (evFs cf ifs)) (wi1 := tI tg' ⟨X.K, X.mg, noW⟩ (evI cf it')) (g1 := gT X.K tg') (tt1 := tT ⟨X.K, X.mg, noW⟩ (evFs cf ifs')) (te := tD ⟨X.K, X.mg, noW⟩ (tk (evE cf elt))) G.calm (by rw [G.hN]; exact G.nd) q1 (by rw [G.hN, G.hsc]; exact blkOk_by h1) (by rw [eo]; exact hvs)
        (fun s H Cc cl fp => pg_ok (G.blk s H Cc cl fp) h3) (fun s H Cc cl fp => (sEs ifs noW (some scope) (relS scope sc) _ (G.blk s H Cc cl fp)).2.2.2 fs h5)
        (fun s H Cc cl fp => (inn s H Cc cl fp).1)
        (fun s H Cc cl fp => pg_ok (G.blk s H Cc cl fp) h9) (fun s H Cc cl fp => (sEs ifs' noW (some scope) (relS scope sc) _ (G.blk s H Cc cl fp)).2.2.2 fs1 h11)
        (fun s H Cc cl fp => PE.mono (sE elt noW (some scope) (relS scope sc) _ (G.blk s H Cc cl fp) y h6).1 fun σ H Q q => tD_ok (g := ⟨X.K, X.mg, noW⟩) q) (fun x => q2 X.env x) (inn X.s_0 (fun _ => none) 0 [] []).2) fun σ H Q q => ?_) (plainT_of rfl)
      rw [eo]
      exact lc2_ok (g := ⟨X.K, X.mg, W⟩) htg hvs htg' q
    · cases h
  | .sm m o args => fun W bk sc X G e h => by
    unfold chkE at h
    split at h
    · rename_i x nm apos es cpos
      simp only [Bool.and_eq_true, decide_eq_true_eq] at h
      obtain ⟨⟨⟨⟨⟨rfl, h2⟩, h3⟩, h4⟩, h5⟩, h6⟩ := h
      have ho := (sE o W bk sc X G _ h2).1
      have ha := ((sEs args W bk sc X G).1 _ h4).2
      have hst := chkEs_star h4
      match es, h4, h5, ha, hst with
      | [], h4, h5, ha, hst =>
        cases args with
        | cons _ _ => simp [chkEs] at h4
        | nil => exact mkSE G (PE.mono (pe_sm0 ho h3 h6 h5.symm) fun σ H Q q => sm0_rd (g := ⟨X.K, X.mg, W⟩) q) (plainT_of rfl)
      | y :: ys, h4, h5, ha, hst =>
        refine mkSE G (PE.mono (pe_sm ho ha h3 hst ?_ h6 h5.symm) fun σ H Q q => sm_rd (g := ⟨X.K, X.mg, W⟩) q) (plainT_of rfl)
        cases m <;> simp only [sqAr, Option.some.injEq, reduceCtorEq] at h5 <;> omega
    · cases h
  | .dget kvs a b => fun W bk sc X G e h => by
    unfold chkE at h
    split at h
    · rename_i ks vs dpos nm apos x y cpos
      simp only [Bool.and_eq_true, decide_eq_true_eq] at h
      obtain ⟨⟨⟨⟨⟨⟨rfl, h0⟩, h1⟩, h2⟩, h3⟩, h4⟩, h5⟩ := h
      exact mkSE G (dget_ok G h0 h1 h2 (sE a W bk sc X G x h3).1 (sE b W bk sc X G y h4).1 (chkE_star h3) (chkE_star h4) h5) (plainT_of rfl)
    · cases h
  | .chain3 o1 o2 o3 a b c d => fun W bk sc X G e h => by
    unfold chkE at h
    split at h
    · rename_i l q1 q2 q3 r1 r2 r3 pos
      simp only [Bool.and_eq_true, decide_eq_true_eq, Bool.not_eq_true'] at h
      obtain ⟨⟨⟨⟨⟨⟨⟨rfl, rfl⟩, rfl⟩, h1⟩, h2⟩, h3⟩, h4⟩, h5⟩ := h
      have ha := (sE a W bk sc X G l h1).1
      have hb := (sE b W bk sc X G r1 h2).1
      have hc := (sE c W bk sc X G r2 h3).1
      have hd := (sE d W bk sc X G r3 h4).1
      exact ⟨PE.mono (pe_chain3 (opr_cmp o1 G.hu) (opr_cmp o2 G.hu) (opr_cmp o3 G.hu) ha hb hc hd h5) fun σ H Q q => chain3_ok (g := ⟨X.K, X.mg, W⟩) q,
        PT.mono (pt_chain3 (opr_cmp o1 G.hu) (opr_cmp o2 G.hu) (opr_cmp o3 G.hu) ha hb hc hd h5) fun σ H Q q => chain3_ok (g := ⟨X.K, X.mg, W⟩) (tst_bool isB_chain3 q)⟩
    · cases h
theorem sEs : ∀ p : Exs, SEs T N CX cf p
  | .nil => fun W bk sc X G => by
    refine ⟨fun es h => ?_, fun es k hne h => ?_, fun kws ks h => ?_, fun fs h => ?_⟩
    · cases es with
      | nil => exact ⟨PA.mono pa_nil fun σ H Q q => ts_nil q, PA.mono pa_nil fun σ H Q q => as_nil q⟩
      | cons _ _ => simp [chkEs] at h
    · cases es with
      | nil => exact absurd rfl hne
      | cons _ _ => simp [chkEs] at h
    · simp only [chkKs, Bool.and_eq_true, List.isEmpty_iff] at h
      obtain ⟨rfl, rfl⟩ := h
      exact ⟨PK.mono pk_nil fun σ H Q q => as_nil q, fun env pos => ⟨rfl, rfl, rfl⟩⟩
    · simp only [chkFs, List.isEmpty_iff] at h
      subst h
      exact ⟨fun pins s σ H Q I q => pts_nil.run pins s σ H Q I (fs_nil q)⟩
  | .cons a r => fun W bk sc X G => by
    have ia := sE a W bk sc X G
    have ir := sEs r W bk sc X G
    refine ⟨fun es h => ?_, fun es k hne h pos => ?_, fun kws ks h => ?_, fun fs h => ?_⟩
    · cases es with
      | nil => simp [chkEs] at h
      | cons e es =>
        simp only [chkEs, Bool.and_eq_true] at h
        have st := star_ok (es := es) (env := X.env) (chkE_star h.1)
        exact ⟨PA.mono (pa_cons (ia e h.1).1 (ir.1 es h.2).1 st) fun σ H Q q => ts_cons q, PA.mono (pa_cons (ia e h.1).1 (ir.1 es h.2).2 st) fun σ H Q q => as_cons q⟩
    · cases es with
      | nil => exact absurd rfl hne
      | cons e es =>
        simp only [chkEs, Bool.and_eq_true] at h
        cases r with
        | nil =>
          cases es with
          | cons _ _ => simp [chkEs] at h
          | nil =>
            have i0 := ia e h.1
            cases k with
            | true => exact ⟨pe_one i0.1, pw_and1 i0.2⟩
            | false => exact ⟨pe_one i0.1, pw_or1 i0.2⟩
        | cons b r2 =>
          cases es with
          | nil => simp [chkEs] at h
          | cons e2 es2 =>
            have i0 := ia e h.1
            have i1 := ir.2.1 (e2 :: es2) k (by simp) h.2 pos
            cases k with
            | true =>
              refine ⟨PE.mono (pe_andT i0.1 i1.1) fun σ H Q q => ?_, PW.mono (pw_and i0.2 i1.2) fun σ H Q q => ?_⟩
              · exact bop_ok (g := ⟨X.K, X.mg, W⟩) (k := true) q
              · obtain ⟨c, M, e, s, q⟩ := bopT_ok (g := ⟨X.K, X.mg, W⟩) (k := true) q
                refine ⟨c, M, e, s, q.imp fun t M1 H1 e1 s1 x1 k1 h1 => ?_⟩
                cases t with
                | true => exact h1
                | false => exact h1
            | false =>
              refine ⟨PE.mono (pe_orT i0.1 i1.1) fun σ H Q q => ?_, PW.mono (pw_or i0.2 i1.2) fun σ H Q q => ?_⟩
              · obtain ⟨c, M, e, s, q⟩ := bop_ok (g := ⟨X.K, X.mg, W⟩) (k := false) q
                refine ⟨c, M, e, s, q.imp fun o M1 H1 e1 s1 x1 k1 h1 v r f => ?_⟩
                obtain ⟨t, h2, h3⟩ := h1 v r f
                refine ⟨t, h2, ?_⟩
                cases t with
                | true => exact h3
                | false => exact h3
              · obtain ⟨c, M, e, s, q⟩ := bopT_ok (g := ⟨X.K, X.mg, W⟩) (k := false) q
                refine ⟨c, M, e, s, q.imp fun t M1 H1 e1 s1 x1 k1 h1 => ?_⟩
                cases t with
                | true => exact h1
                | false => exact h1
    · match ks, kws, h with
      | k :: ks, ⟨some n, e, kp⟩ :: kws, h =>
        simp only [chkKs, Bool.and_eq_true, decide_eq_true_eq] at h
        obtain ⟨⟨rfl, h1⟩, h2⟩ := h
        obtain ⟨q1, q2⟩ := ir.2.2.1 kws ks h2
        refine ⟨PK.mono (pk_cons (ia e h1).1 q1) fun σ H Q q => as_cons q, fun env pos => ?_⟩
        obtain ⟨w1, w2, w3⟩ := q2 env pos
        refine ⟨?_, ?_, ?_⟩
        · show (true && (backToKw pos (keywordEach kws env)).all (·.1.isSome)) = true
          rw [w1]; rfl
        · show n :: (backToKw pos (keywordEach kws env)).filterMap (·.1) = n :: ks
          rw [w2]
        · show (false || (backToKw pos (keywordEach kws env)).any (·.1.isNone)) = false
          rw [w3]; rfl
      | [], _, h => simp [chkKs] at h
      | _ :: _, [], h => simp [chkKs] at h
      | _ :: _, ⟨none, _, _⟩ :: _, h => simp [chkKs] at h
    · match fs, h with
      | [e], h =>
        simp only [chkFs, Bool.and_eq_true] at h
        have h2 := h.2
        cases r with
        | nil => exact ⟨fun pins s σ H Q I q => (pts_one (ia e h.1).2).run pins s σ H Q I (fs_one (g := ⟨X.K, X.mg, W⟩) q)⟩
        | cons _ _ => cases h2
      | [], h => simp [chkFs] at h
      | _ :: _ :: _, h => simp [chkFs] at h
theorem sO : ∀ p : Oe, SO T N CX cf p
  | .no => fun W bk sc X G e h => by
    cases e with
    | none => exact po_mono po_none fun σ H Q ⟨c, M, e, s, q⟩ => q M H s .refl .refl
    | some _ => simp [chkO] at h
  | .some a => fun W bk sc X G e h => by
    cases e with
    | none => simp [chkO] at h
    | some x => exact po_mono (po_some (sE a W bk sc X G x h).1) fun σ H Q q => part_rd (g := ⟨X.K, X.mg, W⟩) q
theorem sI : ∀ p : Itr, SI T N CX cf p
  | .seq a => fun W bk sc X G e tg tt h _ _ => by
    have ih := (sE a W bk sc X G e h).1
    refine ⟨pi_mono (pi_or (pi_or (pi_list ih) (pi_tup ih)) (pi_str ih)) fun σ H R q => seq_rd (g := ⟨X.K, X.mg, W⟩) q, fun env x => ?_⟩
    cases e <;> first | rfl | (cases a <;> simp [chkI, chkE] at h; done)
  | .r1 a => fun W bk sc X G e tg tt h _ _ => by
    unfold chkI at h
    split at h
    · simp only [Bool.and_eq_true, decide_eq_true_eq] at h
      obtain ⟨⟨rfl, h2⟩, h3⟩ := h
      have st := chkE_star h3
      exact ⟨pi_mono (pi_range1 (G.gl h2) (G.blt "range" (by decide)) (pa_cons (sE a W bk sc X G _ h3).1 pa_nil (star_ok st)) (by rw [star_ok st]; rfl)) fun σ H R q => r1_rd (g := ⟨X.K, X.mg, W⟩) q, fun env x => rfl⟩
    · cases h
  | .zip a b => fun W bk sc X G e tg tt h htg htt => by
    unfold chkI at h
    split at h
    · simp only [Bool.and_eq_true, decide_eq_true_eq] at h
      obtain ⟨⟨⟨rfl, h2⟩, h3⟩, h4⟩ := h
      have st := chkE_star h3
      have st2 := chkE_star h4
      refine ⟨?_, fun env x => rfl⟩
      have htt : ∃ is, tt = .tp is := by
        cases tt with
        | nm i => cases htt
        | tp is => exact ⟨is, rfl⟩
      cases tg <;> first | (cases htg; done) | skip
      exact pi_mono (RZ.pi_zipA (G.gl h2) (G.blt "zip" (by decide)) (pa_cons (PE.mono (sE a W bk sc X G _ h3).1 fun σ H Q q => tD_ok (g := ⟨X.K, X.mg, W⟩) q) (pa_cons (PE.mono (sE b W bk sc X G _ h4).1 fun σ H Q q => tD_ok (g := ⟨X.K, X.mg, W⟩) q) pa_nil (star_ok st2)) (star_ok st)) (star_ok st) (by rw [star_ok st2]; rfl)) fun σ H R q => zip_rd htt (g := ⟨X.K, X.mg, W⟩) q
    · cases h
  | .enm a => fun W bk sc X G e tg tt h htg htt => by
    unfold chkI at h
    split at h
    · simp only [Bool.and_eq_true, decide_eq_true_eq] at h
      obtain ⟨⟨rfl, h2⟩, h3⟩ := h
      have st := chkE_star h3
      refine ⟨?_, fun env x => rfl⟩
      have htt : ∃ is, tt = .tp is := by
        cases tt with
        | nm i => cases htt
        | tp is => exact ⟨is, rfl⟩
      cases tg <;> first | (cases htg; done) | skip
      have ae := pa_cons (PE.mono (sE a W bk sc X G _ h3).1 fun σ H Q q => tD_ok (g := ⟨X.K, X.mg, W⟩) q) pa_nil (star_ok st)
      exact pi_mono (pi_or (pi_enum (G.gl h2) (G.blt "enumerate" (by decide)) ae (by rw [star_ok st]; rfl)) (pi_enumT (G.gl h2) (G.blt "enumerate" (by decide)) ae (by rw [star_ok st]; rfl))) fun σ H R q => enm_rd htt (g := ⟨X.K, X.mg, W⟩) q
    · cases h
  | .rd a b => fun W bk sc X G e tg tt h _ _ => by
    unfold chkI at h
    split at h
    · simp only [Bool.and_eq_true, decide_eq_true_eq] at h
      obtain ⟨⟨⟨rfl, h2⟩, h3⟩, h4⟩ := h
      rename_i k0 p1 p2 p0
      have st := chkE_star h3
      have st2 := chkE_star h4
      have nc : NoStar (.UnaryOp .USub (.Constant (.int 1) k0 p1) p2) := fun x q z => by cases z
      exact ⟨pi_mono (pi_range3 (G.gl h2) (G.blt "range" (by decide)) (pa_cons (sE a W bk sc X G _ h3).1 (pa_cons (sE b W bk sc X G _ h4).1 (pa_cons (pe_un un_neg pe_int) pa_nil (star_ok nc)) (star_ok st2)) (star_ok st)) (by rw [star_ok st, star_ok st2]) (by rw [star_ok st2, star_ok nc]; rfl)) fun σ H R q => rd_rd (g := ⟨X.K, X.mg, W⟩) q, fun env x => rfl⟩
    · cases h
  | .r2 a b => fun W bk sc X G e tg tt h _ _ => by
    unfold chkI at h
    split at h
    · simp only [Bool.and_eq_true, decide_eq_true_eq] at h
      obtain ⟨⟨⟨rfl, h2⟩, h3⟩, h4⟩ := h
      have st := chkE_star h3
      have st2 := chkE_star h4
      exact ⟨pi_mono (pi_range2 (G.gl h2) (G.blt "range" (by decide)) (pa_cons (sE a W bk sc X G _ h3).1 (pa_cons (sE b W bk sc X G _ h4).1 pa_nil (star_ok st2)) (star_ok st)) (by rw [star_ok st, star_ok st2]; rfl) (by rw [star_ok st2]; rfl)) fun σ H R q => r2_rd (g := ⟨X.K, X.mg, W⟩) q, fun env x => rfl⟩
    · cases h
end
end
end Ev

set_option Elab.async false
set_option linter.all false
set_option maxRecDepth 100000
set_option maxHeartbeats 4000000
/-! errors of one's own: a class whose __init__ (its own, or its base's) hands the value on and keeps it -/
namespace Ev
open PySem L2 PySem.Spec
/-- the first statement of that __init__, as it stands in the text -/
abbrev iniC (p1 p2 p3 p4 p5 : Pos) : Expr := .Call (.Attribute (.Name ("ValueError" : Str) p1) ("__init__" : Str) p2) [.Name ("self" : Str) p3, .Name ("value" : Str) p4] [] p5
theorem init_ok {P : Program} {w : World} {K : PySem.W.Frag} {mg : Str → Option Value} {base : Heap} {fI : Addr} {fd : FuncData} {st : Stmt} (F : Fun K "__init__" "JumpError.__init__" st fI fd) (S : FnScope NI NI (defScope st)) {p1 p2 p3 p4 p5 p6 p7 p8 p9 p10 : Pos} {pl : PySem.Env → Sem Bool} (hB : defBody st = [.Expr (iniC p1 p2 p3 p4 p5) p6, .Assign [.Attribute (.Name ("self" : Str) p7) ("value" : Str) p8] (.Name ("value" : Str) p9) p10])
    (hc : ∀ env : PySem.Env, eval (iniC p1 p2 p3 p4 p5) env = (do
      let t ← eval (.Name "ValueError" p1) env
      standAt p2.atName
      let (f, self) ← holding [t] (getMethod t "__init__" (pl env))
      callWith p5 f self (backTo p5 (starEach [.Name ("self" : Str) p3, .Name ("value" : Str) p4] env)) (backToKw p5 (keywordEach [] env))))
    (hg : glB (defScope st) ("ValueError" : Str) = true) (h0 : visB (defScope st) ("self" : Str) = true) (h1 : visB (defScope st) ("value" : Str) = true) (hv : mg "ValueError" = none) (vV : PySem.W.findCls K (.type "ValueError") (.type "type") "__init__" = some (.val (.builtin "ValueError.__init__"))) :
    FnOk P w K mg base (L2.CX P w) 1 fI fd NI (spI K) := by
  refine F.okX (k := 0) S (fun vs H Q E h => by obtain ⟨a, Cl, v, rfl, _⟩ := h; rfl) fun cdv A outer s H vs Q E hr h => ?_
  generalize hX : cxOf (L2.CX P w) P w K mg base NI "JumpError.__init__" (defScope st) fI cdv A outer s H E = X
  have xs : X.K = K ∧ X.mg = mg ∧ X.N = NI ∧ X.env.scope = defScope st := by
    subst hX
    exact ⟨rfl, rfl, rfl, rfl⟩
  obtain ⟨x1, x2, x3, x4⟩ := xs
  have var : ∀ {i : Nat} {x : Str} {p : Pos}, NI[i]? = some x → visB (defScope st) x = true → (x == ("__debug__" : Str)) = false → (x == ("__classdict__" : Str)) = false → PE X (.Name x p) (tVar i) := fun hi hv h2 h3 =>
    pe_var (by rw [x3]; exact hi) (by rw [x4]; exact visB_ok hv) h2 h3
  rw [hB]
  have ps : ∀ {p : Pos}, PE X (.Name ("self" : Str) p) (tVar 0) := fun {p} => var rfl h0 (by decide) (by decide)
  have pv : ∀ {p : Pos}, PE X (.Name ("value" : Str) p) (tVar 1) := fun {p} => var rfl h1 (by decide) (by decide)
  refine ⟨_, pss_cons (ps_expr (pe_veinit (show X.env.scope.names.lookup _ = some .globalImplicit by rw [x4]; exact glB_ok hg) (by rw [x2]; exact hv) (by rw [x1]; exact vV) (pa_cons ps (pa_cons pv pa_nil)) (hc X.env))) (pss_one (ps_ost ps pv)), ?_⟩
  obtain ⟨a, Cl, y, rfl, hC, hno, ha, q⟩ := h
  refine ⟨.ref a, rfl, y, rfl, a, Cl, [y], rfl, (by decide : 1 ≤ 1000), by rw [x1]; exact hC, ha, ?_⟩
  exact ⟨y, rfl, .ref a, rfl, a, Cl, rfl, by rw [x1]; exact hC, by rw [x1]; exact hno, .inl ⟨ha, fun dx n ne => q dx n ne⟩⟩
/-- behind the making of an error: one dict more -/
theorem made_same {H : Hp} {a Cl d : Addr} {fs : List (Str × V)} (ha : H a = none) (hd : H d = none) (hne : d ≠ a) :
    upd (del (upd (upd (upd H a (exo a Cl none)) d (exd d fs)) a (exo a Cl (some d))) a) d (.xd fs) = upd H d (.xd fs) := by
  funext b
  by_cases h1 : b = d
  · rw [h1, upd_same, upd_same]
  · rw [upd_ne h1, upd_ne h1]
    by_cases h2 : b = a
    · rw [h2, del_same, ha]
    · rw [del_ne h2, upd_ne h2, upd_ne h1, upd_ne h2]
section
variable {T : Tb} {N : List Str} {CX : CXT} {cf : CF} {W : L2.WX} {sc : Scope} {X : Cx}
/-- what the raising of an error of the class at Cl asks behind its value -/
def afterE (W : L2.WX) (Cl : Addr) (σ : L2.St) (v : V) (H1 : Hp) : Prop := ∀ d, H1 d = none → W (.ref Cl) (some d) σ (upd H1 d (.xd [(("value" : Str), v)]))
theorem after_mk {K : PySem.W.Frag} {fI Cl : Addr} {σ : L2.St} {v : V} {H1 : Hp} (hC : OexC K Cl) (hno : PySem.W.findIn K (.ref Cl) "value" = some none) (h : afterE W Cl σ v H1) : ([v] : List V).length ≤ 1000 ∧ ∀ a, H1 a = none → spI K (.ref a :: ([v] ++ [])) (upd H1 a (exo a Cl none))
    (fun y H2 => y = .non ∧ ∃ (d : Addr) (fs : List (Str × V)), H2 a = some (exo a Cl (some d)) ∧ H2 d = some (exd d fs) ∧ H1 d = none ∧ W (.ref Cl) (some d) σ (upd (del H2 a) d (.xd fs))) (fun _ _ _ => False) := by
  refine ⟨(by decide : 1 ≤ 1000), fun a ha => ⟨a, Cl, v, rfl, hC, hno, upd_same, fun dx n ne => ⟨rfl, dx, [(("value" : Str), v)], upd_same, ?_, ?_, ?_⟩⟩⟩
  · rw [upd_ne ne, upd_same]
  · rw [upd_ne ne] at n
    exact n
  · rw [upd_ne ne] at n
    rw [made_same ha n ne]
    exact h dx n
/-- raise C(e) -/
theorem ps_rais {fI : Addr} {fd : FuncData} {cn : Str} {Cl : Addr} {e : Expr} {g : G} {p : Ev.M D} {q1 pos pos2 : Pos} (E : ErrC X.K X.mg fI cn Cl) (tI : PySem.W.typeIn X.K (.ref fI) = some (.type "function")) (F1 : FnOk X.prog X.w X.K X.mg X.base CX 1 fI fd NI (spI X.K)) (hr : Room 2 X.A) (hb : Binds X.K fd NI [])
    (hx : Passes CX X (fun _ _ _ => False)) (hc : X.calm = true) (tk : Takes X W) (hg : Gl X cn) (hd : (cn == ("__debug__" : Str)) = false) (he : PE X e (tD g p)) (hs : NoStar e) :
    PS X (.Raise (some (.Call (.Name cn q1) [e] [] pos)) none pos2) (fun _ σ H => tD g p σ H (afterE W Cl σ)) := by
  have hp := ps_raise (pos := pos2) hc tk (pmk_oex (p := q1) (pos := pos) E.cls E.ini tI F1 hr hb .nil hx hg E.mg (pa_cons he pa_nil (star_ok hs)) hd (star_ok hs) rfl)
  refine ⟨fun pins s σ H D I q => hp.run pins s σ H D I ?_⟩
  obtain ⟨c, M, e0, s, q⟩ := q
  refine ⟨c, M, e0, s, q.imp fun d M1 H1 e1 s1 x1 k1 h1 v r => ?_⟩
  exact after_mk (fI := fI) E.cls E.no (h1 v r)
/-- raise C(value = e) -/
theorem ps_raisK {fI : Addr} {fd : FuncData} {cn : Str} {Cl : Addr} {e : Expr} {g : G} {p : Ev.M D} {q1 pos pos2 kp : Pos} (E : ErrC X.K X.mg fI cn Cl) (tI : PySem.W.typeIn X.K (.ref fI) = some (.type "function")) (F1 : FnOk X.prog X.w X.K X.mg X.base CX 1 fI fd NI (spI X.K)) (hr : Room 2 X.A) (hb : ∀ (s : Shared) (a u : Value), BindsTo s fd ⟨[a], [(("value" : Str), u)]⟩ (NI.zip [a, u]))
    (hx : Passes CX X (fun _ _ _ => False)) (hc : X.calm = true) (tk : Takes X W) (hg : Gl X cn) (hd : (cn == ("__debug__" : Str)) = false) (he : PE X e (tD g p)) :
    PS X (.Raise (some (.Call (.Name cn q1) [] [⟨some ("value" : Str), e, kp⟩] pos)) none pos2) (fun _ σ H => tD g p σ H (afterE W Cl σ)) := by
  have hp := ps_raise (pos := pos2) hc tk (pmk_oexK (p := q1) (pos := pos) (kp := kp) E.cls E.ini tI F1 hr rfl hb hx hg E.mg he hd)
  refine ⟨fun pins s σ H D I q => hp.run pins s σ H D I ?_⟩
  obtain ⟨c, M, e0, s, q⟩ := q
  refine ⟨c, M, e0, s, q.imp fun d M1 H1 e1 s1 x1 k1 h1 v r => ?_⟩
  exact (after_mk (fI := fI) E.cls E.no (h1 v r)).2
/-- the value of the error that a suite holds -/
def tVal (K : PySem.W.Frag) (mg : Str → Option Value) (i : Nat) (a : Addr) (cls : Value) (d : Option Addr) : TE := fun σ H Q => σ[i]? = some (some (.ref a)) ∧ ∃ (Cl fI dd : Addr) (cn : Str) (v : V), cls = .ref Cl ∧ ErrC K mg fI cn Cl ∧ d = some dd ∧ H dd = some (.xd [(("value" : Str), v)]) ∧ Q v H
theorem pe_val {a : Addr} {oe : Obj} {cls : Value} {d : Option Addr} {pn : List (Addr × Obj)} {i : Nat} {n : Str} {p p2 : Pos} (hz : Zc cls d oe) (hf : ∃ vs, oe.data = .fields vs) (he : PE (X.suite a ((a, oe) :: pn)) (.Name n p) (tVar i)) :
    PE (X.suite a ((a, oe) :: pn)) (.Attribute (.Name n p) ("value" : Str) p2) (tVal X.K X.mg i a cls d) := by
  constructor
  intro pins s σ H Q I h
  obtain ⟨hi, Cl, fI, dd, cn, v, rfl, E, rfl, hx, q⟩ := h
  refine attr_of rfl (thn (he.run pins s σ H (fun u H1 => u = .ref a ∧ H1 = H) I ⟨_, hi, rfl, rfl⟩) fun u t ⟨x, H1, J, rx, e1, e2⟩ => ?_)
  subst e1
  subst e2
  cases (show u = Value.ref a from rx)
  have ha := (J.pin (a, oe) (List.mem_append_left _ (.head _))).1
  obtain ⟨vs, hd⟩ := hf
  obtain ⟨mA, hns, hr⟩ := (show ObjOk X.prog X.w _ t.heap dd (.xd [(("value" : Str), v)]) from J.hok dd _ hx)
  obtain ⟨od, ho, hl⟩ := lookIn_ns hns
  obtain ⟨w, hw, rw'⟩ := RelO.some_of (v := v) (o := mA "value") (by have := hr "value"; simpa [List.lookup] using this)
  exact HandSPX.exc_get J.kIn (ox := oe) ⟨ha, hz.1, by unfold PySem.W.notCls; rw [hd] <;> rfl, by rw [hz.2]; exact ho⟩ E.ga E.gg E.cls.exC (PySem.W.findObj_own E.hd E.no rfl (by rw [hl, hw])) (handed_of rw') ⟨v, _, J.tok _, rw', q⟩
end
/-- the errors that a table knows -/
structure ErrT (T : Tb) (CX : CXT) (X : Cx) : Prop where
  er : ∀ cn, T.errs.contains cn = true → ∃ (fI : Addr) (fd : FuncData) (Cl : Addr), ErrC X.K X.mg fI cn Cl ∧ PySem.W.typeIn X.K (.ref fI) = some (.type "function") ∧ FnOk X.prog X.w X.K X.mg X.base CX 1 fI fd NI (spI X.K) ∧ Binds X.K fd NI [] ∧ (∀ (s : Shared) (a u : Value), BindsTo s fd ⟨[a], [(("value" : Str), u)]⟩ (NI.zip [a, u]))
  ex : ∀ cn c, T.errs.contains cn = true → T.errs.contains c = true → ∃ Cn Cc : Addr, X.mg cn = some (.ref Cn) ∧ X.mg c = some (.ref Cc) ∧ PySem.W.exmOne X.K (.ref Cn) (.ref Cc) = some (catches c cn)
end Ev

set_option Elab.async false
set_option linter.all false
set_option maxRecDepth 100000
set_option maxHeartbeats 2000000
/-! a try with clauses that each name their error -/
namespace Ev
open PySem L2 PySem.Spec PyProof.Rows
/-- the word of a suite, the slot of whose error is emptied behind it -/
def offI (D : Ends) (i : Nat) : Ends := { nx := fun τ K => D.nx (τ.set i none) K, rt := D.rt, bk := fun τ K => D.bk (τ.set i none) K, ct := fun τ K => D.ct (τ.set i none) K }
/-- .. and the error is kept -/
def onI (D : Ends) (i : Nat) (a : Addr) (o : HO) : Ends := { nx := fun τ K => D.nx (τ.set i none) (upd K a o), rt := D.rt, bk := fun τ K => D.bk (τ.set i none) K, ct := fun τ K => D.ct (τ.set i none) K }
abbrev Cl3 := Value × Nat × Bool × (Addr → Value → Option Addr → TS)
def wCl (K : PySem.W.Frag) (Wout : WX) (D : Ends) : List Cl3 → WX
  | [] => Wout
  | q :: r => fun cls d σ H => ∃ b, PySem.W.exmOne K cls q.1 = some b ∧
      (b = true → ∀ a, H a = none → q.2.2.2 a cls d (if q.2.2.1 = true then onI D q.2.1 a (ExE cls d a) else offI D q.2.1) (σ.set q.2.1 (some (.ref a))) H) ∧ (b = false → wCl K Wout D r cls d σ H)
section
variable {X : Cx} {pins : List (Addr × Obj)} {σ : L2.St} {H : Hp} {a : Addr} {cls : Value} {d : Option Addr} {s : Shared} {W : WX} {D : Ends}
/-- an error that has come down to this frame -/
structure Here (X : Cx) (pins : List (Addr × Obj)) (σ : L2.St) (H : Hp) (a : Addr) (cls : Value) (d : Option Addr) (s : Shared) : Prop where
  ok : X.Ok
  na : H a = none
  st : ∃ (B : Heap) (t : Shared), Inv X pins σ H t ∧ (∀ b o, t.heap.get? b = some o → b ∉ frs X.stack → B.get? b = some o) ∧ t.heap.UpToSlots s.heap ∧ HandSPX.FlyingZ B X.stack a (Zc cls d) s.heap ∧ s.os = t.os ∧ AllBare s.gens
theorem Here.inv (h : Here X pins σ H a cls d s) : Inv X pins σ H s := by
  obtain ⟨B, t, J, nb, up, fl, o, g⟩ := h.st
  exact J.landed nb fl.1 up o g
theorem Here.thing (h : Here X pins σ H a cls d s) : ∃ oe vs, s.heap.get? a = some oe ∧ Zc cls d oe ∧ oe.data = .fields vs := by
  obtain ⟨B, t, J, nb, up, fl, o, g⟩ := h.st
  exact fl.there
/-- no frame's own -/
theorem Here.off (h : Here X pins σ H a cls d s) : a ∉ frs X.stack := fun m => by
  obtain ⟨B, t, J, nb, up, fl, o, g⟩ := h.st
  obtain ⟨oe, vs, e1, _, e2⟩ := fl.there
  obtain ⟨_, ob, e3, no⟩ := fl.2.2.1.mem m
  rw [e1] at e3
  cases e3
  exact no vs e2
theorem Here.off2 (h : Here X pins σ H a cls d s) (hs : X.stack = X.env :: X.outer) (hf : X.env.frame = some X.env.locals) : a ≠ X.env.locals ∧ a ∉ X.fs := by
  have o := h.off
  rw [hs] at o
  refine ⟨fun z => o (List.mem_filterMap.mpr ⟨X.env, .head _, by rw [hf, z]⟩), fun m => ?_⟩
  obtain ⟨e, he, q⟩ := List.mem_filterMap.mp m
  exact o (List.mem_filterMap.mpr ⟨e, .tail _ he, q⟩)
theorem Here.more (h : Here X pins σ H a cls d s) {M : Model} {A : Around} {E : Value → Shared → Prop} {Q : Unit → Shared → Prop} (q : ∀ s', Here X pins σ H a cls d s' → Q () s') : wpAny M A (setFlight (.ref a) none) Q E s := by
  obtain ⟨B, t, J, nb, up, fl, o, g⟩ := h.st
  exact HandSPX.lands_againZ fl fun k fk uk => q _ ⟨h.ok, h.na, B, t, J, nb, up.trans uk, fk, o, g⟩
/-- it goes on out -/
theorem Here.out (h : Here X pins σ H a cls d s) (hs : X.stack = X.env :: X.outer) (hf : X.env.frame = some X.env.locals) (tk : Takes X W) (w : W cls d σ H) {Q : Flow → Shared → Prop} {msg : String} :
    wpAny (model X.prog X.w) X.A (passOn msg (.ref a) X.env) Q X.xe s := by
  obtain ⟨B, t, J, nb, up, fl, o, g⟩ := h.st
  have last : wpAny (model X.prog X.w) X.A (setFlight (.ref a) X.env.frame) (fun _ s4 => wpAny (model X.prog X.w) X.A (throw (.ref a) : Sem Flow) Q X.xe s4) X.xe s := by
    rw [hf]
    exact HandSPX.setFlight_upZ fl fun k hk uk => wpAny_throw (tk _ _ ⟨a, B, t, pins, σ, H, cls, d, rfl, J, nb, up.trans uk, .inr (.inr hk), h.na, o, g, w⟩)
  obtain ⟨_, _, _, oe, vs, T, oT, ts, e1, e2, e3, e4, _⟩ := id fl
  have nn : ¬ ((Value.ref T == Value.none) = true) := by simp
  unfold PySem.passOn
  exact wpAny_bind (wpAny_field e1 e3 e4 (by rw [if_neg nn]; first | exact wpAny_bind (wpAny_pure (wpAny_bind last)) | exact wpAny_bind last))
/-- an object that was not told of is told of from here on -/
theorem adopt {o : HO} (I : Inv X pins σ H s) (new : ObjOk X.prog X.w (upd H a o) s.heap a o) (hn : H a = none) (h0 : X.s_0.heap.get? a = none) (hL : a ≠ X.env.locals) (hc : ∀ x c, X.env.cells.lookup x = some c → c ≠ a) (hp : ∀ p ∈ X.pn ++ pins, p.1 ≠ a) : Inv X pins σ (upd H a o) s := by
  have n0 : ∀ b u, X.s_0.heap.get? b = some u → b ≠ a := fun b u e z => by rw [z, h0] at e; cases e
  refine ⟨I.ok, I.os, I.bare, ⟨fun b u e n hb hx => I.base.keep b u e n hb hx, fun b u e n hb hx => I.base.slot b u e n hb hx, fun b u e n hx => ?_, I.base.there, fun b xs e => ?_, fun b u v e => ?_, fun b ps e => ?_⟩, I.loc, I.cell, ?_, fun x c e => ?_, fun p hq => ?_, I.hok.laidN (fun _ _ q => q) hn new, I.len⟩
  · rw [upd_ne (n0 b u e)]
    exact I.base.free b u e n hx
  · have q := I.base.tups b xs e
    rw [upd_ne (ne_of_none q hn)]
    exact q
  · have q := I.base.frzs b u v e
    rw [upd_ne (ne_of_none q hn)]
    exact q
  · obtain ⟨m, q⟩ := I.base.tbls b ps e
    exact ⟨m, by rw [upd_ne (ne_of_none q hn)]; exact q⟩
  · rw [upd_ne (Ne.symm hL)]
    exact I.free
  · rw [upd_ne (hc x c e)]
    exact I.freeC x c e
  · obtain ⟨e1, e2, e3⟩ := I.pin p hq
    exact ⟨e1, by rw [upd_ne (hp p hq)]; exact e2, e3⟩
theorem Here.fresh (h : Here X pins σ H a cls d s) (hx : X.ex = []) : X.s_0.heap.get? a = none ∧ ∀ p ∈ X.pn ++ pins, p.1 ≠ a := by
  have off := h.off
  obtain ⟨B, t, J, nb, up, fl, o, g⟩ := h.st
  have tn : t.heap.get? a = none := by
    cases e : t.heap.get? a with
    | none => rfl
    | some o =>
      have q := nb a o e off
      rw [fl.2.1] at q
      cases q
  refine ⟨?_, fun p hp z => ?_⟩
  · cases e : X.s_0.heap.get? a with
    | none => rfl
    | some o =>
      obtain ⟨o', e'⟩ := J.base.there a o e (by rw [hx]; exact fun z => nomatch z)
      rw [tn] at e'
      cases e'
  · have e := (J.pin p hp).1
    rw [z, tn] at e
    cases e
/-- a clause's word stands in the text -/
inductive ClOk (X : Cx) : List ExceptHandler → List Cl3 → Prop
  | nil : ClOk X [] []
  | cons {x n : Str} {q : Cl3} {b₀ : Stmt} {bs : List Stmt} {p p' : Pos} {hds : List ExceptHandler} {l : List Cl3} (nm : Names X x q.1) (at_ : X.N[q.2.1]? = some n) (lc : X.env.kindOf n = some .local)
      (su : ∀ (a : Addr) (oe : Obj) (cls : Value) (d : Option Addr) (pn : List (Addr × Obj)), Zc cls d oe → (∃ vs, oe.data = .fields vs) → PSs (X.suite a ((a, oe) :: pn)) (b₀ :: bs) (q.2.2.2 a cls d)) (r : ClOk X hds l) :
      ClOk X (.ExceptHandler (some (.Name x p)) (some n) (b₀ :: bs) p' :: hds) (q :: l)
theorem Here.pick (hex : X.ex = []) (hs : X.stack = X.env :: X.outer) (hf : X.env.frame = some X.env.locals) (hN : X.N.Nodup) (tk : Takes X W) : ∀ {hds : List ExceptHandler} {l : List Cl3} {s : Shared}, ClOk X hds l → Here X pins σ H a cls d s → wCl X.K W D l cls d σ H →
    wpAny (model X.prog X.w) X.A (handleBy (.ref a) X.env hds) (SP X pins D) X.xe s
  | _, _, s, .nil, h, w => wpAny_handleBy_nil (h.out hs hf tk w)
  | _, _, s, .cons (x := x) (n := n) (q := q) (p := p) (p' := p') (hds := hds) (l := l) nm at_ lc su r, h, w => by
    obtain ⟨b, m, yes, no⟩ := w
    obtain ⟨oe, vs, e1, e2, e3⟩ := h.thing
    obtain ⟨o1, o2⟩ := h.off2 hs hf
    have typ : PySem.W.Looks (model X.prog X.w) s.heap (typeOf (.ref a)) cls := fun A Q E t k z => wpAny_typeOf_ref (k _ _ e1) (by rw [e2.1]; exact z)
    have said : wpAny (model X.prog X.w) (X.A.mark (some (.ref a))) (eval (.Name x p) X.env) (fun c t => c = q.1 ∧ t = s) (fun _ _ => False) s := by
      obtain ⟨g1, g2, g3⟩ := nm
      have S := h.inv.suite e1 e3 h.na o1 o2
      rcases g3 with g3 | ⟨g3, g4, g5⟩
      · exact ld_glob (X := X.suite a ((a, oe) :: (X.pn ++ pins))) S g1 g3 ⟨rfl, rfl⟩ g2
      · exact ld_blt (X := X.suite a ((a, oe) :: (X.pn ++ pins))) S g1 g3 g4 ⟨rfl, rfl⟩ g5 g2
    refine wpAny_handleBy_cons (codeAny_handlers_test (wpAny_mono said (fun c t z => ?_) fun _ _ z => z.elim)) (fun z => by cases z)
    obtain ⟨z1, z2⟩ := z
    subst z1
    subst z2
    refine (PySem.W.exm_one (M := model X.prog X.w) h.inv.kIn typ m).here ?_
    cases b with
    | false => exact Here.pick hex hs hf hN tk r h (no rfl)
    | true =>
      refine codeAny_handlers_suite_as (h.more fun t ht => ?_)
      obtain ⟨oe2, vs2, e4, e5, e6⟩ := ht.thing
      have S := ht.inv.suite e4 e6 ht.na o1 o2
      refine store_ok (X := X.suite a ((a, oe2) :: (X.pn ++ pins))) (v := .ref a) S hN at_ (.inl lc) rfl (fun t2 S2 => wpAny_mono ((su a oe2 cls d (X.pn ++ pins) e5 ⟨_, e6⟩).run [] t2 _ H _ S2 (yes rfl a ht.na)) (fun f t3 z => ?_) fun _ _ z => z.elim) (.inr lc)
      have fin : ∀ {τ : L2.St} {G : Hp} {R : Shared → Prop}, Inv (X.suite a ((a, oe2) :: (X.pn ++ pins))) [] τ G t3 → (∀ t4, Inv X pins (τ.set q.2.1 none) G t4 → R t4) → wpAny (model X.prog X.w) X.A (do bindName X.env n .none; unbindBehindTheSuite X.env n p') (fun _ t4 => R t4) X.xe t3 := fun S3 k =>
        gone_ok (S3.unsuite h.ok) hN at_ lc k
      have fr := ht.fresh hex
      have keep : ∀ {τ : L2.St} {G : Hp} {R : Shared → Prop}, Inv (X.suite a ((a, oe2) :: (X.pn ++ pins))) [] τ G t3 → (∀ t4, Inv X pins (τ.set q.2.1 none) (upd G a (ExE cls d a)) t4 → R t4) → wpAny (model X.prog X.w) X.A (do bindName X.env n .none; unbindBehindTheSuite X.env n p') (fun _ t4 => R t4) X.xe t3 := fun {τ G R} S3 k => by
        obtain ⟨g1, g2, _⟩ := S3.pin (a, oe2) (List.mem_append.mpr (.inl List.mem_cons_self))
        have I3 := S3.unsuite h.ok
        refine gone_ok (adopt I3 (exE_ok g1 e5 e6) g2 fr.1 o1 (fun x c e z => ?_) fr.2) hN at_ lc k
        obtain ⟨v, oc, hoc, hd⟩ := I3.cell x c e
        rw [z, g1] at hoc
        cases hoc
        rw [e6] at hd
        cases hd
      cases f with
      | next =>
        obtain ⟨τ, G, S3, k⟩ := z
        split at k
        · exact keep S3 fun t4 I4 => ⟨_, _, I4, k⟩
        · exact fin S3 fun t4 I4 => ⟨_, _, I4, k⟩
      | brk =>
        obtain ⟨τ, G, S3, k⟩ := z
        split at k <;> exact fin S3 fun t4 I4 => ⟨_, _, I4, k⟩
      | cont =>
        obtain ⟨τ, G, S3, k⟩ := z
        split at k <;> exact fin S3 fun t4 I4 => ⟨_, _, I4, k⟩
      | ret u =>
        obtain ⟨v, τ, G, S3, rv, k⟩ := z
        split at k <;> exact fin S3 fun t4 I4 => ⟨_, _, _, I4, rv, k⟩
/-- try: body except C1 as n1: .. except C2 as n2: .. -/
theorem ps_tryN {body : List Stmt} {h₀ : ExceptHandler} {hds : List ExceptHandler} {l : List Cl3} {pos : Pos} {tb : WX → TS} (hex : X.ex = []) (hs : X.stack = X.env :: X.outer) (hf : X.env.frame = some X.env.locals) (hN : X.N.Nodup) (tk : Takes X W) (hh : ClOk X (h₀ :: hds) l)
    (hb : ∀ (V : WX) (pn : List (Addr × Obj)) (xe : Value → Shared → Prop), Takes (X.tr pn xe) V → PassesOwn (model X.prog X.w) X.A X.env xe → PSs (X.tr pn xe) body (tb V)) :
    PS X (.Try body (h₀ :: hds) [] [] pos) (fun D σ H => tb (wCl X.K W D l) D σ H) := by
  constructor
  intro pins s σ H D I h
  have inner := hb (wCl X.K W D l) (X.pn ++ pins) (fun e t => wpAny (model X.prog X.w) X.A (noteFrame e X.env) (fun _ t2 => wpAny (model X.prog X.w) X.A (setFlight e none) (fun _ t3 => wpAny (model X.prog X.w) X.A (handleBy e X.env (h₀ :: hds)) (SP X pins D) X.xe t3) X.xe t2) X.xe t)
    (fun u t x => by
      obtain ⟨a, B, t0, pins', τ, G, cls, d, rfl, J, nb, up, sky, na, o, g, w⟩ := x
      have I' := J.ofTry I.ok
      refine Sky.land Zc.steady (by rw [I.ok.frames, hs]) hf (by rw [← hs]; exact sky) fun k fk uk => ?_
      rw [← hs] at fk
      exact Here.pick hex hs hf hN tk hh ⟨I.ok, na, B, t0, I', nb, up.trans uk, fk, o, g⟩ w) PassesOwn.looking
  refine wpAny_Try_except (wpAny_mono (inner.run [] s σ H D (I.toTry _) h) (fun f t z => ?_) fun _ _ z => z)
  cases f with
  | next => obtain ⟨τ, G, J, k⟩ := z; exact wpAny_execs_nil ⟨τ, G, J.ofTry I.ok, k⟩
  | brk => obtain ⟨τ, G, J, k⟩ := z; exact ⟨τ, G, J.ofTry I.ok, k⟩
  | cont => obtain ⟨τ, G, J, k⟩ := z; exact ⟨τ, G, J.ofTry I.ok, k⟩
  | ret u => obtain ⟨v, τ, G, J, rv, k⟩ := z; exact ⟨v, τ, G, J.ofTry I.ok, rv, k⟩
end
end Ev

set_option Elab.async false
set_option linter.all false
set_option maxHeartbeats 8000000
set_option maxRecDepth 100000
/-! statements: readings -/
namespace Ev
open PySem L2 PySem.Spec

structure Fx (M : Addr → Prop) (H : Hp) (M' : Addr → Prop) (H' : Hp) : Prop where
  f1 : ∀ b x, H b = some x → ¬ M b → H' b = some x
  f2 : ∀ b, M' b → M b ∨ H b = none
  f5 : ∀ b, H b ≠ none → H' b ≠ none
theorem Fx.refl {M : Addr → Prop} {H : Hp} : Fx M H M H := ⟨fun _ _ h _ => h, fun _ h => .inl h, fun _ h => h⟩
theorem Fx.trans {M M1 M2 : Addr → Prop} {H H1 H2 : Hp} (x : Fx M H M1 H1) (y : Fx M1 H1 M2 H2) : Fx M H M2 H2 where
  f1 := fun b z h m => y.f1 b z (x.f1 b z h m) fun q => by
    rcases x.f2 b q with r | r
    · exact m r
    · rw [r] at h; cases h
  f2 := fun b h => by
    rcases y.f2 b h with q | q
    · exact x.f2 b q
    · cases z : H b with
      | none => exact .inr rfl
      | some o => exact absurd q (x.f5 b (by rw [z]; exact fun w => nomatch w))
  f5 := fun b h => y.f5 b (x.f5 b h)
theorem Ext.fx {K : PySem.W.Frag} {c : C} {σ : L2.St} {M M' : Addr → Prop} {H H' : Hp} {e e' : Fm} (s : Sr K c M σ H e) (x : Ext σ M H e M' H' e') : Fx M H M' H' :=
  ⟨fun b z h m => x.e1 b z h fun w => m (s.wr w), x.e2, x.e5⟩
def RetR (K : PySem.W.Frag) (c : C) (M' : Addr → Prop) (H' : Hp) (fr : Bool) (d : D) (v : V) : Prop :=
  if fr = true then ∃ a, v = .ref a ∧ M' a ∧ Top K M' H' d a ∧ c.H0 a = none else Rel K M' H' d v
/-- where a statement ends -/
def Es (g : G) (c : C) (M : Addr → Prop) (H : Hp) (r : SR) (D : Ends) : Prop :=
  match r with
  | .next e' => ∀ M' σ' H', Sr g.K c M' σ' H' e' → Fx M H M' H' → D.nx σ' H'
  | .ret fr d e' => ∀ M' σ' H' v, Sr g.K c M' σ' H' e' → Fx M H M' H' → RetR g.K c M' H' fr d v → D.rt v H'
  | .brk e' => ∀ M' σ' H', Sr g.K c M' σ' H' e' → Fx M H M' H' → D.bk σ' H'
  | .cnt e' => ∀ M' σ' H', Sr g.K c M' σ' H' e' → Fx M H M' H' → D.ct σ' H'
  | .exc cn d e' => ∀ M' σ' H' cls dd, Sr g.K c M' σ' H' e' → Fx M H M' H' → XRel g M' H' cn d cls dd → g.W cls dd σ' H'
  | .stuck => False
def tS (g : G) (p : Fm → SR) : TS := fun D σ H => ∃ c M e, Sr g.K c M σ H e ∧ Es g c M H (p e) D
section
variable {α : Type} {g : G} {c : C} {σ : L2.St} {M : Addr → Prop} {H : Hp} {e : Fm}
theorem Es.move {r : SR} {D : Ends} {M' : Addr → Prop} {H' : Hp} (h : Es g c M H r D) (x : Fx M H M' H') : Es g c M' H' r D := by
  cases r with
  | next e' => exact fun M2 σ2 H2 s2 x2 => h M2 σ2 H2 s2 (x.trans x2)
  | ret fr d e' => exact fun M2 σ2 H2 v s2 x2 q => h M2 σ2 H2 v s2 (x.trans x2) q
  | brk e' => exact fun M2 σ2 H2 s2 x2 => h M2 σ2 H2 s2 (x.trans x2)
  | cnt e' => exact fun M2 σ2 H2 s2 x2 => h M2 σ2 H2 s2 (x.trans x2)
  | exc cn d e' => exact fun M2 σ2 H2 cls dd s2 x2 q => h M2 σ2 H2 cls dd s2 (x.trans x2) q
  | stuck => exact h
theorem Es.of {p : Ev.M α} {f : α → Fm → SR} {D : Ends} (s : Sr g.K c M σ H e) (h : Es g c M H (SR.of (p e) f) D) : Ok g c σ M H e (p e) fun a M1 H1 e1 => Es g c M1 H1 (f a e1) D := by
  cases hp : p e with
  | ok a e1 =>
    rw [hp] at h
    exact fun M1 H1 s1 x1 k1 => Es.move h (x1.fx s)
  | exc cn d e1 =>
    rw [hp] at h
    exact fun M1 H1 cls dd s1 x1 k1 q => h M1 σ H1 cls dd s1 (x1.fx s) q
  | stuck => rw [hp] at h; exact h
theorem Es.opt {o : Option Fm} {D : Ends} (h : Es g c M H (SR.opt o) D) : ∃ e', o = some e' ∧ ∀ M' σ' H', Sr g.K c M' σ' H' e' → Fx M H M' H' → D.nx σ' H' := by
  cases o with
  | none => exact h.elim
  | some e' => exact ⟨e', rfl, h⟩
/-- an operand is stored in a slot -/
theorem putO_ok (s : Sr g.K c M σ H e) {o : Opd} {v : V} (r : OR g.K c M σ H e o v) {i : Nat} {e' : Fm} (h : putO e i o = some e') : ∃ M', Sr g.K c M' (σ.set i (some v)) H e' ∧ ∀ b, M' b → M b := by
  cases o with
  | val d => exact ⟨M, s.setV h r, fun _ q => q⟩
  | fresh d =>
    obtain ⟨a, rfl, h2, h3, h4, h5⟩ := r
    simp only [putO, Ev.setV] at h
    split at h
    · cases h
    · rename_i t _ hq
      cases h
      exact ⟨M, s.put (List.getElem?_eq_some_iff.mp hq).1 ⟨rfl, a, rfl, h2, h3, h4, fun j hj l d' z1 z2 => h5 ⟨j, l, d', z1, z2⟩⟩, fun _ q => q⟩
    · cases h
  | slot j =>
    obtain ⟨h1, t, h2, h3⟩ := r
    simp only [putO, h2] at h
    cases t with
    | un => exact absurd rfl h3
    | val d =>
      obtain ⟨w, h4, h5⟩ := s.val j d h2
      rw [h1] at h4
      cases h4
      exact ⟨M, s.setV h h5, fun _ q => q⟩
    | own l d =>
      cases l with
      | true => cases h
      | false =>
        obtain ⟨a, h4, h5, h6, _⟩ := s.own j false d h2
        rw [h1] at h4
        cases h4
        obtain ⟨q1, q2, q3, q4⟩ := s.freeze h2 h1
        exact ⟨_, q1.setV h q3, fun b q => q.1⟩
theorem set_rd {p : Ev.M Opd} {i : Nat} {D : Ends} (h : tS g (fun e => SR.of (p e) fun o e1 => SR.opt (putO e1 i o)) D σ H) : tAsg (tE g p) (gName i) D σ H := by
  obtain ⟨c, M, e, s, h⟩ := h
  refine ⟨c, M, e, s, (Es.of s h).imp fun o M1 H1 e1 s1 x1 k1 h1 v r f => ?_⟩
  obtain ⟨e2, ho, h2⟩ := Es.opt h1
  obtain ⟨M2, s2, l2⟩ := putO_ok s1 r ho
  exact h2 M2 _ H1 s2 ⟨fun _ _ h _ => h, fun b q => .inl (l2 b q), fun _ h => h⟩
theorem unp_rd {p : Ev.M Opd} {is : List Nat} {D : Ends} (h : tS g (fun e => SR.of (tk p e) fun d e1 => SR.opt (bindTg (.tp is) d e1)) D σ H) : tAsg (tD g (tk p)) (gT g.K (.tp is)) D σ H := by
  obtain ⟨c, M, e, s, h⟩ := h
  refine ⟨c, M, e, s, (Es.of s h).imp fun d M1 H1 e1 s1 x1 k1 h1 v r => ?_⟩
  obtain ⟨e2, ho, h2⟩ := Es.opt h1
  exact bind_ok s1 ho (.inl r) fun σ' s' _ _ _ _ => h2 M1 σ' H1 s' .refl
/-! ### several stores at once -/
def XR (K : PySem.W.Frag) (c : C) (M : Addr → Prop) (σ : L2.St) (H : Hp) (e : Fm) (Hs : Hp) (o : Opd) (v : V) : Prop :=
  (∃ d, o = .val d ∧ Rel K M H d v) ∨ ∃ d a, o = .fresh d ∧ v = .ref a ∧ M a ∧ Top K M H d a ∧ c.H0 a = none ∧ ¬ Wr σ e a ∧ Hs a = none
def XRs (K : PySem.W.Frag) (c : C) (M : Addr → Prop) (σ : L2.St) (H : Hp) (e : Fm) (Hs : Hp) : List Opd → List V → Prop
  | [], vs => vs = []
  | o :: os, vs => ∃ v r, vs = v :: r ∧ XR K c M σ H e Hs o v ∧ XRs K c M σ H e Hs os r
/-- the places of the new lists -/
def newAs : List Opd → List V → List Addr
  | .fresh _ :: os, .ref a :: vs => a :: newAs os vs
  | _ :: os, _ :: vs => newAs os vs
  | _, _ => []
def tXs (g : G) (p : Ev.M (List Opd)) : TA := fun σ H Q => ∃ c M e, Sr g.K c M σ H e ∧
  Ok g c σ M H e (p e) fun os M' H' e' => ∀ vs, XRs g.K c M' σ H' e' H os vs → (newAs os vs).Nodup → Q vs H'
theorem XRs.mem {K : PySem.W.Frag} {Hs : Hp} : ∀ {os : List Opd} {vs : List V} {a : Addr}, XRs K c M σ H e Hs os vs → a ∈ newAs os vs → M a ∧ Hs a = none ∧ c.H0 a = none ∧ ¬ Wr σ e a ∧ H a ≠ none
  | [], vs, a, r, h => by cases vs <;> simp [newAs] at h
  | o :: os, vs, a, r, h => by
    obtain ⟨v, rs, rfl, q, t⟩ := r
    rcases q with ⟨d, rfl, q⟩ | ⟨d, b, rfl, rfl, h1, h2, h3, h4, h5⟩
    · have : newAs (.val d :: os) (v :: rs) = newAs os rs := by cases v <;> rfl
      rw [this] at h
      exact XRs.mem t h
    · simp only [newAs, List.mem_cons] at h
      rcases h with rfl | h
      · refine ⟨h1, h5, h3, h4, ?_⟩
        cases d with
        | list ds => obtain ⟨vs, z, _⟩ := h2; rw [z]; exact fun w => nomatch w
        | _ => exact h2.elim
      · exact XRs.mem t h
theorem XRs.ext {M' : Addr → Prop} {H' : Hp} {e' : Fm} (s : Sr g.K c M σ H e) (x : Ext σ M H e M' H' e') {Hs Ht : Hp} (hh : ∀ a, Hs a = none → Ht a = none) : ∀ {os : List Opd} {vs : List V}, XRs g.K c M σ H e Hs os vs → XRs g.K c M' σ H' e' Ht os vs
  | [], vs, r => r
  | o :: os, vs, r => by
    obtain ⟨v, rs, rfl, q, t⟩ := r
    refine ⟨v, rs, rfl, ?_, XRs.ext s x hh t⟩
    rcases q with ⟨d, rfl, q⟩ | ⟨d, b, rfl, rfl, h1, h2, h3, h4, h5⟩
    · exact .inl ⟨d, rfl, s.rel x q⟩
    · exact .inr ⟨d, b, rfl, rfl, x.e3 _ h1 h4, s.top x h4 h2, h3, fun w => h4 (x.e4 _ w), hh _ h5⟩
theorem xs_nil {Q : List V → Hp → Prop} (h : tXs g (Ev.M.pure []) σ H Q) : tNil σ H Q := by
  obtain ⟨c, M, e, s, h⟩ := h
  exact h M H s .refl .refl [] rfl .nil
theorem xs_cons {p : Ev.M Opd} {q : Ev.M (List Opd)} {Q : List V → Hp → Prop} (h : tXs g (p.bind fun x => (takeX x).bind fun x => q.bind fun os => Ev.M.pure (x :: os)) σ H Q) : tCons (tE g p) (tXs g q) σ H Q := by
  obtain ⟨c, M, e, s, h⟩ := h
  have old : ∀ {M1 : Addr → Prop} {H1 : Hp} {e1 : Fm}, Ext σ M H e M1 H1 e1 → ∀ a, H1 a = none → H a = none := fun x a q => by
    cases y : H a with
    | none => rfl
    | some u => exact absurd q (x.e5 a (by rw [y]; exact fun w => nomatch w))
  -- the operand, taken unless it is new
  have step : Ok g c σ M H e (p e) fun o M1 H1 e1 => ∀ v, OR g.K c M1 σ H1 e1 o v → Fr H o v → ∃ o' M2 e2, Sr g.K c M2 σ H1 e2 ∧ XR g.K c M2 σ H1 e2 H o' v ∧ Ext σ M H e M2 H1 e2 ∧ Keeps e e2 ∧
      Ok g c σ M2 H1 e2 (Ev.M.bind q (fun os => Ev.M.pure (o' :: os)) e2) fun os M' H' e' => ∀ vs, XRs g.K c M' σ H' e' H os vs → (newAs os vs).Nodup → Q vs H' := by
    unfold Ev.M.bind at h
    cases hp : p e with
    | stuck => rw [hp] at h; exact h.elim
    | exc cn d e1 => rw [hp] at h; exact h
    | ok o e1 =>
      rw [hp] at h
      simp only at h
      intro M1 H1 s1 x1 k1 v r f
      have go : ∀ {o' : Opd} {e2 : Fm} {M2 : Addr → Prop}, takeX o e1 = .ok o' e2 → Sr g.K c M2 σ H1 e2 → Ext σ M H e M2 H1 e2 → Keeps e e2 →
          Ok g c σ M2 H1 e2 (Ev.M.bind q (fun os => Ev.M.pure (o' :: os)) e2) fun os M' H' e' => ∀ vs, XRs g.K c M' σ H' e' H os vs → (newAs os vs).Nodup → Q vs H' := by
        intro o' e2 M2 ht s2 x2 k2
        rw [ht] at h
        simp only at h
        unfold Ev.M.bind
        cases hq : q e2 with
        | stuck => rw [hq] at h; exact h
        | exc cn d e3 => rw [hq] at h; exact fun M3 H3 cls dd s3 x3 k3 => h M3 H3 cls dd s3 (x2.trans x3) (k2.trans k3)
        | ok os e3 => rw [hq] at h; exact fun M3 H3 s3 x3 k3 => h M3 H3 s3 (x2.trans x3) (k2.trans k3)
      cases o with
      | fresh d =>
        obtain ⟨a, rfl, h2, h3, h4, h5⟩ := r
        exact ⟨.fresh d, M1, e1, s1, .inr ⟨d, a, rfl, rfl, h2, h3, h4, h5, f a rfl⟩, x1, k1, go rfl s1 x1 k1⟩
      | val d => exact ⟨.val d, M1, e1, s1, .inl ⟨d, rfl, r⟩, x1, k1, go rfl s1 x1 k1⟩
      | slot i =>
        cases ht : take (.slot i) e1 with
        | stuck =>
          have : takeX (.slot i) e1 = .stuck := by simp only [takeX, Ev.M.map, Ev.M.bind, ht]
          rw [this] at h; exact h.elim
        | exc cn d e2 => exact absurd ht take_exc
        | ok d e2 =>
          obtain ⟨M2, s2, x2, k2, rd⟩ := s.take s1 x1 r f ht
          have : takeX (.slot i) e1 = .ok (.val d) e2 := by simp only [takeX, Ev.M.map, Ev.M.bind, ht]; rfl
          exact ⟨.val d, M2, e2, s2, .inl ⟨d, rfl, rd⟩, x2, k1.trans k2, go this s2 x2 (k1.trans k2)⟩
  refine ⟨c, M, e, s, step.imp fun o1 M1 H1 e1 s1 x1 k1 h1 v1 r1 f1 => ?_⟩
  obtain ⟨o', M2, e2, s2, xr, x2, k2, h2⟩ := h1 v1 r1 f1
  refine ⟨c, M2, e2, s2, (Ok.bind h2).imp fun os M3 H3 e3 s3 x3 k3 h3 vs rs nd => ?_⟩
  refine h3 M3 H3 s3 .refl .refl (v1 :: vs) ⟨v1, vs, rfl, ?_, rs.ext s3 .refl (old x2)⟩ ?_
  · rcases xr with ⟨d, rfl, q⟩ | ⟨d, b, rfl, rfl, z1, z2, z3, z4, z5⟩
    · exact .inl ⟨d, rfl, s2.rel x3 q⟩
    · exact .inr ⟨d, b, rfl, rfl, x3.e3 _ z1 z4, s2.top x3 z4 z2, z3, fun w => z4 (x3.e4 _ w), z5⟩
  · rcases xr with ⟨d, rfl, q⟩ | ⟨d, b, rfl, rfl, z1, z2, z3, z4, z5⟩
    · have : newAs (.val d :: os) (v1 :: vs) = newAs os vs := by cases v1 <;> rfl
      rw [this]; exact nd
    · refine List.nodup_cons.mpr ⟨fun q => ?_, nd⟩
      exact s2.mh b z1 (rs.mem q).2.1
def stO : List Nat → List V → L2.St → L2.St
  | i :: is, v :: vs, σ => stO is vs (σ.set i (some v))
  | _, _, σ => σ
theorem gTs_of : ∀ {is : List Nat} {vs : List V} {σ : L2.St} {H : Hp} {Q : L2.St → Hp → Prop}, is.length = vs.length → Q (stO is vs σ) H → gTs is vs σ H Q
  | [], [], σ, H, Q, _, q => ⟨rfl, q⟩
  | [], _ :: _, σ, H, Q, h, _ => by cases h
  | _ :: _, [], σ, H, Q, h, _ => by cases h
  | i :: is, v :: vs, σ, H, Q, h, q => ⟨v, vs, rfl, gTs_of (Nat.succ.inj h) q⟩
theorem putOs_ok {Hs : Hp} : ∀ {is : List Nat} {os : List Opd} {vs : List V} {σ : L2.St} {e e' : Fm}, Sr g.K c M σ H e → XRs g.K c M σ H e Hs os vs → (newAs os vs).Nodup → putOs e is os = some e' →
    Sr g.K c M (stO is vs σ) H e' ∧ is.length = vs.length
  | [], [], vs, σ, e, e', s, r, nd, h => by
    cases h
    cases (show vs = [] from r)
    exact ⟨s, rfl⟩
  | [], _ :: _, vs, σ, e, e', s, r, nd, h => by cases h
  | _ :: _, [], vs, σ, e, e', s, r, nd, h => by cases h
  | i :: is, o :: os, vs, σ, e, e', s, r, nd, h => by
    obtain ⟨v, rs, rfl, q, t⟩ := r
    simp only [putOs] at h
    cases h1 : putO e i o with
    | none => rw [h1] at h; cases h
    | some e1 =>
      rw [h1] at h
      have key : Sr g.K c M (σ.set i (some v)) H e1 ∧ (∀ b, b ∈ newAs os rs → ¬ Wr (σ.set i (some v)) e1 b) ∧ (newAs os rs).Nodup := by
        rcases q with ⟨d, rfl, q⟩ | ⟨d, a, rfl, rfl, z1, z2, z3, z4, z5⟩
        · have en : newAs (.val d :: os) (v :: rs) = newAs os rs := by cases v <;> rfl
          rw [en] at nd
          exact ⟨s.setV h1 q, fun b hb w => (t.mem hb).2.2.2.1 ((setV_more h1).1 b w), nd⟩
        · have nd' := List.nodup_cons.mp (show (a :: newAs os rs).Nodup from nd)
          simp only [putO, Ev.setV] at h1
          split at h1
          · cases h1
          · rename_i tt _ hq
            cases h1
            have hi := (List.getElem?_eq_some_iff.mp hq).1
            refine ⟨s.put hi ⟨rfl, a, rfl, z1, z2, z3, fun j hj l d' y1 y2 => z4 ⟨j, l, d', y1, y2⟩⟩, fun b hb ⟨j, l, d', y1, y2⟩ => ?_, nd'.2⟩
            rcases get_set y1 with ⟨rfl, _⟩ | ⟨y3, y4⟩
            · rw [List.getElem?_set_self (by rw [s.len]; exact hi)] at y2
              cases y2
              exact nd'.1 hb
            · rw [List.getElem?_set_ne fun z => y3 z.symm] at y2
              exact (t.mem hb).2.2.2.1 ⟨j, l, d', y4, y2⟩
          · cases h1
      obtain ⟨s1, nw, nd1⟩ := key
      have t1 : XRs g.K c M (σ.set i (some v)) H e1 Hs os rs := by
        clear h nd
        have : ∀ {os : List Opd} {rs : List V}, XRs g.K c M σ H e Hs os rs → (∀ b, b ∈ newAs os rs → ¬ Wr (σ.set i (some v)) e1 b) → XRs g.K c M (σ.set i (some v)) H e1 Hs os rs := by
          intro os
          induction os with
          | nil => intro rs r _; exact r
          | cons o os ih =>
            intro rs r hb
            obtain ⟨w, ws, rfl, q, t⟩ := r
            rcases q with ⟨d, rfl, q⟩ | ⟨d, a, rfl, rfl, z1, z2, z3, z4, z5⟩
            · have en : newAs (.val d :: os) (w :: ws) = newAs os ws := by cases w <;> rfl
              rw [en] at hb
              exact ⟨w, ws, rfl, .inl ⟨d, rfl, q⟩, ih t hb⟩
            · exact ⟨_, ws, rfl, .inr ⟨d, a, rfl, rfl, z1, z2, z3, hb a List.mem_cons_self, z5⟩, ih t fun b q => hb b (List.mem_cons_of_mem _ q)⟩
        exact this t nw
      obtain ⟨s2, l2⟩ := putOs_ok s1 t1 nd1 h
      exact ⟨s2, by simp [l2]⟩
theorem parR_rd {p : Ev.M (List Opd)} {is : List Nat} {D : Ends} (hz : is.length ≤ sizeLine) (h : tS g (fun e => SR.of (p e) fun os e1 => SR.opt (putOs e1 is os)) D σ H) : tAsg (tTup (tXs g p)) (gTup g.K is.length (gTs is)) D σ H := by
  obtain ⟨c, M, e, s, h⟩ := h
  refine ⟨c, M, e, s, (Es.of s h).imp fun os M1 H1 e1 s1 x1 k1 h1 vs r nd => ?_⟩
  obtain ⟨e2, ho, h2⟩ := Es.opt h1
  obtain ⟨s2, l2⟩ := putOs_ok s1 r nd ho
  refine ⟨by rw [← l2]; exact hz, fun q hq => ?_⟩
  obtain ⟨s3, x3⟩ := s2.lay hq (.tup vs)
  exact ⟨q, vs, rfl, SqT.of upd_same, l2.symm, gTs_of l2 (h2 M1 _ _ s3 (x3.fx s2))⟩
theorem par2_rd {p : Ev.M (List Opd)} {i j : Nat} {D : Ends} (h : tS g (fun e => SR.of (p e) fun os e1 => SR.opt (putOs e1 [i, j] os)) D σ H) : tPar i j (tXs g p) D σ H := by
  obtain ⟨c, M, e, s, h⟩ := h
  refine ⟨c, M, e, s, (Es.of s h).imp fun os M1 H1 e1 s1 x1 k1 h1 vs r nd => ?_⟩
  obtain ⟨e2, ho, h2⟩ := Es.opt h1
  obtain ⟨s2, l2⟩ := putOs_ok s1 r nd ho
  match vs, l2 with
  | [v, w], _ => exact ⟨v, w, rfl, h2 M1 _ H1 s2 .refl⟩
theorem par3_rd {p : Ev.M (List Opd)} {i j l : Nat} {D : Ends} (h : tS g (fun e => SR.of (p e) fun os e1 => SR.opt (putOs e1 [i, j, l] os)) D σ H) : tPar3 i j l (tXs g p) D σ H := by
  obtain ⟨c, M, e, s, h⟩ := h
  refine ⟨c, M, e, s, (Es.of s h).imp fun os M1 H1 e1 s1 x1 k1 h1 vs r nd => ?_⟩
  obtain ⟨e2, ho, h2⟩ := Es.opt h1
  obtain ⟨s2, l2⟩ := putOs_ok s1 r nd ho
  match vs, l2 with
  | [u, v, w], _ => exact ⟨u, v, w, rfl, h2 M1 _ H1 s2 .refl⟩
end
end Ev

set_option Elab.async false
set_option linter.all false
set_option maxHeartbeats 8000000
set_option maxRecDepth 100000
/-! statements that change a list; loops -/
namespace Ev
open PySem L2 PySem.Spec
section
variable {α : Type} {g : G} {c : C} {σ : L2.St} {M : Addr → Prop} {H : Hp} {e : Fm}
/-- the list that slot i alone holds changes -/
theorem Sr.ownSet (s : Sr g.K c M σ H e) {i : Nat} {l : Bool} {d : D} {a : Addr} {xs ys : List V} {ds : List D} (h : e[i]? = some (Slot.own l d)) (ha : σ[i]? = some (some (V.ref a))) (hp : H a = some (.lst xs)) (hz : ds.length ≤ sizeLine) (r : Rels g.K M H ds ys) :
    Sr g.K c M σ (upd H a (.lst ys)) (e.set i (.own l (.list ds))) ∧ Fx M H M (upd H a (.lst ys)) := by
  obtain ⟨a', h1, h2, h3, h4⟩ := s.own i l d h
  rw [ha] at h1
  cases h1
  have hi := (List.getElem?_eq_some_iff.mp h).1
  have k : ∀ b x, H b = some x → ¬ M b → upd H a (.lst ys) b = some x := fun b x q m => by
    rw [upd_ne fun z => m (by rw [z]; exact h2)]; exact q
  have k2 : ∀ b, M b → M b ∨ H b = none := fun b q => .inl q
  refine ⟨⟨by rw [List.length_set]; exact s.len, fun j t q => ?_, fun j lj t q => ?_, fun j j2 lj lk dj dk b q1 q2 q3 q4 => ?_, fun b x q1 q2 => ?_, s.m0, s.m1, fun b q => upd_some b (s.mh b q), s.c0, s.c1⟩, ⟨k, k2, fun b q => upd_some b q⟩⟩
  · rcases get_set q with ⟨_, z⟩ | ⟨z, q⟩
    · cases z
    · obtain ⟨v, h5, h6⟩ := s.val j t q
      exact ⟨v, h5, Rel.ext k k2 t v h6⟩
  · rcases get_set q with ⟨rfl, z⟩ | ⟨z, q⟩
    · cases z
      exact ⟨a, ha, h2, ⟨ys, upd_same, hz, Rels.ext k k2 _ _ r⟩, h4⟩
    · obtain ⟨b, h5, h6, h7, h8⟩ := s.own j lj t q
      refine ⟨b, h5, h6, ?_, h8⟩
      have hb : b ≠ a := fun y => z (s.inj j i lj l t d a q h (by rw [← y]; exact h5) ha)
      cases t with
      | list ts =>
        obtain ⟨vs, h9, h10, h11⟩ := h7
        exact ⟨vs, by rw [upd_ne hb]; exact h9, h10, Rels.ext k k2 _ _ h11⟩
      | _ => exact h7.elim
  · have o1 : ∃ l d, e[j]? = some (Slot.own l d) := by
      rcases get_set q1 with ⟨rfl, _⟩ | ⟨_, q⟩
      · exact ⟨l, d, h⟩
      · exact ⟨lj, dj, q⟩
    have o2 : ∃ l d, e[j2]? = some (Slot.own l d) := by
      rcases get_set q2 with ⟨rfl, _⟩ | ⟨_, q⟩
      · exact ⟨l, d, h⟩
      · exact ⟨lk, dk, q⟩
    obtain ⟨l1, d1, o1⟩ := o1
    obtain ⟨l2, d2, o2⟩ := o2
    exact s.inj j j2 l1 l2 d1 d2 b o1 o2 q3 q4
  · rw [upd_ne fun z => ?_]
    · exact s.keep b x q1 q2
    · subst z
      cases l with
      | true => exact q2 (i, b) (by simpa using h4) rfl
      | false =>
        have : c.H0 b = none := by simpa using h4
        rw [this] at q1; cases q1
/-- the own slot i, as a value -/
theorem Sr.ownL (s : Sr g.K c M σ H e) {i : Nat} {f : D → Option D} {e' : Fm} (h : ownAt e i f = some e') : ∃ l d d' a, e[i]? = some (Slot.own l d) ∧ f d = some d' ∧ e' = e.set i (.own l d') ∧ σ[i]? = some (some (V.ref a)) ∧ M a ∧ Top g.K M H d a := by
  unfold ownAt at h
  split at h
  · rename_i l d hq
    cases hf : f d with
    | none => rw [hf] at h; cases h
    | some d' =>
      rw [hf] at h
      cases h
      obtain ⟨a, h1, h2, h3, _⟩ := s.own i l d hq
      exact ⟨l, d, d', a, hq, hf, rfl, h1, h2, h3⟩
  · cases h
theorem Sr.isOwn (s : Sr g.K c M σ H e) {i : Nat} (h : Ev.isOwn e i = true) : ∃ a vs, σ[i]? = some (some (V.ref a)) ∧ H a = some (.lst vs) := by
  unfold Ev.isOwn at h
  split at h
  · rename_i l d hq
    obtain ⟨a, h1, h2, h3, _⟩ := s.own i l d hq
    cases d with
    | list ds => obtain ⟨vs, h4, _⟩ := h3; exact ⟨a, vs, h1, h4⟩
    | _ => exact h3.elim
  · cases h
theorem top_list {d : D} {a : Addr} (h : Top g.K M H d a) : ∃ ds vs, d = .list ds ∧ H a = some (.lst vs) ∧ ds.length ≤ sizeLine ∧ Rels g.K M H ds vs := by
  cases d with
  | list ds => obtain ⟨vs, h1, h2, h3⟩ := h; exact ⟨ds, vs, rfl, h1, h2, h3⟩
  | _ => exact h.elim
theorem sto_rd {p q : Ev.M Opd} {i : Nat} {D : Ends} (h : tS g (fun e => SR.of (tk p e) fun d e1 => if Ev.isOwn e1 i then SR.of (tk q e1) fun k e2 => SR.opt (ownAt e2 i fun o => setD o k d) else .stuck) D σ H) :
    tAsg (tD g (tk p)) (gSub (tVar i) (tD g (tk q)) rSetL) D σ H := by
  obtain ⟨c, M, e, s, h⟩ := h
  refine ⟨c, M, e, s, (Es.of s h).imp fun d M1 H1 e1 s1 x1 k1 h1 v r => ?_⟩
  by_cases ho : Ev.isOwn e1 i = true
  · rw [if_pos ho] at h1
    obtain ⟨a, _, ha, _⟩ := s1.isOwn ho
    refine ⟨.ref a, ha, c, M1, e1, s1, (Es.of s1 h1).imp fun k M2 H2 e2 s2 x2 k2 h2 w rw' => ?_⟩
    obtain ⟨e3, h3, h4⟩ := Es.opt h2
    obtain ⟨l, t, t', a', z1, z2, rfl, z4, z5, z6⟩ := s2.ownL h3
    rw [ha] at z4
    cases z4
    obtain ⟨ds, vs, rfl, y1, y2, y3⟩ := top_list z6
    cases k <;> simp only [setD] at z2 <;> first | (cases z2; done) | skip
    rename_i n
    cases hj : ixN ds.length n with
    | none => rw [hj] at z2; cases z2
    | some j =>
      rw [hj] at z2
      cases z2
      obtain ⟨q1, q2⟩ := s2.ownSet z1 ha y1 (ds := ds.set j d) (by rw [List.length_set]; exact y2) (y3.set j (s1.rel x2 r))
      exact ⟨a, vs, n, j, rfl, by simpa only [Rel] using rw', y1, by rw [← y3.length]; exact hj, h4 _ _ _ q1 q2⟩
  · rw [if_neg ho] at h1
    exact h1.elim
/-- one store of several -/
theorem gsub_es {q : Ev.M D} {i : Nat} {d : D} {v : V} {k : Fm → SR} {D' : Ends} {nx : L2.St → Hp → Prop} (s : Sr g.K c M σ H e) (r : Rel g.K M H d v)
    (h : Es g c M H (match stoM i q d e with | .next e2 => k e2 | o => o) D') (hn : ∀ M2 H2 e2, Sr g.K c M2 σ H2 e2 → Fx M H M2 H2 → Es g c M2 H2 (k e2) D' → nx σ H2) : gSub (tVar i) (tD g q) rSetL v σ H nx := by
  unfold stoM at h
  by_cases ho : Ev.isOwn e i = true
  · rw [if_pos ho] at h
    obtain ⟨a, _, ha, _⟩ := s.isOwn ho
    refine ⟨.ref a, ha, c, M, e, s, ?_⟩
    cases hq : q e with
    | stuck => rw [hq] at h; exact h
    | exc cn d' e1 => rw [hq] at h; exact fun M' H' cls dd s1 x1 k1 rx => h M' σ H' cls dd s1 (x1.fx s) rx
    | ok kk e1 =>
      rw [hq] at h
      intro M2 H2 s2 x2 k2 w rw'
      simp only [SR.of] at h
      cases ho2 : ownAt e1 i (fun o => setD o kk d) with
      | none => rw [ho2] at h; exact h.elim
      | some e3 =>
        rw [ho2] at h
        simp only [SR.opt] at h
        obtain ⟨l, t, t', a', z1, z2, rfl, z4, z5, z6⟩ := s2.ownL ho2
        rw [ha] at z4
        cases z4
        obtain ⟨ds, vs, rfl, y1, y2, y3⟩ := top_list z6
        cases kk <;> simp only [setD] at z2 <;> first | (cases z2; done) | skip
        rename_i n
        cases hj : ixN ds.length n with
        | none => rw [hj] at z2; cases z2
        | some j =>
          rw [hj] at z2
          cases z2
          obtain ⟨q1, q2⟩ := s2.ownSet z1 ha y1 (ds := ds.set j d) (by rw [List.length_set]; exact y2) (y3.set j (s.rel x2 r))
          exact ⟨a, vs, n, j, rfl, by simpa only [Rel] using rw', y1, by rw [← y3.length]; exact hj, hn _ _ _ q1 ((x2.fx s).trans q2) (Es.move h ((x2.fx s).trans q2))⟩
  · rw [if_neg ho] at h
    exact h.elim
theorem pst_rd {p : Ev.M (List D)} {q1 q2 : Ev.M D} {i j : Nat} {D' : Ends} (h : tS g (fun e => SR.of (p e) fun ds e1 => match ds with
      | [d1, d2] => (match stoM i q1 d1 e1 with
        | .next e2 => stoM j q2 d2 e2
        | o => o)
      | _ => .stuck) D' σ H) : tAsg (tTup (tTs g p)) (gTup g.K 2 (gCons (gSub (tVar i) (tD g q1) rSetL) (gCons (gSub (tVar j) (tD g q2) rSetL) gNil))) D' σ H := by
  obtain ⟨c, M, e, s, h⟩ := h
  refine ⟨c, M, e, s, (Es.of s h).imp fun ds M1 H1 e1 s1 x1 k1 h1 vs r => ?_⟩
  match ds, h1, r with
  | [], h1, r => exact h1.elim
  | [_], h1, r => exact h1.elim
  | _ :: _ :: _ :: _, h1, r => exact h1.elim
  | [d1, d2], h1, r =>
    simp only [Rels] at r
    obtain ⟨v1, _, rfl, r1, v2, _, rfl, r2, rfl⟩ := r
    refine ⟨by show 2 ≤ sizeLine; decide, fun q hq => ?_⟩
    obtain ⟨s3, x3⟩ := s1.lay hq (.tup [v1, v2])
    refine ⟨q, [v1, v2], rfl, SqT.of upd_same, rfl, v1, [v2], rfl, ?_⟩
    have r1 := s1.rel x3 r1
    have r2 := s1.rel x3 r2
    refine gsub_es (k := fun e2 => stoM j q2 d2 e2) s3 r1 (Es.move h1 (x3.fx s1)) fun M2 H2 e2 s4 f4 h4 => ?_
    refine ⟨v2, [], rfl, ?_⟩
    refine gsub_es (k := .next) s4 (Rel.ext f4.f1 f4.f2 _ _ r2) (show Es g c M2 H2 (match stoM j q2 d2 e2 with | .next e2 => .next e2 | o => o) D' from ?_) fun M5 H5 e5 s5 f5 h5 => ⟨rfl, h5 M5 σ H5 s5 .refl⟩
    cases hh : stoM j q2 d2 e2 <;> (rw [hh] at h4; exact h4)
/-! ### methods that change a list -/
namespace XT
open PySem.AutoSeq1
set_option maxRecDepth 8000 in
theorem lst_extT (l : Addr) (items : Array Value) (n : Nat) (b : Addr) (items2 : Array Value) (n2 : Nat) (d2 : Option Addr) (sl : Array (Option Value)) (hs0 : ¬(!items.isEmpty && Builtin.List.listTooLong (items.size + items2.size)) = true) (hs1 : items.size ≤ sizeLine) (hs2 : items.size + items2.size ≤ sizeLine + 1) :
    Meets (Builtin.«list.extend» ⟨[.ref l, .ref b], []⟩) (fun _ R s => s.heap.get? l = some { cls := .type "list", dict := none, data := .seq items n, slots := #[] } ∧ s.heap.get? b = some { cls := .type "tuple", dict := d2, data := .seq items2 n2, slots := sl } ∧ R (.ok (.ret Value.none)) { s with heap := s.heap.update l (Obj.mapSeq fun x => x ++ items2), toks := s.toks }) :=
  .of_wp fun prog w A R s h => by
    obtain ⟨hp, g, d, tk, os⟩ := s; obtain ⟨hl, hb, h⟩ := h; have f1 := idx_int; have f2 := sub_tuple_tuple; have f3 := sub_list_list; have f4 := sub_tuple_list; have f5 := sub_list_tuple;
    have hz' : (items ++ items2).size ≤ sizeLine + 1 := by rw [Array.size_append]; exact hs2
    wp_walk using (wpAny_updateSeq hl rfl (hz := hs1) (_hz' := hz')), wpAny_loadPart' hl, wpAny_loadPart' hb; exact ⟨_, rfl, h⟩
end XT
def rExtendR (K : PySem.W.Frag) : V → List V → Hp → VK → Prop := fun x vs H Q => ∃ l b xs zs, x = V.ref l ∧ vs = [V.ref b] ∧ H l = some (.lst xs) ∧ (Rd H b (.lst zs) ∨ SqT K H b zs) ∧ xs.length + zs.length ≤ sizeLine ∧ Q .non (upd H l (.lst (xs ++ zs)))
theorem mt_extendR {X : Cx} : MtR X "list.extend" (rExtendR X.K) := by
  intro pins s σ H x vs v us Q I rx rv h
  obtain ⟨l, b, xs, zs, rfl, rfl, hH, hB, hz, q⟩ := h
  cases rx
  obtain ⟨u, rfl, ru⟩ := L2.vals1 rv
  cases ru
  obtain ⟨z, its, n, r, hl, e⟩ := I.lstM hH
  rcases hB with hB | hB
  · obtain ⟨z2, its2, n2, r2, hl2, e2⟩ := rdM I hB
    have hsz : its.toArray.size + its2.toArray.size ≤ sizeLine := by rw [List.size_toArray, List.size_toArray, ← hl, ← hl2]; exact hz
    refine call_meets F.slot_list_extend ⟨_, e, rfl⟩ F.entry_list_extend (F.args_list_extend_2 _ _) (AutoSeq1.list_extend_list_list_0 l its.toArray n b its2.toArray n2 (by rw [notLongL hsz, Bool.and_false]; exact Bool.false_ne_true) (by rw [List.size_toArray]; omega) (by omega))
      ⟨e, e2, .non, _, I.lset (its' := its ++ its2) hH e (by simp) (r.append r2) (by rw [List.length_append]; omega), rfl, q⟩
  · obtain ⟨its2, r2, ⟨o, e2, hc, n2, hd⟩, z2⟩ := I.tuple hB
    obtain ⟨oc, od, dt, osl⟩ := o
    simp only at hc hd
    subst hc hd
    have hl2 := r2.length
    have hsz : its.toArray.size + its2.toArray.size ≤ sizeLine := by rw [List.size_toArray, List.size_toArray, ← hl, ← hl2]; exact hz
    refine call_meets F.slot_list_extend ⟨_, e, rfl⟩ F.entry_list_extend (F.args_list_extend_2 _ _) (XT.lst_extT l its.toArray n b its2.toArray n2 od osl (by rw [notLongL hsz, Bool.and_false]; exact Bool.false_ne_true) (by rw [List.size_toArray]; omega) (by omega))
      ⟨e, e2, .non, _, I.lset (its' := its ++ its2) hH e (by simp) (r.append r2) (by rw [List.length_append]; omega), rfl, q⟩
def muId : Mu → String
  | .append => "list.append" | .extend => "list.extend" | .insert => "list.insert"
def muNm : Mu → String
  | .append => "append" | .extend => "extend" | .insert => "insert"
def rMu (K : PySem.W.Frag) : Mu → V → List V → Hp → VK → Prop
  | .append => rAppend
  | .extend => rExtendR K
  | .insert => fun x vs H Q => ∃ (l : Addr) (xs : List V) (i : Int) (y : V), x = .ref l ∧ vs = [.int i, y] ∧ H l = some (.lst xs) ∧ xs.length < sizeLine ∧ 0 ≤ i ∧ i < 2 ^ 63 ∧ Q .non (upd H l (.lst (xs.take i.toNat ++ [y] ++ xs.drop i.toNat)))
theorem mt_mu {X : Cx} (m : Mu) : MtR X (muId m) (rMu X.K m) := by
  cases m with
  | append => exact mt_append
  | extend => exact mt_extendR
  | insert => exact mt_insert
theorem mu_ok {m : Mu} {a : Addr} {ds ds' : List D} {as : List D} {vs ws : List V} {Q : VK} (hp : H a = some (.lst vs)) (z : ds.length ≤ sizeLine) (r : Rels g.K M H ds vs) (ra : Rels g.K M H as ws) (h : muD m (.list ds) as = some (.list ds'))
    (q : ∀ ys, ds'.length ≤ sizeLine → Rels g.K M H ds' ys → Q .non (upd H a (.lst ys))) : rMu g.K m (.ref a) ws H Q := by
  unfold muD at h
  split at h
  · rename_i xs x he
    cases he
    simp only [Rels] at ra
    obtain ⟨w, _, rfl, rw', rfl⟩ := ra
    split at h
    · rename_i hl
      cases h
      exact ⟨a, vs, w, rfl, rfl, hp, by rw [← r.length]; exact hl, q _ (by simp; omega) (r.append (Rels.cons rw' Rels.nil))⟩
    · cases h
  · rename_i xs ys he
    cases he
    simp only [Rels] at ra
    obtain ⟨w, _, rfl, rw', rfl⟩ := ra
    split at h
    · rename_i hl
      cases h
      obtain ⟨b, zs, rfl, h1, z1, r1⟩ := TopV.list (.inl rw')
      exact ⟨a, b, vs, zs, rfl, rfl, hp, .inl h1, by rw [← r.length, ← r1.length]; exact hl, q _ (by simp; exact hl) (r.append r1)⟩
    · cases h
  · rename_i xs ys he
    cases he
    simp only [Rels] at ra
    obtain ⟨w, _, rfl, rw', rfl⟩ := ra
    split at h
    · rename_i hl
      cases h
      obtain ⟨b, zs, rfl, h1, z1, r1⟩ := TopV.tuple (.inl rw')
      exact ⟨a, b, vs, zs, rfl, rfl, hp, .inr h1, by rw [← r.length, ← r1.length]; exact hl, q _ (by simp; exact hl) (r.append r1)⟩
    · cases h
  · rename_i xs i x he
    cases he
    simp only [Rels] at ra
    obtain ⟨w1, _, rfl, rw1, w, _, rfl, rw', rfl⟩ := ra
    split at h
    · rename_i hl
      cases h
      refine ⟨a, vs, i, w, rfl, by rw [show w1 = V.int i from by simpa only [Rel] using rw1], hp, by rw [← r.length]; exact hl.1, hl.2.1, hl.2.2, q _ ?_ (((r.take _).append (Rels.cons rw' Rels.nil)).append (r.drop _))⟩
      simp only [List.length_append, List.length_take, List.length_drop, List.length_singleton]
      omega
    · cases h
  · cases h
theorem mu_list {m : Mu} {ds as : List D} {d : D} (h : muD m (.list ds) as = some d) : ∃ ds', d = .list ds' := by
  unfold muD at h
  split at h
  · split at h <;> cases h; exact ⟨_, rfl⟩
  · split at h <;> cases h; exact ⟨_, rfl⟩
  · split at h <;> cases h; exact ⟨_, rfl⟩
  · split at h <;> cases h; exact ⟨_, rfl⟩
  · cases h
theorem mut_rd {m : Mu} {p : Ev.M (List D)} {i : Nat} {D : Ends} (h : tS g (fun e => if Ev.isOwn e i then SR.of (p e) fun ds e1 => SR.opt (ownAt e1 i fun o => muD m o ds) else .stuck) D σ H) :
    tDrop (tBM g.K "list" (rMu g.K m) (tVar i) (tTs g p)) D σ H := by
  obtain ⟨c, M, e, s, h⟩ := h
  simp only at h
  by_cases ho : Ev.isOwn e i = true
  · rw [if_pos ho] at h
    obtain ⟨a, vs0, ha, h0⟩ := s.isOwn ho
    refine ⟨.ref a, ha, .inl ⟨rfl, vs0, .inl (.inl h0)⟩, c, M, e, s, (Es.of s h).imp fun as M1 H1 e1 s1 x1 k1 h1 ws rs => ?_⟩
    obtain ⟨e3, h3, h4⟩ := Es.opt h1
    obtain ⟨l, t, t', a', z1, z2, rfl, z4, z5, z6⟩ := s1.ownL h3
    rw [ha] at z4
    cases z4
    obtain ⟨ds, vs, rfl, y1, y2, y3⟩ := top_list z6
    obtain ⟨ds', rfl⟩ := mu_list z2
    refine mu_ok y1 y2 y3 rs z2 fun ys hz ry => ?_
    obtain ⟨q1, q2⟩ := s1.ownSet z1 ha y1 hz ry
    exact h4 _ _ _ q1 q2
  · rw [if_neg ho] at h
    exact h.elim
/-! ### += -/
def rAug : Bop → TIp
  | .add => ipI fun i j => i + j
  | .sub => ipI fun i j => i - j
  | _ => fun _ _ _ _ => False
theorem pip_aug {X : Cx} (op : Bop) : PIp X (bopO op) (rAug op) := by
  cases op with
  | add => exact ip_add
  | sub => exact ip_sub
  | _ => intro pins s σ H x y v u Q I r1 r2 h; exact h.elim
theorem aug_val {op : Bop} {a b : D} {o : Opd} (h : augD op a b = some o) : ∃ i j k, a = .int i ∧ b = .int j ∧ o = .val (.int k) ∧ ∀ (H : Hp) (Q : VK), Q (.int k) H → rAug op (.int i) (.int j) H Q := by
  unfold augD at h
  split at h
  · cases h; exact ⟨_, _, _, rfl, rfl, rfl, fun H Q q => ⟨_, _, rfl, rfl, q⟩⟩
  · cases h; exact ⟨_, _, _, rfl, rfl, rfl, fun H Q q => ⟨_, _, rfl, rfl, q⟩⟩
  · cases h
theorem aug_rd {op : Bop} {p : Ev.M Opd} {i : Nat} {D : Ends} (h : tS g (fun e => match e[i]? with | some (.val old) => SR.of (tk p e) fun d e1 => (match augD op old d with | some (.val z) => SR.opt (setV e1 i (.val z)) | _ => .stuck) | _ => .stuck) D σ H) :
    tAug i (tD g (tk p)) (rAug op) D σ H := by
  obtain ⟨c, M, e, s, h⟩ := h
  simp only at h
  split at h
  · rename_i old hq
    obtain ⟨v, hv, rv⟩ := s.val i old hq
    refine ⟨v, hv, c, M, e, s, (Es.of s h).imp fun d M1 H1 e1 s1 x1 k1 h1 w rw' => ?_⟩
    cases ha : augD op old d with
    | none => rw [ha] at h1; exact h1.elim
    | some o =>
      rw [ha] at h1
      obtain ⟨i1, j1, k, rfl, rfl, rfl, q⟩ := aug_val ha
      have e1' : v = .int i1 := by simpa only [Rel] using rv
      have e2' : w = .int j1 := by simpa only [Rel] using rw'
      subst e1'
      subst e2'
      refine q _ _ ?_
      obtain ⟨e3, h3, h4⟩ := Es.opt h1
      exact h4 M1 _ H1 (s1.setV h3 (by simp only [Rel])) .refl
  · exact h.elim
/-- x[i] by values, i from 0 on -/
def rGet : V → V → Hp → VK → Prop := fun x y H Q => ∃ p xs i v, x = V.ref p ∧ y = V.int i ∧ H p = some (.lst xs) ∧ 0 ≤ i ∧ atI xs i = some v ∧ Q v H
theorem get_ok {X : Cx} : PGet X rGet := by
  intro pins s σ H o i ov iv Q I ro ri h
  obtain ⟨p, xs, k, v, rfl, rfl, hp, h0, hv, q⟩ := h
  cases ro
  obtain ⟨t, rfl⟩ := ri
  obtain ⟨its, r, pl, hz⟩ := I.list (SqL.of hp)
  obtain ⟨j, h1, h2, h3, h4, h5⟩ := atI_get hv
  obtain ⟨w, ew, rw'⟩ := L2.Vals.get r h2
  have hl := r.length
  have hn := line63
  have hj : k.toNat = j := by
    rw [seqIndex_of h0 h5] at h1
    exact Option.some.inj h1
  exact wpAny_getItem_list pl.isList h0 (by omega) (by rw [hj]; simpa using ew) ⟨v, H, I, rw', q⟩
theorem augS_rd {op : Bop} {p q : Ev.M Opd} {i : Nat} {D : Ends} (h : tS g (fun e => if Ev.isOwn e i then (SR.of (tk q e) fun k e1 => match augGet e1 i k with
      | none => .stuck
      | some old => SR.of (tk p e1) fun d e2 => match augD op old d with
        | some (.val z) => SR.opt (ownAt e2 i fun o => setD o k z)
        | _ => .stuck) else .stuck) D σ H) :
    tAugS (tVar i) (tD g (tk q)) (tD g (tk p)) rGet (rAug op) rSetL D σ H := by
  obtain ⟨c, M, e, s, h⟩ := h
  simp only at h
  by_cases ho : Ev.isOwn e i = true
  · rw [if_pos ho] at h
    obtain ⟨a, vs0, ha, h0⟩ := s.isOwn ho
    refine ⟨.ref a, ha, c, M, e, s, (Es.of s h).imp fun k M1 H1 e1 s1 x1 k1 h1 w rw' => ?_⟩
    cases hold : augGet e1 i k with
    | none => rw [hold] at h1; exact h1.elim
    | some old =>
      rw [hold] at h1
      simp only at h1
      cases k <;> simp only [augGet] at hold <;> first | (cases hold; done) | skip
      rename_i n
      split at hold
      · rename_i hn
        cases hov : ownVal e1 i with
        | none => rw [hov] at hold; cases hold
        | some od =>
          rw [hov] at hold
          simp only [Option.bind_some] at hold
          have hslot : ∃ l, e1[i]? = some (Slot.own l od) := by
            unfold ownVal at hov
            split at hov
            · rename_i l d hq; cases hov; exact ⟨l, hq⟩
            · cases hov
          obtain ⟨l, hslot⟩ := hslot
          obtain ⟨a', z1, z2, z3, _⟩ := s1.own i l od hslot
          rw [ha] at z1
          cases z1
          obtain ⟨ds, vs, rfl, y1, y2, y3⟩ := top_list z3
          obtain ⟨v, hv, rv⟩ := atI_rels y3 (show atI ds n = some old from hold)
          refine ⟨a, vs, n, v, rfl, by simpa only [Rel] using rw', y1, hn, hv, c, M1, e1, s1, (Es.of s1 h1).imp fun d M2 H2 e2 s2 x2 k2 h2 u ru => ?_⟩
          cases had : augD op old d with
          | none => rw [had] at h2; exact h2.elim
          | some o =>
            rw [had] at h2
            obtain ⟨i1, j1, k, rfl, rfl, rfl, qq⟩ := aug_val had
            have e1' : v = .int i1 := by simpa only [Rel] using rv
            have e2' : u = .int j1 := by simpa only [Rel] using ru
            subst e1'
            subst e2'
            refine qq _ _ ?_
            obtain ⟨e3, h3, h4⟩ := Es.opt h2
            obtain ⟨l2, t, t', a', w1, w2, rfl, w4, w5, w6⟩ := s2.ownL h3
            rw [ha] at w4
            cases w4
            obtain ⟨ds2, vs2, rfl, t1, t2, t3⟩ := top_list w6
            simp only [setD] at w2
            cases hj : ixN ds2.length n with
            | none => rw [hj] at w2; cases w2
            | some j =>
              rw [hj] at w2
              cases w2
              obtain ⟨q1, q2⟩ := s2.ownSet w1 ha t1 (ds := ds2.set j (.int k)) (ys := vs2.set j (.int k)) (by rw [List.length_set]; exact t2) (t3.set j (by simp only [Rel]))
              exact ⟨a, vs2, n, j, rfl, by simpa only [Rel] using rw', t1, by rw [← t3.length]; exact hj, h4 _ _ _ q1 q2⟩
      · cases hold
  · rw [if_neg ho] at h
    exact h.elim
/-! ### the small ones -/
theorem expr_rd {p : Ev.M Opd} {D : Ends} (h : tS g (fun e => SR.of (p e) fun _ e1 => .next e1) D σ H) : tDrop (tE g p) D σ H := by
  obtain ⟨c, M, e, s, h⟩ := h
  exact ⟨c, M, e, s, (Es.of s h).imp fun o M1 H1 e1 s1 x1 k1 h1 v r f => h1 M1 σ H1 s1 .refl⟩
theorem ret_rd {p : Ev.M Opd} {D : Ends} (h : tS g (fun e => SR.of (p e) retO) D σ H) : tRet (tE g p) D σ H := by
  obtain ⟨c, M, e, s, h⟩ := h
  refine ⟨c, M, e, s, (Es.of s h).imp fun o M1 H1 e1 s1 x1 k1 h1 v r f => ?_⟩
  cases o with
  | val d => exact h1 M1 σ H1 v s1 .refl r
  | fresh d =>
    obtain ⟨a, rfl, h2, h3, h4, h5⟩ := r
    exact h1 M1 σ H1 _ s1 .refl ⟨a, rfl, h2, h3, h4⟩
  | slot i =>
    obtain ⟨r1, t, r2, r3⟩ := r
    simp only [retO, r2] at h1
    cases t with
    | un => exact h1.elim
    | val d =>
      obtain ⟨w, h4, h5⟩ := s1.val i d r2
      rw [r1] at h4
      cases h4
      exact h1 M1 σ H1 v s1 .refl h5
    | own l d =>
      cases l with
      | true => exact h1.elim
      | false =>
        obtain ⟨a, h4, h5, h6, h7⟩ := s1.own i false d r2
        rw [r1] at h4
        cases h4
        exact h1 M1 σ H1 _ s1 .refl ⟨a, rfl, h5, h6, by simpa using h7⟩
theorem retN_rd {D : Ends} (h : tS g (fun e => .ret false .none e) D σ H) : tRetN D σ H := by
  obtain ⟨c, M, e, s, h⟩ := h
  exact h M σ H .non s .refl (by simp [RetR, Rel])
theorem next_rd {D : Ends} (h : tS g .next D σ H) : tNext D σ H := by
  obtain ⟨c, M, e, s, h⟩ := h
  exact h M σ H s .refl
theorem brk_rd {D : Ends} (h : tS g .brk D σ H) : tBreak D σ H := by
  obtain ⟨c, M, e, s, h⟩ := h
  exact h M σ H s .refl
theorem cnt_rd {D : Ends} (h : tS g .cnt D σ H) : tCont D σ H := by
  obtain ⟨c, M, e, s, h⟩ := h
  exact h M σ H s .refl
theorem seq_rdS {p q : Fm → SR} {D : Ends} (h : tS g (fun e => match p e with | .next e1 => q e1 | o => o) D σ H) : tSeq (tS g p) (tS g q) D σ H := by
  obtain ⟨c, M, e, s, h⟩ := h
  refine ⟨c, M, e, s, ?_⟩
  simp only at h
  cases hp : p e with
  | next e1 =>
    rw [hp] at h
    exact fun M1 σ1 H1 s1 x1 => ⟨c, M1, e1, s1, Es.move h x1⟩
  | ret fr d e1 => rw [hp] at h; exact h
  | brk e1 => rw [hp] at h; exact h
  | cnt e1 => rw [hp] at h; exact h
  | exc cn d e1 => rw [hp] at h; exact h
  | stuck => rw [hp] at h; exact h
theorem if_rd {q : Ev.M Bool} {a b : Fm → SR} {D : Ends} (h : tS g (fun e => SR.of (q e) fun t e1 => if t then a e1 else b e1) D σ H) : tIfS (tT g q) (tS g a) (tS g b) D σ H := by
  obtain ⟨c, M, e, s, h⟩ := h
  refine ⟨c, M, e, s, (Es.of s h).imp fun t M1 H1 e1 s1 x1 k1 h1 => ?_⟩
  cases t with
  | true => exact iteT ⟨c, M1, e1, s1, h1⟩
  | false => exact iteF ⟨c, M1, e1, s1, h1⟩
/-! ### loops -/
/-- a body's end, by where the loop goes on -/
theorem body_es {body : Fm → SR} {D : Ends} {nx : L2.St → Hp → Prop} {e1 : Fm} {k : Fm → SR} (hn : ∀ e2 M2 σ2 H2, (body e1 = .next e2 ∨ body e1 = .cnt e2) → Sr g.K c M2 σ2 H2 e2 → Fx M H M2 H2 → Es g c M2 H2 (k e2) D → nx σ2 H2)
    (h : Es g c M H (match body e1 with | .next e2 => k e2 | .cnt e2 => k e2 | .brk e2 => .next e2 | .ret fr d e2 => .ret fr d e2 | .exc cn d e2 => .exc cn d e2 | .stuck => .stuck) D) :
    Es g c M H (body e1) { D with nx := nx, ct := nx, bk := D.nx } := by
  cases hb : body e1 with
  | next e2 => rw [hb] at h; exact fun M2 σ2 H2 s2 x2 => hn e2 M2 σ2 H2 (.inl hb) s2 x2 (Es.move h x2)
  | cnt e2 => rw [hb] at h; exact fun M2 σ2 H2 s2 x2 => hn e2 M2 σ2 H2 (.inr hb) s2 x2 (Es.move h x2)
  | brk e2 => rw [hb] at h; exact h
  | ret fr d e2 => rw [hb] at h; exact h
  | exc cn d e2 => rw [hb] at h; exact h
  | stuck => rw [hb] at h; exact h
theorem for_rd {tg : Tg} {p : Ev.M (List D)} {body : Fm → SR} {D : Ends} (h : tS g (fun e => SR.of (p e) fun ds e1 => forLoop tg body ds e1) D σ H) : tFor (tI tg g p) (gT g.K tg) (tS g body) D σ H := by
  obtain ⟨c, M, e, s, h⟩ := h
  refine ⟨c, M, e, s, (Es.of s h).imp fun ds M1 H1 e1 s1 x1 k1 h1 J Y hz => ?_⟩
  refine ⟨fun i m σ' H' => m = ds.length - i ∧ i ≤ ds.length ∧ ∃ M' e', Sr g.K c M' σ' H' e' ∧ Fx M1 H1 M' H' ∧ Es g c M' H' (forLoop tg body (ds.drop i) e') D, ⟨ds.length, by simp, Nat.zero_le _, M1, e1, s1, .refl, by simpa using h1⟩, fun i m σ' H' hW => ?_⟩
  obtain ⟨rfl, hi, M', e', s', x', h'⟩ := hW
  obtain ⟨ystop, yitem⟩ := Y M' H' x'.f1 x'.f2 s'.mh i
  by_cases hlt : i < ds.length
  · right
    obtain ⟨ygo, yyld⟩ := yitem _ (List.getElem?_eq_getElem hlt)
    refine ⟨ygo, fun σ'' H'' => ∃ m', m' < ds.length - i ∧ (m' = ds.length - (i + 1) ∧ i + 1 ≤ ds.length ∧ ∃ M' e', Sr g.K c M' σ'' H'' e' ∧ Fx M1 H1 M' H'' ∧ Es g c M' H'' (forLoop tg body (ds.drop (i + 1)) e') D), fun σ'' H'' q => q, fun x H3 y => ?_⟩
    obtain ⟨up, rx⟩ := yyld x H3 y
    obtain ⟨sg, xg⟩ := s'.grow up
    rw [List.drop_eq_getElem_cons hlt] at h'
    simp only [forLoop] at h'
    cases hb : bindTg tg ds[i] e' with
    | none => rw [hb] at h'; exact h'.elim
    | some eb =>
      rw [hb] at h'
      refine bind_ok sg hb rx fun σ2 sb _ _ _ _ => ⟨c, M', eb, sb, ?_⟩
      refine body_es (k := fun e2 => forLoop tg body (ds.drop (i + 1)) e2) (fun e2 M2 σ3 H2 _ s2 x2 q => ?_) (Es.move h' (xg.fx s'))
      exact ⟨_, by omega, rfl, hlt, M2, e2, s2, x'.trans ((xg.fx s').trans x2), q⟩
  · left
    have he : i = ds.length := by omega
    subst he
    rw [List.drop_length] at h'
    exact ⟨ystop (Nat.le_refl _), h' M' σ' H' s' .refl⟩
theorem whl_rd {q : Ev.M Bool} {body : Fm → SR} {n : Nat} {D : Ends} (h : tS g (fun e => whlLoop q body n e) D σ H) : tWhile (tT g q) (tS g body) D σ H := by
  obtain ⟨c, M, e, s, h⟩ := h
  refine ⟨fun m σ' H' => ∃ M' e', Sr g.K c M' σ' H' e' ∧ Es g c M' H' (whlLoop q body m e') D, ⟨n, M, e, s, h⟩, fun m σ' H' hW => ?_⟩
  obtain ⟨M', e', s', h'⟩ := hW
  cases m with
  | zero => exact h'.elim
  | succ m =>
    refine ⟨c, M', e', s', (Es.of s' (show Es g c M' H' (SR.of (q e') _) D from h')).imp fun t M1 H1 e1 s1 x1 k1 h1 => ?_⟩
    cases t with
    | false =>
      refine iteF ?_
      rw [if_neg Bool.false_ne_true] at h1
      exact h1 M1 σ' H1 s1 .refl
    | true =>
      refine iteT ?_
      rw [if_pos rfl] at h1
      refine ⟨fun σ2 H2 => ∃ m', m' < m + 1 ∧ ∃ M' e', Sr g.K c M' σ2 H2 e' ∧ Es g c M' H2 (whlLoop q body m' e') D, fun _ _ q => q, c, M1, e1, s1, ?_⟩
      exact body_es (k := fun e2 => whlLoop q body m e2) (fun e2 M2 σ3 H2 _ s2 x2 q => ⟨m, by omega, M2, e2, s2, q⟩) h1
end
end Ev

set_option Elab.async false
set_option linter.all false
set_option maxHeartbeats 8000000
set_option maxRecDepth 100000
/-! statements: the check is enough -/
namespace Ev
open PySem L2 PySem.Spec
def swNs (sc : Scope) (ts : List Expr) : List Str :=
  ts.filterMap fun x => match x with
    | Expr.Name id pos => if (sc.names.lookup id == some NameKind.local && pos.line == (Option.map (fun (x : Expr) => x.pos.line) ts.head?).getD 0) = true then some id else none
    | _ => none
def noStars (vs : List Expr) : Bool := !(vs.any fun x => match x with | .Starred _ _ => true | _ => false)
/-- 0: stored from the left; 1: from the right -/
def swOut (sc : Scope) (ts vs : List Expr) : Nat :=
  if (!(ts.length == 2 || ts.length == 3) || vs.length != ts.length) = true then 0
  else if noStars vs = false then 0
  else if ((swNs sc ts).length != ts.length || (swNs sc ts).eraseDups.length != (swNs sc ts).length) = true then 0
  else if vs.all (foldedForSure 8) = true then 0
  else if vs.all (constantsAlone 8) = true then 2
  else 1
theorem sw_out {ts vs : List Expr} {k k2 : Nat} {p p2 : Pos} {env : PySem.Env} {sc : Scope} (hsc : env.scope = sc) (hk : sc.kind = .function) :
    (swOut sc ts vs = 0 → swappedStores [.Tuple ts k p] (.Tuple vs k2 p2) env = pure none) ∧ (swOut sc ts vs = 1 → swappedStores [.Tuple ts k p] (.Tuple vs k2 p2) env = pure (some (swNs sc ts))) := by
  have hb : env.blockKind = .function := by unfold Env.blockKind; rw [hsc, hk]; rfl
  have hkn : ∀ id, env.kindOf id = sc.names.lookup id := fun id => by rw [← hsc]; rfl
  unfold swappedStores
  simp only [hb, hkn]
  have e1 : (ScopeKind.function != ScopeKind.function) = false := rfl
  rw [e1, Bool.or_false]
  change (swOut sc ts vs = 0 → (if (!(ts.length == 2 || ts.length == 3) || vs.length != ts.length) = true then pure none else if (vs.any fun x => match x with | .Starred _ _ => true | _ => false) = true then pure none else
      if ((swNs sc ts).length != ts.length || (swNs sc ts).eraseDups.length != (swNs sc ts).length) = true then pure none else if vs.all (foldedForSure 8) = true then pure none else
      if vs.all (constantsAlone 8) = true then _ else pure (some (swNs sc ts))) = pure none) ∧ (swOut sc ts vs = 1 → (if (!(ts.length == 2 || ts.length == 3) || vs.length != ts.length) = true then pure none else if (vs.any fun x => match x with | .Starred _ _ => true | _ => false) = true then pure none else
      if ((swNs sc ts).length != ts.length || (swNs sc ts).eraseDups.length != (swNs sc ts).length) = true then pure none else if vs.all (foldedForSure 8) = true then pure none else
      if vs.all (constantsAlone 8) = true then _ else pure (some (swNs sc ts))) = pure (some (swNs sc ts)))
  unfold swOut
  have e2 : (noStars vs = false) = ((vs.any fun x => match x with | .Starred _ _ => true | _ => false) = true) := by
    unfold noStars; simp
  simp only [e2]
  refine ⟨fun h => ?_, fun h => ?_⟩
  · repeat' (first | rfl | (split at h <;> first | (rename_i hh; first | rw [if_pos hh] | rw [if_neg hh]) | skip) | (cases h; done))
  · repeat' (first | rfl | (split at h <;> first | (rename_i hh; first | rw [if_pos hh] | rw [if_neg hh]) | skip) | (cases h; done))
def is23 : List Nat → Bool
  | [_, _] => true
  | [_, _, _] => true
  | _ => false
def notComp : Expr → Bool
  | .ListComp .. => false | .SetComp .. => false | .DictComp .. => false | _ => true
def notTuple : Expr → Bool
  | .Tuple .. => false | _ => true
/-- a clause of a try, as it is served -/
def chkC1 (T : Tb) (N : List Str) (sc : Scope) (q : Str × Nat × Nat × Act) : ExceptHandler → Bool
  | .ExceptHandler (some (.Name x _)) (some n) [.Assign [.Name y _] v _] _ =>
    decide (x = q.1) && T.errs.contains x && glB sc x && nmB x && decide (N[q.2.1]? = some n) && decide (sc.names.lookup n = some .local) && visB sc n && nmB n && decide (N[q.2.2.1]? = some y) && locB sc y && decide (q.2.1 ≠ q.2.2.1) && (match q.2.2.2, v with
      | .tv t, .Tuple [.Constant (.str t2) _ _, .Attribute (.Name m _) f _] _ _ => decide (m = n) && decide (f = ("value" : Str)) && decide (t2 = t)
      | .keep, .Name m _ => decide (m = n)
      | .vl, .Attribute (.Name m _) f _ => decide (m = n) && decide (f = ("value" : Str))
      | _, _ => false)
  | _ => false
def chkCl (T : Tb) (N : List Str) (sc : Scope) : List (Str × Nat × Nat × Act) → List ExceptHandler → Bool
  | [], hs => hs.isEmpty
  | q :: r, hs => match hs with
    | h :: hs => chkC1 T N sc q h && chkCl T N sc r hs
    | [] => false
section
variable (T : Tb) (N : List Str) (sc : Scope)
mutual
def chkS : Sm → Stmt → Bool
  | .set i x, s => match s with
    | .Assign [.Name y _] e _ => decide (N[i]? = some y) && locB sc y && chkE T N none sc x e
    | _ => false
  | .unp is x, s => match s with
    | .Assign [.Tuple ts k p] e _ => chkNs N sc none is ts && chkE T N none sc x e && notTuple e
    | _ => false
  | .par is xs, s => match s with
    | .Assign [.Tuple ts k p] (.Tuple vs k2 p2) _ => chkNs N sc none is ts && chkEs T N none sc xs vs && decide (is.length ≤ 30) && (match swOut sc ts vs with
        | 0 => true
        | 1 => decide (is.Nodup) && decide (swNs sc ts = is.filterMap fun i => N[i]?) && (is.all fun i => match N[i]? with | some x => decide (sc.names.lookup x = some .local) | none => false) && is23 is
        | _ => false)
    | _ => false
  | .aug i op x, s => match s with
    | .AugAssign (.Name y _) o e _ => decide (N[i]? = some y) && locB sc y && visB sc y && nmB y && decide (o = bopO op) && chkE T N none sc x e
    | _ => false
  | .sto i ix x, s => match s with
    | .Assign [.Subscript (.Name y _) iy _] e _ => decide (N[i]? = some y) && visB sc y && nmB y && chkE T N none sc ix iy && chkE T N none sc x e
    | _ => false
  | .pst i ix j jx xs, s => match s with
    | .Assign [.Tuple [.Subscript (.Name y _) iy _, .Subscript (.Name z _) iz _] k p] (.Tuple vs k2 p2) _ => decide (N[i]? = some y) && visB sc y && nmB y && chkE T N none sc ix iy && decide (N[j]? = some z) && visB sc z && nmB z && chkE T N none sc jx iz && chkEs T N none sc xs vs && decide (vs.length = 2)
    | _ => false
  | .augS i ix op x, s => match s with
    | .AugAssign (.Subscript (.Name y _) iy _) o e _ => decide (N[i]? = some y) && visB sc y && nmB y && decide (o = bopO op) && chkE T N none sc ix iy && chkE T N none sc x e
    | _ => false
  | .mut m i xs, s => match s with
    | .Expr (.Call (.Attribute (.Name y _) nm apos) es [] cpos) _ => decide (N[i]? = some y) && visB sc y && nmB y && decide (nm = (muNm m : Str)) && chkEs T N none sc xs es && !es.isEmpty && decide (es.length < 30) && (apos.endLine == cpos.line)
    | _ => false
  | .expr x, s => match s with
    | .Expr e _ => chkE T N none sc x e && notComp e
    | _ => false
  | .ret x, s => match s with
    | .Return (some e) _ => chkE T N none sc x e
    | _ => false
  | .retN, s => match s with
    | .Return none _ => true
    | _ => false
  | .ite c t f, s => match s with
    | .If e a b _ => chkE T N none sc c e && chkSs t a && chkSs f b
    | _ => false
  | .for_ tg it body, s => match s with
    | .For t i b [] _ => chkTg N sc none tg t && (tgOk it t && chkI T N none sc it i) && chkSs body b
    | _ => false
  | .whl n c body, s => match s with
    | .While e b [] _ => chkE T N none sc c e && chkSs body b
    | _ => false
  | .brk, s => match s with
    | .Break _ => true
    | _ => false
  | .cnt, s => match s with
    | .Continue _ => true
    | _ => false
  | .pass, s => match s with
    | .Pass _ => true
    | _ => false
  | .rais _ _, s => match s with
    | .Raise _ _ _ => true
    | _ => false
  | .throw cn x, s => match s with
    | .Raise (some (.Call (.Name y _) [e] [] _)) none _ => decide (y = cn) && T.errs.contains y && glB sc y && nmB y && chkE T N none sc x e
    | _ => false
  | .throwK cn x, s => match s with
    | .Raise (some (.Call (.Name y _) [] [⟨some k, e, _⟩] _)) none _ => decide (y = cn) && decide (k = ("value" : Str)) && T.errs.contains y && glB sc y && nmB y && chkE T N none sc x e
    | _ => false
  | .tryN body known cl, s => match s with
    | .Try b (h :: hs) [] [] _ => chkSs body b && known.all (fun c => T.errs.contains c) && chkCl T N sc cl (h :: hs)
    | _ => false
def chkSs : Sms → List Stmt → Bool
  | .nil, ss => ss.isEmpty
  | .cons a r, ss => match ss with
    | s :: t => chkS a s && chkSs r t
    | [] => false
end
end
section
variable {T : Tb} {N : List Str} {CX : CXT} {cf : CF} {W : L2.WX} {sc : Scope} {X : Cx}
theorem PS.mono {st : Stmt} {t t' : TS} (h : PS X st t) (f : ∀ D σ H, t' D σ H → t D σ H) : PS X st t' := ⟨fun pins s σ H D I q => h.run pins s σ H D I (f D σ H q)⟩
theorem PSs.mono {st : List Stmt} {t t' : TS} (h : PSs X st t) (f : ∀ D σ H, t' D σ H → t D σ H) : PSs X st t' := ⟨fun pins s σ H D I q => h.run pins s σ H D I (f D σ H q)⟩
structure GoodS (T : Tb) (N : List Str) (CX : CXT) (cf : CF) (W : L2.WX) (sc : Scope) (X : Cx) : Prop where
  g : Good T N CX cf W none sc X
  hk : sc.kind = .function
  po : PassesOwn (model X.prog X.w) X.A X.env X.xe
  fn : ∀ x, X.fn x = true
  hs : X.stack = X.env :: X.outer
  hf : X.env.frame = some X.env.locals
  tk : Takes X W
  r2 : Room 2 X.A
  et : ErrT T CX X
  ex0 : X.ex = []
  pa : ∀ {pn : List (Addr × Obj)} {xe : Value → Shared → Prop} {V : L2.WX}, Takes (X.tr pn xe) V → ∀ σ, PassesAt CX (X.tr pn xe) σ (fun cls d H => V cls d σ H)
theorem xsE : ∀ {p : Exs} {W : L2.WX} {sc : Scope} {X : Cx}, Good T N CX cf W none sc X → ∀ es, chkEs T N none sc p es = true → PA X es (tXs ⟨X.K, X.mg, W⟩ (evXs cf p))
  | .nil, W, sc, X, G, es, h => by
    cases es with
    | nil => exact PA.mono pa_nil fun σ H Q q => xs_nil q
    | cons _ _ => simp [chkEs] at h
  | .cons a r, W, sc, X, G, es, h => by
    cases es with
    | nil => simp [chkEs] at h
    | cons e es =>
      simp only [chkEs, Bool.and_eq_true] at h
      exact PA.mono (pa_cons (sE a W none sc X G e h.1).1 (xsE G es h.2) (star_ok (chkE_star h.1))) fun σ H Q q => xs_cons q
theorem sw_no {e : Expr} {t : Option Expr} {l : Nat} {env : PySem.Env} (h : notComp e = true) : swapsWith e t l env = pure false := by
  cases e <;> first | rfl | (simp [notComp] at h; done)
theorem sw_oth {e t : Expr} {l : Nat} {env : PySem.Env} (h : ∀ x p, t ≠ .Name x p) : swapsWith e (some t) l env = pure false := by
  cases e <;> first | rfl | (cases t <;> first | rfl | exact absurd rfl (h _ _))
theorem var_pe (G : Good T N CX cf W none sc X) {i : Nat} {y : Str} {p : Pos} (h : N[i]? = some y) (hv : visB sc y = true) (hn : nmB y = true) : PE X (.Name y p) (tVar i) :=
  pe_var (by rw [G.hN]; exact h) (by rw [G.hsc]; exact visB_ok hv) (nmB_ok hn).1 (nmB_ok hn).2.1
theorem loc_of (G : Good T N CX cf W none sc X) {y : Str} (h : locB sc y = true) : L2.Loc X.env.scope y := by rw [G.hsc]; exact locB_ok h
theorem set_comp (G : GoodS T N CX cf W sc X) {own : List Nat} {elt : Ex} {tg : Tg} {it : Itr} {ifs : Exs} {i : Nat} {y : Str} {py pos : Pos} {e : Expr} (hi : N[i]? = some y) (hy : locB sc y = true) (h : chkE T N none sc (.comp own elt tg it ifs) e = true) :
    PS X (.Assign [.Name y py] e pos) (tAsg (tE ⟨X.K, X.mg, W⟩ (evE cf (.comp own elt tg it ifs))) (gName i)) := by
  have hpe := (sE (.comp own elt tg it ifs) W none sc X G.g e h).1
  unfold chkE at h
  split at h
  · rename_i z t itx fs scope lpos
    simp only [Bool.and_eq_true] at h
    obtain ⟨⟨⟨⟨⟨h1, h2⟩, h3⟩, h4', h4⟩, h5⟩, h6⟩ := h
    obtain ⟨q1, q2⟩ := sI it W none sc X G.g itx t tg h4 h4' (tgOk2_of h4' h3)
    have htg : ∀ j ∈ tgIs tg, j ∈ own := fun j hj => by simpa using List.all_eq_true.mp h2 j hj
    have eo : (ownOf N own).map (·.2) = own := by unfold ownOf; rw [List.map_map]; exact List.map_id' own
    have hsw : swapsWith (.ListComp z [⟨t, itx, fs, 0⟩] scope lpos) (some (.Name y py)) pos.line X.env = pure (X.env.blockKind == .function && X.env.kindOf y == some .local && py.line == lpos.line && !(scope.names.any fun (n, k) => n == y && (k == .local || k == .cell))) := rfl
    generalize hb : (X.env.blockKind == .function && X.env.kindOf y == some .local && py.line == lpos.line && !(scope.names.any fun (n, k) => n == y && (k == .local || k == .cell))) = b at hsw
    cases b with
    | false => exact ps_set (by rw [G.g.hN]; exact G.g.nd) (by rw [G.g.hN]; exact hi) (loc_of G.g hy) hpe hsw (.inl (G.fn y))
    | true =>
      simp only [Bool.and_eq_true] at hb
      have hl : X.env.scope.names.lookup y = some .local := by
        have q : X.env.kindOf y = some .local := by simpa using hb.1.1.2
        exact q
      refine PS.mono (ps_setLc (own := ownOf N own) (wi := tI tg ⟨X.K, X.mg, W⟩ (evI cf it)) (g := gT X.K tg) (tt := tT ⟨X.K, X.mg, noW⟩ (evFs cf ifs)) (te := tD ⟨X.K, X.mg, noW⟩ (tk (evE cf elt))) G.g.calm (by rw [G.g.hN]; exact G.g.nd) (by rw [G.g.hN]; exact hi) hl hsw q1 (by rw [G.g.hN, G.g.hsc]; exact blkOk_by h1)
        (fun s H Cc cl fp => pg_ok (G.g.blk s H Cc cl fp) h3) (fun s H Cc cl fp => (sEs ifs noW (some scope) (relS scope sc) _ (G.g.blk s H Cc cl fp)).2.2.2 fs h5)
        (fun s H Cc cl fp => PE.mono (sE elt noW (some scope) (relS scope sc) _ (G.g.blk s H Cc cl fp) z h6).1 fun σ H Q q => tD_ok (g := ⟨X.K, X.mg, noW⟩) q) (fun x => q2 X.env x)) fun D σ H q => ?_
      rw [eo]
      exact lc_ok (g := ⟨X.K, X.mg, W⟩) htg q
  · cases h
theorem set_comp2 (G : GoodS T N CX cf W sc X) {own vs : List Nat} {elt : Ex} {tg tg' : Tg} {it it' : Itr} {ifs ifs' : Exs} {i : Nat} {y : Str} {py pos : Pos} {e : Expr} (hi : N[i]? = some y) (hy : locB sc y = true) (h : chkE T N none sc (.comp2 own vs elt tg it ifs tg' it' ifs') e = true) :
    PS X (.Assign [.Name y py] e pos) (tAsg (tE ⟨X.K, X.mg, W⟩ (evE cf (.comp2 own vs elt tg it ifs tg' it' ifs'))) (gName i)) := by
  have hpe := (sE (.comp2 own vs elt tg it ifs tg' it' ifs') W none sc X G.g e h).1
  unfold chkE at h
  split at h
  · rename_i z t itx fs t1 i1 fs1 scope lpos
    simp only [Bool.and_eq_true] at h
    obtain ⟨⟨⟨⟨⟨⟨⟨⟨⟨⟨h1, h2⟩, h7⟩, h8⟩, h3⟩, h4', h4⟩, h5⟩, h9⟩, h10', h10⟩, h11⟩, h6⟩ := h
    obtain ⟨q1, q2⟩ := sI it W none sc X G.g itx t tg h4 h4' (tgOk2_of h4' h3)
    have htg : ∀ j ∈ tgIs tg, j ∈ own := fun j hj => by simpa using List.all_eq_true.mp h2 j hj
    have hvs : ∀ j ∈ vs, j ∈ own := fun j hj => by simpa using List.all_eq_true.mp h7 j hj
    have htg' : ∀ j ∈ tgIs tg', j ∈ vs := fun j hj => by simpa using List.all_eq_true.mp h8 j hj
    have eo : (ownOf N own).map (·.2) = own := by unfold ownOf; rw [List.map_map]; exact List.map_id' own
    have inn := fun (s : Shared) (H : Hp) (Cc : Addr) (cl : List (Str × Addr)) (fp : List Addr) => sI it' noW (some scope) (relS scope sc) _ (G.g.blk (scope := scope) s H Cc cl fp) i1 t1 tg' h10 h10' (tgOk2_of h10' h9)
    have hsw : swapsWith (.ListComp z [⟨t, itx, fs, 0⟩, ⟨t1, i1, fs1, 0⟩] scope lpos) (some (.Name y py)) pos.line X.env = pure (X.env.blockKind == .function && X.env.kindOf y == some .local && py.line == lpos.line && !(scope.names.any fun (n, k) => n == y && (k == .local || k == .cell))) := rfl
    generalize hb : (X.env.blockKind == .function && X.env.kindOf y == some .local && py.line == lpos.line && !(scope.names.any fun (n, k) => n == y && (k == .local || k == .cell))) = b at hsw
    cases b with
    | false => exact ps_set (by rw [G.g.hN]; exact G.g.nd) (by rw [G.g.hN]; exact hi) (loc_of G.g hy) hpe hsw (.inl (G.fn y))
    | true =>
      simp only [Bool.and_eq_true] at hb
      have hl : X.env.scope.names.lookup y = some .local := by
        have q : X.env.kindOf y = some .local := by simpa using hb.1.1.2
        exact q
      refine PS.mono (ps_setLc2 (own := ownOf N own) (vs1 := vs) (wi := tI tg ⟨X.K, X.mg, W⟩ (evI cf it)) (g := gT X.K tg) (tt := tT ⟨X.K, X.mg, noW⟩ (evFs cf ifs)) (wi1 := tI tg' ⟨X.K, X.mg, noW⟩ (evI cf it')) (g1 := gT X.K tg') (tt1 := tT ⟨X.K, X.mg, noW⟩ (evFs cf ifs')) (te := tD ⟨X.K, X.mg, noW⟩ (tk (evE cf elt))) G.g.calm (by rw [G.g.hN]; exact G.g.nd) (by rw [G.g.hN]; exact hi) hl hsw q1 (by rw [G.g.hN, G.g.hsc]; exact blkOk_by h1) (by rw [eo]; exact hvs)
        (fun s H Cc cl fp => pg_ok (G.g.blk s H Cc cl fp) h3) (fun s H Cc cl fp => (sEs ifs noW (some scope) (relS scope sc) _ (G.g.blk s H Cc cl fp)).2.2.2 fs h5)
        (fun s H Cc cl fp => (inn s H Cc cl fp).1)
        (fun s H Cc cl fp => pg_ok (G.g.blk s H Cc cl fp) h9) (fun s H Cc cl fp => (sEs ifs' noW (some scope) (relS scope sc) _ (G.g.blk s H Cc cl fp)).2.2.2 fs1 h11)
        (fun s H Cc cl fp => PE.mono (sE elt noW (some scope) (relS scope sc) _ (G.g.blk s H Cc cl fp) z h6).1 fun σ H Q q => tD_ok (g := ⟨X.K, X.mg, noW⟩) q) (fun x => q2 X.env x) (inn X.s_0 (fun _ => none) 0 [] []).2) fun D σ H q => ?_
      rw [eo]
      exact lc2_ok (g := ⟨X.K, X.mg, W⟩) htg hvs htg' q
  · cases h
theorem set_ok (G : GoodS T N CX cf W sc X) {x : Ex} {i : Nat} {y : Str} {py pos : Pos} {e : Expr} (hi : N[i]? = some y) (hy : locB sc y = true) (h : chkE T N none sc x e = true) :
    PS X (.Assign [.Name y py] e pos) (tAsg (tE ⟨X.K, X.mg, W⟩ (evE cf x)) (gName i)) := by
  by_cases hc : notComp e = true
  · exact ps_set (by rw [G.g.hN]; exact G.g.nd) (by rw [G.g.hN]; exact hi) (loc_of G.g hy) (sE x W none sc X G.g e h).1 (sw_no hc) (.inl (G.fn y))
  · cases x with
    | comp own elt tg it ifs => exact set_comp G hi hy h
    | comp2 own vs elt tg it ifs tg' it' ifs' => exact set_comp2 G hi hy h
    | _ => exfalso; cases e <;> simp [notComp] at hc <;> simp [chkE] at h
end
end Ev

set_option Elab.async false
set_option linter.all false
set_option maxHeartbeats 8000000
set_option maxRecDepth 100000
/-! statements are sound -/
namespace Ev
open PySem L2 PySem.Spec
section
variable {T : Tb} {N : List Str} {CX : CXT} {cf : CF} {W : L2.WX} {sc : Scope} {X : Cx}
theorem sw_sole {e t : Expr} {l : Nat} {env : PySem.Env} (h : (match t with | .Name _ _ => false | _ => true) = true) : swapsWithSole [t] e l env = pure false := by
  show swapsWith e (some t) l env = pure false
  refine sw_oth fun x p z => ?_
  subst z
  cases h
theorem unp_ok (G : GoodS T N CX cf W sc X) {is : List Nat} {x : Ex} {ts : List Expr} {k : Nat} {p pos : Pos} {e : Expr} (h1 : chkNs N sc none is ts = true) (h2 : chkE T N none sc x e = true) (h3 : notTuple e = true) :
    PS X (.Assign [.Tuple ts k p] e pos) (tS ⟨X.K, X.mg, W⟩ (evS cf (.unp is x))) := by
  have he := (sE x W none sc X G.g e h2).1
  have hg : PG X (.Tuple ts k p) (gT X.K (.tp is)) := pg_ok G.g (tg := .tp is) h1
  refine PS.mono (ps_asg (PE.mono he fun σ H Q q => tD_ok (g := ⟨X.K, X.mg, W⟩) q) hg (sw_sole rfl) ?_ rfl) fun D σ H q => unp_rd q
  cases e <;> first | rfl | (simp [notTuple] at h3; done)
theorem names2 {is : List Nat} {ts : List Expr} : chkNs N sc none is ts = true → ts.length = is.length := by
  induction is generalizing ts with
  | nil => intro h; cases ts with
    | nil => rfl
    | cons _ _ => simp [chkNs] at h
  | cons i is ih =>
    intro h
    cases ts with
    | nil => simp [chkNs] at h
    | cons t ts =>
      cases t <;> simp only [chkNs, Bool.and_eq_true] at h <;> first | (cases h; done) | skip
      simp [ih h.2]
theorem names_cons {i : Nat} {is : List Nat} {ts : List Expr} (h : chkNs N sc none (i :: is) ts = true) : ∃ x p r, ts = .Name x p :: r ∧ N[i]? = some x ∧ chkNs N sc none is r = true := by
  cases ts with
  | nil => simp [chkNs] at h
  | cons t ts =>
    cases t <;> simp only [chkNs, Bool.and_eq_true, decide_eq_true_eq] at h <;> first | (cases h; done) | skip
    exact ⟨_, _, _, rfl, h.1.1.1, h.2⟩
theorem names_nil {ts : List Expr} (h : chkNs N sc none [] ts = true) : ts = [] := by
  cases ts with
  | nil => rfl
  | cons t ts => simp [chkNs] at h
theorem par_ok (G : GoodS T N CX cf W sc X) {is : List Nat} {xs : Exs} {ts vs : List Expr} {k k2 : Nat} {p p2 pos : Pos} (h1 : chkNs N sc none is ts = true) (h2 : chkEs T N none sc xs vs = true) (h3 : is.length ≤ 30)
    (h4 : (match swOut sc ts vs with
        | 0 => true
        | 1 => decide (is.Nodup) && decide (swNs sc ts = is.filterMap fun i => N[i]?) && (is.all fun i => match N[i]? with | some x => decide (sc.names.lookup x = some .local) | none => false) && is23 is
        | _ => false) = true) :
    PS X (.Assign [.Tuple ts k p] (.Tuple vs k2 p2) pos) (tS ⟨X.K, X.mg, W⟩ (evS cf (.par is xs))) := by
  have he := xsE G.g vs h2
  obtain ⟨sw0, sw1⟩ := sw_out (ts := ts) (vs := vs) (k := k) (k2 := k2) (p := p) (p2 := p2) G.g.hsc G.hk
  obtain ⟨hg, hl, hf⟩ := pgs_ok G.g h1
  generalize hs : swOut sc ts vs = w at h4 sw0 sw1
  match w with
  | 0 =>
    exact PS.mono (ps_asg (pe_tup he) (pg_tup G.g.calm hg hl hf) (sw_sole rfl) (sw0 rfl) rfl) fun D σ H q => parR_rd (Nat.le_trans h3 (by decide)) q
  | 1 =>
    simp only [Bool.and_eq_true, decide_eq_true_eq] at h4
    obtain ⟨⟨⟨n1, n2⟩, n3⟩, n4⟩ := h4
    have hw := sw1 rfl
    rw [n2] at hw
    have loc : ∀ i x, i ∈ is → N[i]? = some x → X.env.scope.names.lookup x = some .local := fun i x hi hx => by
      have := List.all_eq_true.mp n3 i hi
      rw [hx] at this
      rw [G.g.hsc]
      simpa using this
    match is, n4, h1, h3, n1, hw, loc with
    | [i, j], _, h1, h3, n1, hw, loc =>
      · obtain ⟨x, px, r1, rfl, hi, h1⟩ := names_cons h1
        obtain ⟨y, py, r2, rfl, hj, h1⟩ := names_cons h1
        cases names_nil h1
        have hlv : vs.length = 2 := by
          by_cases q : vs.length = 2
          · exact q
          · exfalso
            unfold swOut at hs
            rw [if_pos (by simp [q])] at hs
            cases hs
        match vs, hlv with
        | [a, b], _ =>
          refine PS.mono (ps_par G.g.calm (by rw [G.g.hN]; exact G.g.nd) (by rw [G.g.hN]; exact hi) (by rw [G.g.hN]; exact hj) (fun z => by subst z; simp at n1) (loc i x (by simp) hi) (loc j y (by simp) hj) he ?_ (sw_sole rfl)) fun D σ H q => par2_rd q
          simpa [hi, hj] using hw
    | [i, j, l], _, h1, h3, n1, hw, loc =>
      · obtain ⟨x, px, r1, rfl, hi, h1⟩ := names_cons h1
        obtain ⟨y, py, r2, rfl, hj, h1⟩ := names_cons h1
        obtain ⟨z, pz, r3, rfl, hl', h1⟩ := names_cons h1
        cases names_nil h1
        have hlv : vs.length = 3 := by
          by_cases q : vs.length = 3
          · exact q
          · exfalso
            unfold swOut at hs
            rw [if_pos (by simp [q])] at hs
            cases hs
        match vs, hlv with
        | [a, b, c], _ =>
          simp only [List.nodup_cons, List.mem_cons, List.not_mem_nil, or_false, not_or] at n1
          refine PS.mono (ps_par3 G.g.calm (by rw [G.g.hN]; exact G.g.nd) (by rw [G.g.hN]; exact hi) (by rw [G.g.hN]; exact hj) (by rw [G.g.hN]; exact hl') n1.1.1 n1.1.2 n1.2.1 (loc i x (by simp) hi) (loc j y (by simp) hj) (loc l z (by simp) hl') he ?_ (sw_sole rfl)) fun D σ H q => par3_rd q
          simpa [hi, hj, hl'] using hw
  | n + 2 => cases h4
theorem mut_ok (G : GoodS T N CX cf W sc X) {m : Mu} {i : Nat} {xs : Exs} {y : Str} {py apos cpos pos : Pos} {e : Expr} {es : List Expr} (hi : N[i]? = some y) (hv : visB sc y = true) (hn : nmB y = true) (h2 : chkEs T N none sc xs (e :: es) = true) (h3 : (e :: es).length < 30) (h4 : (apos.endLine == cpos.line) = true) :
    PS X (.Expr (.Call (.Attribute (.Name y py) (muNm m : Str) apos) (e :: es) [] cpos) pos) (tS ⟨X.K, X.mg, W⟩ (evS cf (.mut m i xs))) := by
  have he := ((sEs xs W none sc X G.g).1 (e :: es) h2).1
  have hst := chkEs_star h2
  have hfew : ((backTo cpos (starEach (e :: es) X.env)).all (fun x => !x.1) && (backToKw cpos (keywordEach [] X.env)).all (fun x => x.1.isSome)
      && decide ((e :: es).length + ([] : List Keyword).length + (if ([] : List Keyword).isEmpty then 0 else 1) < 30)) = true := by
    have q1 := stars_ok (env := X.env) (pos := cpos) hst
    have q2 : (backToKw cpos (keywordEach [] X.env)).all (fun x => x.1.isSome) = true := rfl
    rw [q2, Bool.and_true, Bool.and_eq_true]
    refine ⟨?_, by simpa using h3⟩
    rw [List.all_eq_not_any_not]
    simpa using q1
  have hpl : (backTo cpos (starEach es X.env)).any (·.1) = false := stars_ok fun z hz => hst z (List.mem_cons_of_mem _ hz)
  cases m with
  | append => exact PS.mono (ps_expr (pe_bm F.plainAttrs_list F.slot_list_append rfl (mt_mu .append) (var_pe G.g hi hv hn) he rfl hfew h4 (star_ok (hst e List.mem_cons_self)) hpl) (sw_no rfl)) fun D σ H q => mut_rd q
  | extend => exact PS.mono (ps_expr (pe_bm F.plainAttrs_list F.slot_list_extend rfl (mt_mu .extend) (var_pe G.g hi hv hn) he rfl hfew h4 (star_ok (hst e List.mem_cons_self)) hpl) (sw_no rfl)) fun D σ H q => mut_rd q
  | insert => exact PS.mono (ps_expr (pe_bm F.plainAttrs_list F.slot_list_insert rfl (mt_mu .insert) (var_pe G.g hi hv hn) he rfl hfew h4 (star_ok (hst e List.mem_cons_self)) hpl) (sw_no rfl)) fun D σ H q => mut_rd q
theorem mut_any (G : GoodS T N CX cf W sc X) {m : Mu} {i : Nat} {xs : Exs} {y : Str} {py apos cpos pos : Pos} {es : List Expr} (hi : N[i]? = some y) (hv : visB sc y = true) (hn : nmB y = true) (h2 : chkEs T N none sc xs es = true) (h0 : (!es.isEmpty) = true) (h3 : es.length < 30) (h4 : (apos.endLine == cpos.line) = true) :
    PS X (.Expr (.Call (.Attribute (.Name y py) (muNm m : Str) apos) es [] cpos) pos) (tS ⟨X.K, X.mg, W⟩ (evS cf (.mut m i xs))) := by
  cases es with
  | nil => simp at h0
  | cons e es => exact mut_ok G hi hv hn h2 h3 h4
theorem noSlc {e : Expr} {p : Ex} (h : chkE T N none sc p e = true) : ∀ a b c q, e ≠ .Slice a b c q := by
  rintro a b c q rfl
  cases p <;> simp [chkE] at h
theorem sub_assign {o i : Expr} {pos : Pos} {env : PySem.Env} (h : ∀ a b c q, i ≠ .Slice a b c q) : ∀ v, assign (.Subscript o i pos) env v = (do
      let ov ← holding [v] (eval o env)
      let iv ← holding [v, ov] (eval i env)
      standAt pos
      holding [v, ov, iv] (setItem ov iv v)
      release [v, ov, iv] []) := by
  intro v
  cases i <;> first | rfl | exact absurd rfl (h _ _ _ _)
theorem aug_store {i : Expr} (h : ∀ a b c q, i ≠ .Slice a b c q) : ∀ ov iv new, augStore i ov iv new = (do holding [new, ov, iv] (setItem ov iv new); release [new, ov, iv] []; pure .next) := by
  intros
  cases i <;> first | rfl | exact absurd rfl (h _ _ _ _)
/-! ### errors -/
theorem GoodS.tr (G : GoodS T N CX cf W sc X) {V : L2.WX} {pn : List (Addr × Obj)} {xe : Value → Shared → Prop} (ps : ∀ σ, PassesAt CX (X.tr pn xe) σ (fun cls d H => V cls d σ H)) (tk : Takes (X.tr pn xe) V) (po : PassesOwn (model X.prog X.w) X.A X.env xe) : GoodS T N CX cf V sc (X.tr pn xe) where
  g := { hsc := G.g.hsc, hN := G.g.hN, nd := G.g.nd, calm := G.g.calm, hu := G.g.hu, hf := G.g.hf, blt := G.g.blt, con := G.g.con, fnv := G.g.fnv, dcs := G.g.dcs, r2 := G.g.r2, err := G.g.err, isx := G.g.isx, gcd := G.g.gcd, prm := G.g.prm, cxF := G.g.cxF, pass := ps
         fns := fun i fn h => by
           obtain ⟨a, fd, k, F⟩ := G.g.fns i fn h
           exact ⟨a, fd, k, F.mg, F.kp, F.bd, F.kb, F.ok, F.room⟩ }
  hk := G.hk
  po := po
  fn := G.fn
  hs := G.hs
  hf := G.hf
  tk := tk
  r2 := G.r2
  et := ⟨G.et.er, G.et.ex⟩
  ex0 := G.ex0
  pa := G.pa
theorem throw_rd {g : G} {cn : Str} {Cl : Addr} {p : Ev.M D} {D0 : Ends} {σ : L2.St} {H : Hp} (hm : g.mg cn = some (.ref Cl)) (h : tS g (fun e => SR.of (p e) fun d e1 => .exc cn d e1) D0 σ H) : tD g p σ H (afterE g.W Cl σ) := by
  obtain ⟨c, M, e, s, h⟩ := h
  refine ⟨c, M, e, s, (Es.of s h).imp fun d M1 H1 e1 s1 x1 k1 h1 v r dd hdd => ?_⟩
  obtain ⟨s2, x2⟩ := s1.lay hdd (.xd [(("value" : Str), v)])
  exact h1 M1 σ _ _ _ s2 (x2.fx s1) ⟨Cl, dd, v, hm, rfl, rfl, ⟨upd_same, fun q => s1.mh dd q hdd⟩, s1.rel x2 r⟩
/-- what a served suite does -/
def tAct (K : PySem.W.Frag) (mg : Str → Option Value) (i : Nat) : Act → Addr → Value → Option Addr → TE
  | .tv t, a, cls, d => tTupF (tCons (tC (.str t)) (tCons (tVal K mg i a cls d) tNil))
  | .keep, _, _, _ => tVar i
  | .vl, a, cls, d => tVal K mg i a cls d
def tSu (K : PySem.W.Frag) (mg : Str → Option Value) (i j : Nat) (t : Act) : Addr → Value → Option Addr → TS := fun a cls d => tAsg (tAct K mg i t a cls d) (gName j)
def Act.kp : Act → Bool
  | .keep => true
  | _ => false
/-- the clauses and their readings -/
inductive ClR (T : Tb) (X : Cx) : List (Str × Nat × Nat × Act) → List Cl3 → Prop
  | nil : ClR T X [] []
  | cons {q : Str × Nat × Nat × Act} {Cc : Addr} {r : List (Str × Nat × Nat × Act)} {l : List Cl3} (hm : X.mg q.1 = some (.ref Cc)) (ht : T.errs.contains q.1 = true) (hne : q.2.1 ≠ q.2.2.1) (h : ClR T X r l) : ClR T X (q :: r) ((.ref Cc, q.2.1, q.2.2.2.kp, tSu X.K X.mg q.2.1 q.2.2.1 q.2.2.2) :: l)
theorem cl_ok (G : GoodS T N CX cf W sc X) : ∀ {cl : List (Str × Nat × Nat × Act)} {hds : List ExceptHandler}, chkCl T N sc cl hds = true → ∃ l, ClR T X cl l ∧ ClOk X hds l
  | [], hds, h => by
    cases hds with
    | nil => exact ⟨[], .nil, .nil⟩
    | cons _ _ => simp [chkCl] at h
  | q :: r, hds, h => by
    cases hds with
    | nil => simp [chkCl] at h
    | cons h0 hs =>
      simp only [chkCl, Bool.and_eq_true] at h
      obtain ⟨h, h15⟩ := h
      obtain ⟨l, w1, w2⟩ := cl_ok G h15
      obtain ⟨q1, q2, q3, act⟩ := q
      unfold chkC1 at h
      split at h
      case h_2 => cases h
      rename_i x xp n y py v ap hp
      simp only [Bool.and_eq_true, decide_eq_true_eq] at h
      obtain ⟨⟨⟨⟨⟨⟨⟨⟨⟨⟨⟨h1, h2⟩, h3⟩, h4⟩, h5⟩, h6⟩, h8⟩, h9⟩, h11⟩, h12⟩, h13⟩, h14⟩ := h
      subst h1
      obtain ⟨Cn, Cc, _, hm, _⟩ := G.et.ex _ _ h2 h2
      refine ⟨_, .cons hm h2 h13 w1, ?_⟩
      refine .cons ⟨G.g.gl h3, (nmB_ok h4).1, .inl hm⟩ (by rw [G.g.hN]; exact h5) (show X.env.scope.names.lookup _ = some .local by rw [G.g.hsc]; exact h6) (fun a oe cls d pn hz hf => ?_) w2
      have hv : ∀ mp : Pos, PE (X.suite a ((a, oe) :: pn)) (.Name n mp) (tVar q2) := fun mp => pe_var (show X.N[_]? = _ by rw [G.g.hN]; exact h5) (show Vis X.env.scope _ by rw [G.g.hsc]; exact visB_ok h8) (nmB_ok h9).1 (nmB_ok h9).2.1
      have key : PE (X.suite a ((a, oe) :: pn)) v (tAct X.K X.mg q2 act a cls d) ∧ notComp v = true := by
        split at h14
        · simp only [Bool.and_eq_true, decide_eq_true_eq] at h14
          obtain ⟨⟨rfl, rfl⟩, rfl⟩ := h14
          exact ⟨pe_tupF (X := X.suite a ((a, oe) :: pn)) (pa_cons (X := X.suite a ((a, oe) :: pn)) pe_str (pa_cons (X := X.suite a ((a, oe) :: pn)) (pe_val hz hf (hv _)) pa_nil (by rfl)) (by rfl)), rfl⟩
        · have h14 := of_decide_eq_true h14
          subst h14
          exact ⟨hv _, rfl⟩
        · simp only [Bool.and_eq_true, decide_eq_true_eq] at h14
          obtain ⟨rfl, rfl⟩ := h14
          exact ⟨pe_val hz hf (hv _), rfl⟩
        · cases h14
      exact pss_one (ps_set (X := X.suite a ((a, oe) :: pn)) (show X.N.Nodup by rw [G.g.hN]; exact G.g.nd) (show X.N[_]? = _ by rw [G.g.hN]; exact h11) (loc_of G.g h12) key.1 (sw_no key.2) (.inl (G.fn _)))
theorem hit_rd {T : Tb} {CX : CXT} {X : Cx} {g : G} (gX : g.K = X.K ∧ g.mg = X.mg) (et : ErrT T CX X) {cn : Str} (hcn : T.errs.contains cn = true) {c : C} {M : Addr → Prop} {H : Hp} {d : D} {e1 : Fm} {D0 : Ends} : ∀ {cl : List (Str × Nat × Nat × Act)} {l : List Cl3}, ClR T X cl l → Es g c M H (hitCl cl cn d e1) D0 →
    ∀ M' σ' H' cls dd, Sr g.K c M' σ' H' e1 → Fx M H M' H' → XRel g M' H' cn d cls dd → wCl X.K g.W D0 l cls dd σ' H'
  | [], _, .nil, h, M', σ', H', cls, dd, s, x, r => h M' σ' H' cls dd s x r
  | q :: r0, _, .cons (Cc := Cc) hm ht hne hr, h, M', σ', H', cls, dd, s, x, r => by
    obtain ⟨Cl, p, v, x1, rfl, rfl, x4, x5⟩ := id r
    obtain ⟨Cn, Cc', y1, y2, y3⟩ := et.ex _ _ hcn ht
    obtain ⟨fI, fd, Cl', hE, _⟩ := et.er _ hcn
    have hE1 := hE.mg
    rw [gX.2, y1] at x1
    cases x1
    rw [y1] at hE1
    cases hE1
    rw [hm] at y2
    cases y2
    obtain ⟨q1, q2, q3, act⟩ := q
    refine ⟨catches q1 cn, y3, fun hb a ha => ?_, fun hb => ?_⟩
    · unfold hitCl at h
      rw [if_pos hb] at h
      by_cases hl : q2 < e1.length
      case neg => rw [if_neg hl] at h; exact h.elim
      rw [if_pos hl] at h
      cases hw : wipeF e1 [q2] with
      | none => rw [hw] at h; exact h.elim
      | some e2 =>
        rw [hw] at h
        obtain ⟨e3, he, h3⟩ := Es.opt h
        obtain ⟨s2, l2, _, _, _⟩ := wipeF_ok hw s
        have hset : (σ'.set q2 (some (V.ref a)))[q2]? = some (some (.ref a)) := List.getElem?_set_self (by rw [s.len]; exact hl)
        have e4 : ∀ w : V, (wipe σ' [q2]).set q3 (some w) = ((σ'.set q2 (some (.ref a))).set q3 (some w)).set q2 none := fun w => by
          show (σ'.set q2 none).set q3 (some w) = _
          rw [List.set_comm _ _ (Ne.symm hne), List.set_set]
        have val : ∀ {Q : VK}, Q v H' → tVal X.K X.mg q2 a (.ref Cl) (some p) (σ'.set q2 (some (.ref a))) H' Q := fun q => ⟨hset, Cl, fI, p, cn, v, rfl, hE, rfl, x4.1, q⟩
        cases act with
        | tv t =>
          refine ⟨hset, Cl, fI, p, cn, v, rfl, hE, rfl, x4.1, (by decide : 2 ≤ sizeLine), fun b o ho hb2 => ?_⟩
          obtain ⟨s3, x3⟩ := s2.lay hb2 (.frz o (.tup [.str t, v]))
          have rt := s2.newTup (ds := [.str t, d]) (vs := [.str t, v]) ho hb2 (by decide : 2 ≤ sizeLine) (Rels.cons (by simp only [Rel]) (Rels.cons x5 Rels.nil))
          have s4 := s3.setV he rt
          rw [e4] at s4
          exact h3 M' _ _ s4 (x.trans (x3.fx s2))
        | vl =>
          refine val ?_
          have s4 := s2.setV he x5
          rw [e4] at s4
          exact h3 M' _ _ s4 x
        | keep =>
          refine ⟨_, hset, ?_⟩
          obtain ⟨s3, x3⟩ := s2.lay ha (ExE (.ref Cl) (some p) a)
          have np : p ≠ a := fun z => by rw [z, ha] at x4; cases x4.1
          have rt : Rel g.K M' (upd H' a (ExE (.ref Cl) (some p) a)) (errD cn d) (.ref a) := rel_err ⟨upd_same, fun q => s2.mh a q ha⟩ (by rw [gX.1]; exact hE.kn) ⟨by rw [upd_ne np]; exact x4.1, x4.2⟩ (s2.rel x3 x5)
          have s4 := s3.setV he rt
          rw [e4] at s4
          exact h3 M' _ _ s4 (x.trans (x3.fx s2))
    · unfold hitCl at h
      rw [hb, if_neg Bool.false_ne_true] at h
      exact hit_rd gX et hcn hr h M' σ' H' _ _ s x r
theorem try_rd {T : Tb} {CX : CXT} {X : Cx} {W : L2.WX} (et : ErrT T CX X) {p : Fm → SR} {known : List Str} (hk : known.all (fun c => T.errs.contains c) = true) {cl : List (Str × Nat × Nat × Act)} {l : List Cl3} (hr : ClR T X cl l) {D0 : Ends} {σ : L2.St} {H : Hp}
    (h : tS ⟨X.K, X.mg, W⟩ (fun e => match p e with | .exc cn d e1 => if known.contains cn = true then hitCl cl cn d e1 else .stuck | o => o) D0 σ H) : tS ⟨X.K, X.mg, wCl X.K W D0 l⟩ p D0 σ H := by
  obtain ⟨c, M, e, s, h⟩ := h
  refine ⟨c, M, e, s, ?_⟩
  cases hp : p e with
  | next e1 => simp only [hp] at h; exact h
  | ret fr d e1 => simp only [hp] at h; exact h
  | brk e1 => simp only [hp] at h; exact h
  | cnt e1 => simp only [hp] at h; exact h
  | stuck => simp only [hp] at h; exact h
  | exc cn d e1 =>
    simp only [hp] at h
    by_cases hc : known.contains cn = true
    · rw [if_pos hc] at h
      have hcn := List.all_eq_true.mp hk cn (by simpa using hc)
      exact fun M' σ' H' cls dd s' x r => hit_rd (g := ⟨X.K, X.mg, W⟩) ⟨rfl, rfl⟩ et hcn hr h M' σ' H' cls dd s' x r
    · rw [if_neg hc] at h; exact h.elim
mutual
theorem sS : ∀ (p : Sm) (W : L2.WX) (sc : Scope) (X : Cx), GoodS T N CX cf W sc X → ∀ st, chkS T N sc p st = true → PS X st (tS ⟨X.K, X.mg, W⟩ (evS cf p))
  | .set i x, W, sc, X, G, st, h => by
    unfold chkS at h
    split at h
    · simp only [Bool.and_eq_true, decide_eq_true_eq] at h
      obtain ⟨⟨h1, h2⟩, h3⟩ := h
      exact PS.mono (set_ok G h1 h2 h3) fun D σ H q => set_rd q
    · cases h
  | .unp is x, W, sc, X, G, st, h => by
    unfold chkS at h
    split at h
    · simp only [Bool.and_eq_true] at h
      exact unp_ok G h.1.1 h.1.2 h.2
    · cases h
  | .par is xs, W, sc, X, G, st, h => by
    unfold chkS at h
    split at h
    · simp only [Bool.and_eq_true, decide_eq_true_eq] at h
      exact par_ok G h.1.1.1 h.1.1.2 h.1.2 h.2
    · cases h
  | .aug i op x, W, sc, X, G, st, h => by
    unfold chkS at h
    split at h
    · simp only [Bool.and_eq_true, decide_eq_true_eq] at h
      obtain ⟨⟨⟨⟨⟨h1, h2⟩, h3⟩, h4⟩, rfl⟩, h6⟩ := h
      exact PS.mono (ps_aug (by rw [G.g.hN]; exact G.g.nd) (by rw [G.g.hN]; exact h1) (loc_of G.g h2) (PE.mono (sE x W none sc X G.g _ h6).1 fun σ H Q q => tD_ok (g := ⟨X.K, X.mg, W⟩) q) (pip_aug op) (.inl (G.fn _))) fun D σ H q => aug_rd q
    · cases h
  | .sto i ix x, W, sc, X, G, st, h => by
    unfold chkS at h
    split at h
    · simp only [Bool.and_eq_true, decide_eq_true_eq] at h
      obtain ⟨⟨⟨⟨h1, h2⟩, h3⟩, h4⟩, h5⟩ := h
      exact PS.mono (ps_asg (PE.mono (sE x W none sc X G.g _ h5).1 fun σ H Q q => tD_ok (g := ⟨X.K, X.mg, W⟩) q) (pg_sub (var_pe G.g h1 h2 h3) (PE.mono (sE ix W none sc X G.g _ h4).1 fun σ H Q q => tD_ok (g := ⟨X.K, X.mg, W⟩) q) set_list (sub_assign (noSlc h4))) (sw_sole rfl) (by cases x <;> first | rfl | skip) rfl) fun D σ H q => sto_rd q
    · cases h
  | .pst i ix j jx xs, W, sc, X, G, st, h => by
    unfold chkS at h
    split at h
    · rename_i y py iy ps z pz iz ps2 k p vs k2 p2 pos
      simp only [Bool.and_eq_true, decide_eq_true_eq] at h
      obtain ⟨⟨⟨⟨⟨⟨⟨⟨⟨h1, h2⟩, h3⟩, h4⟩, g1⟩, g2⟩, g3⟩, g4⟩, h5⟩, h6⟩ := h
      have p1 : PG X (.Subscript (.Name y py) iy ps) (gSub (tVar i) (tD ⟨X.K, X.mg, W⟩ (tk (evE cf ix))) rSetL) := pg_sub (var_pe G.g h1 h2 h3) (PE.mono (sE ix W none sc X G.g _ h4).1 fun σ H Q q => tD_ok (g := ⟨X.K, X.mg, W⟩) q) set_list (sub_assign (noSlc h4))
      have p2' : PG X (.Subscript (.Name z pz) iz ps2) (gSub (tVar j) (tD ⟨X.K, X.mg, W⟩ (tk (evE cf jx))) rSetL) := pg_sub (var_pe G.g g1 g2 g3) (PE.mono (sE jx W none sc X G.g _ g4).1 fun σ H Q q => tD_ok (g := ⟨X.K, X.mg, W⟩) q) set_list (sub_assign (noSlc g4))
      refine PS.mono (ps_asg (pe_tup ((sEs xs W none sc X G.g).1 _ h5).1) (pg_tup (n := 2) G.g.calm (pgs_cons p1 (pgs_cons p2' pgs_nil)) rfl rfl) ?_ ?_) fun D σ H q => pst_rd q
      · exact sw_sole rfl
      · refine (sw_out G.g.hsc G.hk).1 ?_
        unfold swOut
        split
        · rfl
        · split
          · rfl
          · rfl
    · cases h
  | .augS i ix op x, W, sc, X, G, st, h => by
    unfold chkS at h
    split at h
    · simp only [Bool.and_eq_true, decide_eq_true_eq] at h
      obtain ⟨⟨⟨⟨⟨h1, h2⟩, h3⟩, rfl⟩, h4⟩, h5⟩ := h
      exact PS.mono (ps_augS (var_pe G.g h1 h2 h3) (PE.mono (sE ix W none sc X G.g _ h4).1 fun σ H Q q => tD_ok (g := ⟨X.K, X.mg, W⟩) q) get_ok (PE.mono (sE x W none sc X G.g _ h5).1 fun σ H Q q => tD_ok (g := ⟨X.K, X.mg, W⟩) q) (pip_aug op) set_list (aug_store (noSlc h4))) fun D σ H q => augS_rd q
    · cases h
  | .mut m i xs, W, sc, X, G, st, h => by
    unfold chkS at h
    split at h
    · simp only [Bool.and_eq_true, decide_eq_true_eq] at h
      obtain ⟨⟨⟨⟨⟨⟨⟨h1, h2⟩, h3⟩, rfl⟩, h4⟩, h5⟩, h6⟩, h7⟩ := h
      exact mut_any G h1 h2 h3 h4 h5 h6 h7
    · cases h
  | .expr x, W, sc, X, G, st, h => by
    unfold chkS at h
    split at h
    · simp only [Bool.and_eq_true] at h
      exact PS.mono (ps_expr (sE x W none sc X G.g _ h.1).1 (sw_no h.2)) fun D σ H q => expr_rd q
    · cases h
  | .ret x, W, sc, X, G, st, h => by
    unfold chkS at h
    split at h
    · exact PS.mono (ps_ret (sE x W none sc X G.g _ h).1) fun D σ H q => ret_rd q
    · cases h
  | .retN, W, sc, X, G, st, h => by
    unfold chkS at h
    split at h
    · exact PS.mono ps_retN fun D σ H q => retN_rd q
    · cases h
  | .ite c t f, W, sc, X, G, st, h => by
    unfold chkS at h
    split at h
    · simp only [Bool.and_eq_true] at h
      exact PS.mono (ps_if (sE c W none sc X G.g _ h.1.1).2 (sSs t W sc X G _ h.1.2) (sSs f W sc X G _ h.2)) fun D σ H q => if_rd q
    · cases h
  | .for_ tg it body, W, sc, X, G, st, h => by
    unfold chkS at h
    split at h
    · simp only [Bool.and_eq_true] at h
      obtain ⟨q1, q2⟩ := sI it W none sc X G.g _ _ tg h.1.2.2 h.1.2.1 (tgOk2_of h.1.2.1 h.1.1)
      exact PS.mono (ps_for G.po G.g.calm q1 (pg_ok G.g h.1.1) (sSs body W sc X G _ h.2) (fun x => q2 X.env x)) fun D σ H q => for_rd q
    · cases h
  | .whl n c body, W, sc, X, G, st, h => by
    unfold chkS at h
    split at h
    · simp only [Bool.and_eq_true] at h
      exact PS.mono (ps_while G.po (sE c W none sc X G.g _ h.1).2 (sSs body W sc X G _ h.2)) fun D σ H q => whl_rd q
    · cases h
  | .brk, W, sc, X, G, st, h => by
    unfold chkS at h
    split at h
    · exact PS.mono ps_break fun D σ H q => brk_rd q
    · cases h
  | .cnt, W, sc, X, G, st, h => by
    unfold chkS at h
    split at h
    · exact PS.mono ps_continue fun D σ H q => cnt_rd q
    · cases h
  | .pass, W, sc, X, G, st, h => by
    unfold chkS at h
    split at h
    · exact PS.mono ps_pass fun D σ H q => next_rd q
    · cases h
  | .rais _ _, W, sc, X, G, st, h => PS.mono ps_never fun D σ H q => by obtain ⟨c, M, e, s, q⟩ := q; exact q
  | .throw cn x, W, sc, X, G, st, h => by
    unfold chkS at h
    split at h
    · rename_i y p1 e pos1 pos2
      simp only [Bool.and_eq_true, decide_eq_true_eq] at h
      obtain ⟨⟨⟨⟨rfl, h2⟩, h3⟩, h4⟩, h5⟩ := h
      obtain ⟨fI, fd, Cl, hE, tI, F1, hb, _⟩ := G.et.er _ h2
      exact PS.mono (ps_rais hE tI F1 G.r2 hb (fun pins σ H s e s' I q => (G.g.cxF _ _ _ _ _ q).elim) G.g.calm G.tk (G.g.gl h3) (nmB_ok h4).1 (PE.mono (sE x W none sc X G.g _ h5).1 fun σ H Q q => tD_ok (g := ⟨X.K, X.mg, W⟩) q) (chkE_star h5)) fun D σ H q => throw_rd hE.mg q
    · cases h
  | .throwK cn x, W, sc, X, G, st, h => by
    unfold chkS at h
    split at h
    · simp only [Bool.and_eq_true, decide_eq_true_eq] at h
      obtain ⟨⟨⟨⟨⟨rfl, rfl⟩, h2⟩, h3⟩, h4⟩, h5⟩ := h
      obtain ⟨fI, fd, Cl, hE, tI, F1, _, hb⟩ := G.et.er _ h2
      exact PS.mono (ps_raisK hE tI F1 G.r2 hb (fun pins σ H s e s' I q => (G.g.cxF _ _ _ _ _ q).elim) G.g.calm G.tk (G.g.gl h3) (nmB_ok h4).1 (PE.mono (sE x W none sc X G.g _ h5).1 fun σ H Q q => tD_ok (g := ⟨X.K, X.mg, W⟩) q)) fun D σ H q => throw_rd hE.mg q
    · cases h
  | .tryN b known cl, W, sc, X, G, st, h => by
    unfold chkS at h
    split at h
    · rename_i bs h0 hs pos
      simp only [Bool.and_eq_true] at h
      obtain ⟨⟨h1, h2⟩, h3⟩ := h
      obtain ⟨l, w1, w2⟩ := cl_ok G h3
      exact PS.mono (ps_tryN (tb := fun V => tS ⟨X.K, X.mg, V⟩ (evSs cf b)) G.ex0 G.hs G.hf (by rw [G.g.hN]; exact G.g.nd) G.tk w2 (fun V pn xe tk po => sSs b V sc (X.tr pn xe) (G.tr (G.pa tk) tk po) bs h1)) fun D σ H q => try_rd G.et h2 w1 q
    · cases h
theorem sSs : ∀ (p : Sms) (W : L2.WX) (sc : Scope) (X : Cx), GoodS T N CX cf W sc X → ∀ sts, chkSs T N sc p sts = true → PSs X sts (tS ⟨X.K, X.mg, W⟩ (evSs cf p))
  | .nil, W, sc, X, G, sts, h => by
    cases sts with
    | nil => exact PSs.mono pss_nil fun D σ H q => next_rd q
    | cons _ _ => simp [chkSs] at h
  | .cons a r, W, sc, X, G, sts, h => by
    cases sts with
    | nil => simp [chkSs] at h
    | cons s t =>
      simp only [chkSs, Bool.and_eq_true] at h
      exact PSs.mono (pss_cons (sS a W sc X G s h.1) (sSs r W sc X G t h.2)) fun D σ H q => seq_rdS q
end
end
end Ev

set_option Elab.async false
set_option linter.all false
set_option maxHeartbeats 8000000
set_option maxRecDepth 100000
/-! a table of defs is sound -/
namespace Ev
open PySem L2 PySem.Spec
/-- the lent lists by slots -/
def lentPs : List Bool → List V → Nat → List (Nat × Addr)
  | true :: ls, .ref a :: vs, i => (i, a) :: lentPs ls vs (i + 1)
  | _ :: ls, _ :: vs, i => lentPs ls vs (i + 1)
  | _, _, _ => []
section
variable {K : PySem.W.Frag} {M : Addr → Prop} {H : Hp}
theorem lentPs_ge : ∀ {ls : List Bool} {vs : List V} {i : Nat} {p : Nat × Addr}, p ∈ lentPs ls vs i → i ≤ p.1
  | [], vs, i, p, h => by cases vs <;> simp [lentPs] at h
  | l :: ls, [], i, p, h => by cases l <;> simp [lentPs] at h
  | false :: ls, v :: vs, i, p, h => by
    have := lentPs_ge (show p ∈ lentPs ls vs (i + 1) from by simpa [lentPs] using h)
    omega
  | true :: ls, v :: vs, i, p, h => by
    cases v with
    | ref a =>
      rcases List.mem_cons.mp (show p ∈ (i, a) :: lentPs ls vs (i + 1) from h) with rfl | h
      · exact Nat.le_refl _
      · have := lentPs_ge h
        omega
    | _ =>
      have := lentPs_ge (show p ∈ lentPs ls vs (i + 1) from by simpa [lentPs] using h)
      omega
theorem lentPs_as : ∀ {ls : List Bool} {vs : List V} {i : Nat}, (lentPs ls vs i).map (·.2) = lentAs ls vs
  | [], vs, i => by cases vs <;> simp [lentPs, lentAs]
  | l :: ls, [], i => by cases l <;> simp [lentPs, lentAs]
  | false :: ls, v :: vs, i => by simpa [lentPs, lentAs] using lentPs_as (ls := ls) (vs := vs) (i := i + 1)
  | true :: ls, v :: vs, i => by
    cases v <;> simpa [lentPs, lentAs] using lentPs_as (ls := ls) (vs := vs) (i := i + 1)
/-- the entry's slots -/
theorem arg_at : ∀ {ls : List Bool} {ds : List D} {vs : List V} {i n : Nat}, ArgR K M H ls ds vs → ls.length = vs.length ∧ ds.length = vs.length ∧
    ∀ j, (∀ d, (ls.zipWith (fun l d => if l then Slot.own true d else Slot.val d) ds)[j]? = some (.val d) → ∃ v, vs[j]? = some v ∧ Rel K M H d v) ∧
    (∀ l d, (ls.zipWith (fun l d => if l then Slot.own true d else Slot.val d) ds)[j]? = some (.own l d) → l = true ∧ ∃ a, vs[j]? = some (.ref a) ∧ M a ∧ Top K M H d a ∧ (i + j, a) ∈ lentPs ls vs i)
  | [], ds, vs, i, n, h => by
    cases ds with
    | nil =>
      cases vs with
      | nil => exact ⟨rfl, rfl, fun j => ⟨fun d q => by simp at q, fun l d q => by simp at q⟩⟩
      | cons _ _ => exact h.elim
    | cons _ _ => cases vs <;> exact h.elim
  | l :: ls, [], vs, i, n, h => by cases vs <;> exact h.elim
  | l :: ls, d :: ds, [], i, n, h => h.elim
  | l :: ls, d :: ds, v :: vs, i, n, h => by
    obtain ⟨h1, h2⟩ := h
    obtain ⟨q1, q2, q3⟩ := arg_at (i := i + 1) (n := n) h2
    refine ⟨by simp [q1], by simp [q2], fun j => ?_⟩
    cases j with
    | zero =>
      refine ⟨fun d' q => ?_, fun l' d' q => ?_⟩
      · cases l with
        | true => simp at q
        | false =>
          simp at q
          subst q
          exact ⟨v, rfl, by simpa using h1⟩
      · cases l with
        | false => simp at q
        | true =>
          simp at q
          obtain ⟨rfl, rfl⟩ := q
          obtain ⟨a, rfl, z1, z2⟩ := (show ∃ a, v = .ref a ∧ M a ∧ Top K M H d a from by simpa using h1)
          exact ⟨rfl, a, rfl, z1, z2, List.mem_cons_self⟩
    | succ j =>
      obtain ⟨r1, r2⟩ := q3 j
      refine ⟨fun d' q => r1 d' (by simpa using q), fun l' d' q => ?_⟩
      obtain ⟨e, a, z1, z2, z3, z4⟩ := r2 l' d' (by simpa using q)
      refine ⟨e, a, by simpa using z1, z2, z3, ?_⟩
      have : (i + (j + 1), a) ∈ lentPs ls vs (i + 1) := by rw [show i + (j + 1) = i + 1 + j by omega]; exact z4
      cases l with
      | false => simpa [lentPs] using this
      | true => cases v <;> first | exact List.mem_cons_of_mem _ this | simpa [lentPs] using this
theorem lentPs_mem : ∀ {ls : List Bool} {ds : List D} {vs : List V} {i : Nat}, ArgR K M H ls ds vs → ∀ p ∈ lentPs ls vs i, M p.2
  | [], ds, vs, i, h, p, hp => by cases vs <;> simp [lentPs] at hp
  | l :: ls, [], vs, i, h, p, hp => by cases vs <;> exact h.elim
  | l :: ls, d :: ds, [], i, h, p, hp => h.elim
  | l :: ls, d :: ds, v :: vs, i, h, p, hp => by
    obtain ⟨h1, h2⟩ := h
    cases l with
    | false => exact lentPs_mem h2 p (by simpa [lentPs] using hp)
    | true =>
      obtain ⟨a, rfl, z1, z2⟩ := (show ∃ a, v = .ref a ∧ M a ∧ Top K M H d a from by simpa using h1)
      rcases List.mem_cons.mp (show p ∈ (i, a) :: lentPs ls vs (i + 1) from hp) with rfl | hp
      · exact z1
      · exact lentPs_mem h2 p hp
theorem start_get {N : List Str} {vs : List V} {j : Nat} {v : V} (h : vs[j]? = some v) : (L2.start N vs)[j]? = some (some v) := by
  unfold L2.start
  rw [List.getElem?_append_left (by rw [List.length_map]; exact (List.getElem?_eq_some_iff.mp h).1), List.getElem?_map, h]
  rfl
theorem fm_own {fn : Fn} {ds : List D} {j : Nat} {t : Slot} (h : (mkFm fn ds)[j]? = some t) : (fn.lent.zipWith (fun l d => if l then Slot.own true d else .val d) ds)[j]? = some t ∨ t = .un := by
  unfold mkFm at h
  rcases Nat.lt_or_ge j (fn.lent.zipWith (fun l d => if l then Slot.own true d else .val d) ds).length with q | q
  · rw [List.getElem?_append_left q] at h
    exact .inl h
  · rw [List.getElem?_append_right q] at h
    exact .inr (List.eq_of_mem_replicate (List.mem_of_getElem? h))
/-- the entry -/
theorem sr_start {fn : Fn} {ds : List D} {vs : List V} (hl : fn.lent.length = fn.ps.length) (hn : fn.ps.length ≤ fn.ns.length) (mh : ∀ b, M b → H b ≠ none) (hv : vs.length = fn.ps.length) (ha : ArgR K M H fn.lent ds vs) (nd : (lentAs fn.lent vs).Nodup) :
    Sr K ⟨H, M, lentPs fn.lent vs 0⟩ M (L2.start fn.ns vs) H (mkFm fn ds) := by
  obtain ⟨q1, q2, q3⟩ := arg_at (i := 0) (n := 0) ha
  refine ⟨?_, fun i d h => ?_, fun i l d h => ?_, fun i j li lj di dj a hi hj si sj => ?_, fun b x h _ => h, fun _ h => h, fun _ h => .inl h, mh, mh, lentPs_mem ha⟩
  · unfold L2.start mkFm
    simp only [List.length_append, List.length_map, List.length_replicate, List.length_zipWith]
    omega
  · rcases fm_own h with h | h
    · obtain ⟨v, z1, z2⟩ := (q3 i).1 d h
      exact ⟨v, start_get z1, z2⟩
    · cases h
  · rcases fm_own h with h | h
    · obtain ⟨rfl, a, z1, z2, z3, z4⟩ := (q3 i).2 l d h
      refine ⟨a, start_get z1, z2, z3, ?_⟩
      rw [if_pos rfl]
      simpa using z4
    · cases h
  · rcases fm_own hi with hi | hi
    · rcases fm_own hj with hj | hj
      · obtain ⟨_, a1, z1, _, _, z4⟩ := (q3 i).2 li di hi
        obtain ⟨_, a2, y1, _, _, y4⟩ := (q3 j).2 lj dj hj
        rw [start_get z1] at si
        rw [start_get y1] at sj
        cases si
        cases sj
        rw [← lentPs_as (i := 0)] at nd
        generalize lentPs fn.lent vs 0 = L at nd z4 y4
        rw [Nat.zero_add] at z4 y4
        clear q3 ha
        induction L with
        | nil => cases z4
        | cons p L ih =>
          obtain ⟨n1, n2⟩ := List.nodup_cons.mp (show (p.2 :: L.map (·.2)).Nodup from nd)
          rcases List.mem_cons.mp z4 with e1 | z4
          · rcases List.mem_cons.mp y4 with y4 | y4
            · rw [← e1] at y4; exact (congrArg Prod.fst y4).symm
            · rw [← e1] at n1; exact absurd (List.mem_map_of_mem (f := (·.2)) y4) n1
          · rcases List.mem_cons.mp y4 with e1 | y4
            · rw [← e1] at n1; exact absurd (List.mem_map_of_mem (f := (·.2)) z4) n1
            · exact ih n2 z4 y4
      · cases hj
    · cases hi
/-- the end -/
theorem lents_end {c : C} {M' : Addr → Prop} {H' : Hp} {σ : L2.St} {e : Fm} (s : Sr K c M' σ H' e) : ∀ {ls : List Bool} {vs : List V} {i : Nat} {us : List D}, ls.length = vs.length → (∀ (j : Nat), ls[j]? = some true → ∃ a, vs[j]? = some (V.ref a)) →
    (∀ (j : Nat) (a : Addr) (l : Bool) (d : D), e[i + j]? = some (Slot.own l d) → ls[j]? = some true → (i + j, a) ∈ c.lents → vs[j]? = some (.ref a)) → lentsOf e ls i = some us → LentR K M' H' (lentAs ls vs) us
  | [], vs, i, us, hl, hr, h, q => by
    cases vs with
    | nil => cases q; trivial
    | cons _ _ => cases hl
  | l :: ls, [], i, us, hl, hr, h, q => by cases hl
  | false :: ls, v :: vs, i, us, hl, hr, h, q => by
    have := lents_end s (ls := ls) (vs := vs) (i := i + 1) (us := us) (Nat.succ.inj hl) (fun j z => by have := hr (j + 1) (by simpa using z); simpa using this) (fun j a l d z1 z2 z3 => by
      have := h (j + 1) a l d (by rw [show i + (j + 1) = i + 1 + j by omega]; exact z1) (by simpa using z2) (by rw [show i + (j + 1) = i + 1 + j by omega]; exact z3)
      simpa using this) (by simpa [lentsOf] using q)
    simpa [lentAs] using this
  | true :: ls, v :: vs, i, us, hl, hr, h, q => by
    simp only [lentsOf] at q
    split at q
    · rename_i d ds hd hds
      cases q
      obtain ⟨a, z1, z2, z3, z4⟩ := s.own i true d hd
      rw [if_pos rfl] at z4
      have hv := h 0 a true d hd rfl z4
      simp at hv
      subst hv
      refine ⟨z2, z3, lents_end s (ls := ls) (vs := vs) (i := i + 1) (us := ds) (Nat.succ.inj hl) (fun j z => by have := hr (j + 1) (by simpa using z); simpa using this) (fun j a l d z1 z2 z3 => ?_) hds⟩
      have := h (j + 1) a l d (by rw [show i + (j + 1) = i + 1 + j by omega]; exact z1) (by simpa using z2) (by rw [show i + (j + 1) = i + 1 + j by omega]; exact z3)
      simpa using this
    · cases q
theorem lentPs_get : ∀ {ls : List Bool} {vs : List V} {i j : Nat} {a : Addr}, (i + j, a) ∈ lentPs ls vs i → vs[j]? = some (.ref a)
  | [], vs, i, j, a, h => by cases vs <;> simp [lentPs] at h
  | l :: ls, [], i, j, a, h => by cases l <;> simp [lentPs] at h
  | l :: ls, v :: vs, i, j, a, h => by
    have key : (i + j, a) ∈ lentPs ls vs (i + 1) → (v :: vs)[j]? = some (.ref a) := fun q => by
      have := lentPs_ge q
      cases j with
      | zero => simp at this; omega
      | succ j =>
        rw [show i + (j + 1) = i + 1 + j by omega] at q
        simpa using lentPs_get q
    cases l with
    | false => exact key (by simpa [lentPs] using h)
    | true =>
      cases v with
      | ref b =>
        rcases List.mem_cons.mp (show (i + j, a) ∈ (i, b) :: lentPs ls vs (i + 1) from h) with q | q
        · obtain ⟨q1, q2⟩ := Prod.mk.inj q
          have : j = 0 := by omega
          subst this
          subst q2
          rfl
        · exact key q
      | _ => exact key (by simpa [lentPs] using h)
theorem arg_ref : ∀ {ls : List Bool} {ds : List D} {vs : List V}, ArgR K M H ls ds vs → ∀ (j : Nat), ls[j]? = some true → ∃ a, vs[j]? = some (V.ref a)
  | [], ds, vs, h, j, q => by simp at q
  | l :: ls, [], vs, h, j, q => by cases vs <;> exact h.elim
  | l :: ls, d :: ds, [], h, j, q => h.elim
  | l :: ls, d :: ds, v :: vs, h, j, q => by
    obtain ⟨h1, h2⟩ := h
    cases j with
    | zero =>
      simp at q
      subst q
      obtain ⟨a, rfl, _⟩ := (show ∃ a, v = .ref a ∧ M a ∧ Top K M H d a from by simpa using h1)
      exact ⟨a, rfl⟩
    | succ j => simpa using arg_ref h2 j (by simpa using q)
theorem aft_end {fn : Fn} {vs : List V} {M' : Addr → Prop} {H' : Hp} {σ : L2.St} {e : Fm} (s : Sr K ⟨H, M, lentPs fn.lent vs 0⟩ M' σ H' e) : Aft M H (lentAs fn.lent vs) M' H' := by
  refine ⟨fun b x h nb => s.keep b x h fun p hp e => nb ?_, s.m0, s.m1, s.mh, fun b h => ?_⟩
  · rw [← lentPs_as (i := 0), ← e]
    exact List.mem_map_of_mem hp
  · cases hx : H b with
    | none => exact absurd hx h
    | some x =>
      by_cases q : ∀ p ∈ lentPs fn.lent vs 0, p.2 ≠ b
      · rw [s.keep b x hx q]
        exact fun z => nomatch z
      · refine Classical.byContradiction fun z => q fun p hp he => z ?_
        subst he
        exact s.mh _ (s.m0 _ (s.c1 p hp))
end
/-- one def of the table stands in the text -/
structure Def (T : Tb) (K : PySem.W.Frag) (mg : Str → Option Value) (fn : Fn) (st : Stmt) (a : Addr) (fd : FuncData) : Prop where
  F : ∃ x, Fun K x x st a fd
  mg : mg fn.nm = some (.ref a)
  bd : Binds K fd fn.ps []
  kb : ∀ q ∈ fn.kwp, ∀ (s : Shared) (us ws : List Value), (permL q.2 (us ++ ws)).length = fn.ps.length → ws.length = q.1.length → q.2.length = fn.ps.length → (us ++ ws).length = q.2.length → BindsTo s fd ⟨us, q.1.zip ws⟩ (fn.ps.zip (permL q.2 (us ++ ws)))
  S : FnScope fn.ns fn.ps (defScope st)
  ch : chkSs T fn.ns (defScope st) fn.body (defBody st) = true
  hl : fn.lent.length = fn.ps.length
structure Txt (T : Tb) (w : World) (K : PySem.W.Frag) (mg : Str → Option Value) : Prop where
  blt : ∀ n ∈ (["len", "int", "list", "tuple", "all", "any", "sum", "min", "max", "abs", "sorted", "range", "zip", "enumerate", "isinstance", "bool", "str", "dict"] : List String), mg (n : Str) = none
  con : ∀ p ∈ T.cons, ∃ u v, mg p.1 = some u ∧ RelV v u ∧ ∀ M H, Rel K M H p.2 v
  gcd : T.gcd = true → mg ("gcd" : Str) = some (.builtin "math.gcd")
  fnv : ∀ n, T.fnv.contains n = true → ∃ a, mg n = some (.ref a) ∧ FnK K n a ∧ ∀ b, FnK K n b → b = a
  dcs : ∀ p ∈ T.dcs, ∃ d, mg p.1 = some (.ref d) ∧ ∀ z dd, p.2.lookup z = some dd → ∃ v, KDct K w d z v ∧ ∀ M H, Rel K M H dd v
  prm : T.prm = true → mg ("permutations" : Str) = some (.type "itertools.permutations")
  er : ∀ cn, T.errs.contains cn = true → ∃ (fI : Addr) (fd : FuncData) (Cl : Addr), ErrC K mg fI cn Cl ∧ PySem.W.typeIn K (.ref fI) = some (.type "function") ∧ (∀ (P : Program) (w : World) (base : Heap), FnOk P w K mg base (L2.CX P w) 1 fI fd NI (spI K)) ∧ Binds K fd NI [] ∧ (∀ (s : Shared) (a u : Value), BindsTo s fd ⟨[a], [(("value" : Str), u)]⟩ (NI.zip [a, u]))
  isx : ∀ c, T.isx.contains c = true → ∃ cv : Value, NmC mg c cv ∧ ∀ cn, T.errs.contains cn = true → ∃ Cl, PySem.W.nsIn K mainGlobals cn = some (some (.ref Cl)) ∧ KitC K Cl ∧ PySem.W.kitOne K (.ref Cl) cv = some (isxB c cn)
  ex : ∀ cn c, T.errs.contains cn = true → T.errs.contains c = true → ∃ Cn Cc : Addr, mg cn = some (.ref Cn) ∧ mg c = some (.ref Cc) ∧ PySem.W.exmOne K (.ref Cn) (.ref Cc) = some (catches c cn)
  fns : ∀ (i : Nat) (fn : Fn), T.tab[i]? = some fn → ∃ st a fd, Def T K mg fn st a fd
theorem ps_le {fn : Fn} {sc : Scope} (S : FnScope fn.ns fn.ps sc) : fn.ps.length ≤ fn.ns.length := by
  rw [← S.pre, List.length_take]
  have := Nat.min_le_right fn.ps.length fn.ns.length
  have h2 := S.pre
  exact Nat.le_trans (Nat.min_le_right _ _) (Nat.le_refl _)
theorem tab_ok {T : Tb} {P : Program} {w : World} {K : PySem.W.Frag} {mg : Str → Option Value} {base : Heap} (X : Txt T w K mg) : ∀ (k i : Nat) (fn : Fn) (st : Stmt) (a : Addr) (fd : FuncData), T.tab[i]? = some fn → Def T K mg fn st a fd →
    FnOk P w K mg base (L2.CX P w) (k + 2) a fd fn.ps (spEv K mg (run T.tab k) i fn)
  | 0, i, fn, st, a, fd, hi, Df => by
    have no : ∀ vs H Q E, ¬ spEv K mg (run T.tab 0) i fn vs H Q E := fun vs H Q E h => by
      obtain ⟨M0, ds, h1, h2, h3, h4, h5⟩ := h
      exact h5
    exact ⟨fun vs H Q E h => absurd h (no vs H Q E), fun A outer s H args us vs Q E hr he hb hv h => absurd h (no vs H Q E)⟩
  | k + 1, i, fn, st, a, fd, hi, Df => by
    obtain ⟨fnm, DF⟩ := Df.F
    refine DF.okX (k := k + 2) Df.S (fun vs H Q E h => by obtain ⟨M0, ds, h1, h2, _⟩ := h; exact h2) fun cdv A outer s H vs Q E hr h => ?_
    obtain ⟨M0, ds, h1, h2, h3, h4, h5⟩ := h
    generalize hX : cxOf (L2.CX P w) P w K mg base fn.ns fnm (defScope st) a cdv A outer s H E = Xc
    have tk : Takes Xc (fun cls d _ H' => E cls d H') := by subst hX; exact takes_of rfl rfl rfl rfl
    have xp : Xc.prog = P ∧ Xc.w = w ∧ Xc.K = K ∧ Xc.mg = mg ∧ Xc.base = base ∧ Xc.A = A.deeper (PyProof.Rows.envOfC fnm (defScope st) s.heap.objs.size a cdv) ∧ Xc.env.scope = defScope st ∧ Xc.N = fn.ns ∧ Xc.calm = true ∧ (∀ x, Xc.fn x = true) := by
      subst hX
      exact ⟨rfl, rfl, rfl, rfl, rfl, rfl, rfl, rfl, rfl, fun _ => rfl⟩
    have po : PassesOwn (model Xc.prog Xc.w) Xc.A Xc.env Xc.xe := by subst hX; exact PassesOwn.leaving
    have hsf : Xc.stack = Xc.env :: Xc.outer ∧ Xc.env.frame = some Xc.env.locals := by subst hX; exact ⟨rfl, rfl⟩
    obtain ⟨x1, x2, x3, x4, x5, x6, x7, x8, x9, x10⟩ := xp
    have hrX : Room (k + 2) Xc.A := by rw [x6]; exact hr
    have G : GoodS T fn.ns (L2.CX P w) (run T.tab k) (fun cls d _ H' => E cls d H') (defScope st) Xc := by
      refine ⟨⟨x7, x8, Df.S.nd, x9, ?_, fun x _ => .inl (x10 x), fun n hn => by rw [x4]; exact X.blt n hn, fun p hp => ?_, fun h => by rw [x4]; exact X.gcd h, fun h => by rw [x4]; exact X.prm h, fun n hn => by rw [x3, x4]; exact X.fnv n hn, fun p hp => by rw [x2, x3, x4]; exact X.dcs p hp, hrX.mono (by omega), fun cn h => ?_, fun c h => by rw [x3, x4]; exact X.isx c h, fun j gn hj => ?_, fun σ => ?_, fun l H s e s' h => ?_⟩, Df.S.kind, po, x10, hsf.1, hsf.2, tk, hrX.mono (by omega), ⟨fun cn h => ?_, fun cn c h h' => by rw [x3, x4]; exact X.ex cn c h h'⟩, by subst hX; rfl, fun {pn xe V} tk' σ => ?_⟩
      · have := hrX.un; omega
      · obtain ⟨u, v, y1, y2, y3⟩ := X.con p hp
        exact ⟨u, v, by rw [x4]; exact y1, y2, by rw [x3]; exact y3⟩
      · obtain ⟨fI, fdI, Cl, w1, w2, w3, w4⟩ := X.er cn h
        exact ⟨fI, fdI, Cl, by rw [x3, x4]; exact w1, by rw [x3]; exact w2, by rw [x1, x2, x3, x4, x5]; exact w3 _ _ _, by rw [x3]; exact w4.1, w4.2⟩
      · obtain ⟨st', a', fd', D'⟩ := X.fns j gn hj
        obtain ⟨fnm', DF'⟩ := D'.F
        exact ⟨a', fd', k + 2, ⟨by rw [x4]; exact D'.mg, by rw [x3]; exact DF'.kp, by rw [x3]; exact D'.bd, D'.kb, by rw [x1, x2, x3, x4, x5]; exact tab_ok X k j gn st' a' fd' hj D', hrX⟩⟩
      · have := passAt tk σ
        rw [x1, x2] at this
        exact this
      · obtain ⟨_, _, _, _, _, _, _, _, _, _, _, _, z⟩ := h
        exact z.elim
      · obtain ⟨fI, fdI, Cl, w1, w2, w3, w4⟩ := X.er cn h
        exact ⟨fI, fdI, Cl, by rw [x3, x4]; exact w1, by rw [x3]; exact w2, by rw [x1, x2, x3, x4, x5]; exact w3 _ _ _, by rw [x3]; exact w4.1, w4.2⟩
      · have := passAt tk' σ
        have e : (Xc.tr pn xe).prog = P ∧ (Xc.tr pn xe).w = w := ⟨x1, x2⟩
        rw [e.1, e.2] at this
        exact this
    refine ⟨_, sSs fn.body _ (defScope st) Xc G (defBody st) Df.ch, ⟨H, M0, lentPs fn.lent vs 0⟩, M0, mkFm fn ds, ?_, ?_⟩
    · rw [x3]
      exact sr_start Df.hl (ps_le Df.S) h1 h2 h3 h4
    · have hlen : ds.length = fn.ps.length := by rw [(arg_at (i := 0) (n := 0) h3).2.1, h2]
      have fin : ∀ {M' : Addr → Prop} {H' : Hp} {σ : L2.St} {e : Fm} {us : List D}, Sr K ⟨H, M0, lentPs fn.lent vs 0⟩ M' σ H' e → lentsOf e fn.lent 0 = some us → LentR K M' H' (lentAs fn.lent vs) us := fun s' hq =>
        lents_end s' (arg_at (i := 0) (n := 0) h3).1 (arg_ref h3) (fun j a l d z1 z2 z3 => lentPs_get z3) hq
      simp only [run, hi] at h5
      split at h5
      · rename_i fr d ls hr'
        split at hr'
        · unfold finish at hr'
          split at hr'
          · rename_i e he
            rw [he]
            split at hr'
            · rename_i us hus
              cases hr'
              intro M' σ' H' s' x'
              rw [x3] at s'
              exact h5 .non M' H' (aft_end s') (by simp [OutR, Rel]) (fin s' hus)
            · cases hr'
          · rename_i fr' d' e he
            rw [he]
            split at hr'
            · rename_i us hus
              cases hr'
              intro M' σ' H' v s' x' rr
              rw [x3] at s' rr
              exact h5 v M' H' (aft_end s') rr (fin s' hus)
            · cases hr'
          · split at hr' <;> cases hr'
          · cases hr'
        · cases hr'
      · rename_i cn d hr'
        split at hr'
        · unfold finish at hr'
          split at hr'
          · split at hr' <;> cases hr'
          · split at hr' <;> cases hr'
          · rename_i c' d' e he
            rw [he]
            split at hr'
            · cases hr'
            · cases hr'
              intro M' σ' H' cls dd s' x' rr
              rw [x3] at s'
              refine h5 M' H' cls dd (aft_end s') ?_
              obtain ⟨Cl, p, v, w1, w2, w3, w4, w5⟩ := rr
              exact ⟨Cl, p, v, by rw [← x4]; exact w1, w2, w3, w4, by rw [← x3]; exact w5⟩
          · cases hr'
        · cases hr'
      · exact h5.elim
end Ev

set_option Elab.async false
set_option linter.all false
set_option maxHeartbeats 8000000
set_option maxRecDepth 100000
/-! the end of a law -/
namespace Ev
open PySem L2 PySem.Spec
def isListO (o : Obj) : Bool :=
  match o with
  | ⟨c, _, .seq _ _, _⟩ => c == .type "list"
  | _ => false
/-- K' has all of K but, it may be, a list -/
def NearA (K K' : PySem.W.Frag) : Prop := ∀ b o, K.lookup b = some o → isListO o = false → K'.lookup b = some o
structure Near (K K' : PySem.W.Frag) : Prop where
  to : NearA K K'
  back : ∀ b o, K'.lookup b = some o → K.lookup b = some o
instance {K K' : PySem.W.Frag} : CoeFun (Near K K') fun _ => NearA K K' := ⟨Near.to⟩
theorem ns_near {K K' : PySem.W.Frag} (nr : Near K K') {a : Addr} {n : Str} {v : Option Value} (h : PySem.W.nsIn K a n = some v) : PySem.W.nsIn K' a n = some v := by
  have h0 := h
  unfold PySem.W.nsIn at h
  split at h
  · rename_i c d es m x hl
    have l' := nr.to _ _ hl rfl
    unfold PySem.W.nsIn at h0 ⊢
    rw [hl] at h0
    rw [l']
    exact h0
  · cases h
theorem fnv_mk {K K' : PySem.W.Frag} (nr : Near K K') {mg : Str → Option Value} {n : Str} {a : Addr} (hm : mg n = some (.ref a)) (hk : PySem.W.nsIn K mainGlobals n = some (some (.ref a))) :
    ∃ a, mg n = some (.ref a) ∧ FnK K' n a ∧ ∀ b, FnK K' n b → b = a := by
  refine ⟨a, hm, ns_near nr hk, fun b h => ?_⟩
  have h2 := (ns_near nr hk).symm.trans h
  injection h2 with h2
  injection h2 with h2
  injection h2 with h2
  exact h2.symm
theorem look_filter {K : PySem.W.Frag} {a b : Addr} (h : b ≠ a) : List.lookup b (K.filter fun p => p.1 != a) = K.lookup b := by
  induction K with
  | nil => rfl
  | cons p r ih =>
    obtain ⟨c, o⟩ := p
    rw [List.filter_cons]
    by_cases hc : c = a
    · subst hc
      rw [if_neg (by simp), List.lookup_cons, ih]
      have : (b == c) = false := beq_eq_false_iff_ne.mpr h
      rw [this]
    · rw [if_pos (by simp [hc]), List.lookup_cons, List.lookup_cons, ih]
theorem look_out {K : PySem.W.Frag} {a : Addr} : List.lookup a (K.filter fun p => p.1 != a) = none := by
  induction K with
  | nil => rfl
  | cons p r ih =>
    obtain ⟨c, o⟩ := p
    rw [List.filter_cons]
    by_cases hc : c = a
    · subst hc
      rw [if_neg (by simp), ih]
    · rw [if_pos (by simp [hc]), List.lookup_cons, ih]
      have : (a == c) = false := beq_eq_false_iff_ne.mpr fun z => hc z.symm
      rw [this]
theorem Near.code {K K' : PySem.W.Frag} (h : Near K K') {cd : Value} {q : Str} (e : PySem.W.codeIn K cd q = true) : PySem.W.codeIn K' cd q = true := by
  unfold PySem.W.codeIn at e ⊢
  split at e
  · rename_i c
    split at e
    · rename_i vs x hl
      rw [h _ _ hl rfl]
      exact e
    · cases e
  · cases e
theorem Near.fn {K K' : PySem.W.Frag} (h : Near K K') {x qual : Str} {st : Stmt} {f : Addr} {oc : Value} {od an : Option Addr} {osl : Array (Option Value)} {kV doc pm cdv ct : Value} (l : K.lookup f = some ⟨oc, od, .func (PySem.W.fnOf x qual (defArgs st) (defBody st) (defScope st) .none kV doc pm an cdv ct), osl⟩)
    (c : PySem.W.codeIn K cdv qual = true) : Fun K' x qual st f (PySem.W.fnOf x qual (defArgs st) (defBody st) (defScope st) .none kV doc pm an cdv ct) := by
  have l' := h _ _ l rfl
  refine fun_mk l' (h.code c) ?_
  unfold PySem.W.keepIn
  simp only
  rw [l']
def flatKV : D → Value → Bool
  | .none, .none => true
  | .bool b, .bool c => b == c
  | .int i, .int j _ => decide (i = j)
  | .str s, .str t _ => decide (s = t)
  | _, _ => false
def flatKVs : List D → List Value → Bool
  | [], [] => true
  | d :: ds, v :: vs => flatKV d v && flatKVs ds vs
  | _, _ => false
def tupV (o : Obj) (d : D) : Bool :=
  match o, d with
  | ⟨c, none, .seq its _, _⟩, .tuple ds => (c == .type "tuple") && decide (ds.length ≤ 1000) && flatKVs ds its.toList
  | _, _ => false
theorem flat_kv {K : PySem.W.Frag} : ∀ {ds : List D} {us : List Value}, flatKVs ds us = true → ∃ vs, Vals vs us ∧ (∀ M H, Rels K M H ds vs)
  | [], [], _ => ⟨[], .nil, fun M H => Rels.nil⟩
  | d :: ds, u :: us, h => by
    simp only [flatKVs, Bool.and_eq_true] at h
    obtain ⟨vs, r, q⟩ := flat_kv h.2
    have h1 := h.1
    cases d <;> cases u <;> simp only [flatKV] at h1 <;> first | (cases h1; done) | skip
    · exact ⟨.non :: vs, .cons rfl r, fun M H => Rels.cons (by simp only [Rel]) (q M H)⟩
    · have e := eq_of_beq h1
      subst e
      exact ⟨.bl _ :: vs, .cons rfl r, fun M H => Rels.cons (by simp only [Rel]) (q M H)⟩
    · have e := of_decide_eq_true h1
      subst e
      exact ⟨.int _ :: vs, .cons ⟨_, rfl⟩ r, fun M H => Rels.cons (by simp only [Rel]) (q M H)⟩
    · have e := of_decide_eq_true h1
      subst e
      exact ⟨.str _ :: vs, .cons ⟨_, rfl⟩ r, fun M H => Rels.cons (by simp only [Rel]) (q M H)⟩
  | [], _ :: _, h => by simp [flatKVs] at h
  | _ :: _, [], h => by simp [flatKVs] at h
theorem con_mk {K K' : PySem.W.Frag} (nr : Near K K') {mg : Str → Option Value} {c : Str} {q : Addr} {qo : Obj} {d : D} (hm : mg c = some (.ref q)) (l : K.lookup q = some qo) (e : tupV qo d = true) :
    ∃ u v, mg c = some u ∧ RelV v u ∧ ∀ M H, Rel K' M H d v := by
  unfold tupV at e
  split at e
  · rename_i cl its n sl ds
    simp only [Bool.and_eq_true, decide_eq_true_eq] at e
    obtain ⟨⟨e1, e2⟩, e3⟩ := e
    have ec : cl = .type "tuple" := eq_of_beq e1
    subst ec
    have l' := nr _ _ l rfl
    obtain ⟨vs, r, hv⟩ := flat_kv (K := K') e3
    have hl : ds.length = vs.length := (hv (fun _ => False) fun _ => none).length
    have hs : its.size = ds.length := by rw [hl, ← Array.length_toList, ← r.length]
    refine ⟨_, .ref q, hm, rfl, fun M H => ?_⟩
    simp only [Rel]
    exact ⟨q, vs, rfl, .inr ⟨_, its, n, l', rfl, rfl, by rw [hs]; exact Nat.le_trans e2 (by decide), r, rfl⟩, Nat.le_trans e2 (by decide), hv M H⟩
  · cases e
theorem con_str {K' : PySem.W.Frag} {mg : Str → Option Value} {c : Str} {z : Str} {t : Tok} (hm : mg c = some (.str z t)) : ∃ u v, mg c = some u ∧ RelV v u ∧ ∀ M H, Rel K' M H (.str z) v :=
  ⟨_, .str z, hm, ⟨_, rfl⟩, fun M H => by simp only [Rel]⟩
theorem con_int {K' : PySem.W.Frag} {mg : Str → Option Value} {c : Str} {i : Int} {t : Tok} (hm : mg c = some (.int i t)) : ∃ u v, mg c = some u ∧ RelV v u ∧ ∀ M H, Rel K' M H (.int i) v :=
  ⟨_, .int i, hm, ⟨_, rfl⟩, fun M H => by simp only [Rel]⟩
open PySem.W in
theorem walk_ev {l : PySem.W.OpenLaw} {n k i : Nat} {fn : Fn} {tab : List Fn} {q : Program} {loose : List Str} {XP : (Str → Option Value) → Heap → Prop} {YP : World → Heap → Prop} {d : DefRec} {K : Params → PySem.W.Frag}
    (hn : l.most = some n) (hn2 : n ≤ sizeLine) (hdf : d.params.defaults = []) (hr : Room (k + 2) callerA) (hfn : fn.ps.length = 1 ∧ fn.lent = [false])
    (hY : ∀ (w : World) (h : Heap), YP w h → (K w.params).In h)
    (F : ∀ (w : World) (mg : Str → Option Value) (fa : Addr) (h : Heap), (K w.params).In h → h.Ns mainGlobals mg → mg d.name = some (.ref fa) → ∀ K', Near (K w.params) K' →
      ∃ fd : FuncData, (∀ (s : Shared) (u : Value), BindsTo s fd ⟨[u], []⟩ [("script", u)]) ∧
        ∀ base : Heap, K'.In base → base.Ns mainGlobals mg → FnOk l.prog w K' mg base (L2.CX l.prog w) (k + 2) fa fd ["script"] (spEv K' mg (run tab k) i fn))
    (fin : ∀ ns : List Int, ns.length ≤ n → (∀ z ∈ ns, Builtin.Int.intBits z ≤ 1048576) → ∃ ls, run tab k i [.list (ns.map PyData.int)] = .ok false (.bool true) ls) :
    PySem.W.WalkO q loose XP YP l.row.toRowW d [] (fun f vs => PySem.call f vs) := by
  refine Att.attach_callB hn hdf fun w s₀ s₁ mg mb fa o pm cd doc a vs ns G Y ho hd hcd hmg hobj hints hlen hbits hg => ?_
  have KX := hY w _ Y
  have nr : Near (K w.params) ((K w.params).filter fun p => p.1 != a) := ⟨fun b o hb ho => (by
    refine (look_filter fun z => ?_).trans hb
    subst z
    have := KX _ _ hb
    rw [hobj] at this
    cases this
    cases ho), fun b o hb => by
    by_cases z : b = a
    · subst z
      rw [look_out] at hb
      cases hb
    · rw [look_filter z] at hb
      exact hb⟩
  have KX' : PySem.W.Frag.In ((K w.params).filter fun p => p.1 != a) s₁.heap := fun b o hb => by
    by_cases z : b = a
    · subst z
      rw [look_out] at hb
      cases hb
    · rw [look_filter z] at hb
      exact KX _ _ hb
  obtain ⟨fd, hb, hF⟩ := F w mg fa _ KX G.T.g hmg _ nr
  refine law_call KX' G.T.g G.T.b G.T.builtins G.T.nolimit hg hobj hints (Nat.le_trans hlen hn2) hr hF hb (fun H hO hS => ?_) fun H e s' h => ?_
  · have hR : Rd H a (.lst (ns.map V.int)) := by
      rcases hS with hS | ⟨o, its, m, hl, _⟩
      · exact hS
      · rw [look_out] at hl
        cases hl
    obtain ⟨ls, hrun⟩ := fin ns hlen hbits
    refine ⟨fun _ => False, [.list (ns.map PyData.int)], fun b z => z.elim, by rw [hfn.1]; rfl, ?_, ?_, ?_⟩
    · rw [hfn.2]
      refine ⟨?_, trivial⟩
      rw [if_neg Bool.false_ne_true]
      simp only [Rel]
      exact ⟨a, ns.map V.int, rfl, ⟨hR, fun z => z⟩, by rw [List.length_map]; exact Nat.le_trans hlen hn2, rels_of_ints ns⟩
    · rw [hfn.2]
      exact .nil
    · rw [hrun]
      intro v M' H' A O L
      have O' : Rel ((K w.params).filter fun p => p.1 != a) M' H' (.bool true) v := by simpa [OutR] using O
      simpa only [Rel] using O'
  · obtain ⟨_, _, _, _, _, _, _, _, _, _, _, _, z⟩ := h
    exact z.elim
end Ev

set_option Elab.async false
set_option linter.all false
set_option maxHeartbeats 4000000
set_option maxRecDepth 100000
/-! what is known of classes stays known without a list -/
namespace Ev
open PySem L2 PySem.Spec PySem.W
section
variable {K K' : Frag} (nr : Near K K')
include nr
theorem Near.ns {ns : Addr} {x : Str} {r : Option Value} (h : nsIn K ns x = some r) : nsIn K' ns x = some r := by
  unfold nsIn at h ⊢
  split at h
  · rename_i hl
    rw [nr _ _ hl rfl]
    exact h
  · cases h
theorem Near.own {x : Str} {v : Value} {r : Option Value} (h : ownIn K x v = some r) : ownIn K' x v = some r := by
  unfold ownIn at h ⊢
  split at h
  · exact h
  · split at h
    · rename_i hl
      rw [nr _ _ hl rfl]
      exact nr.ns h
    · cases h
  · exact h
theorem Near.along {x : Str} : ∀ {l : List Value} {r : Option Value}, alongIn K x l = some r → alongIn K' x l = some r
  | [], _, h => h
  | c :: l, r, h => by
    unfold alongIn at h ⊢
    cases ho : ownIn K x c with
    | none => rw [ho] at h; cases h
    | some o =>
      rw [ho] at h
      rw [nr.own ho]
      cases o with
      | some v => exact h
      | none => exact Near.along h
theorem Near.find {v : Value} {x : Str} {r : Option Value} (h : findIn K v x = some r) : findIn K' v x = some r := by
  unfold findIn at h ⊢
  split at h
  · exact h
  · split at h
    · rename_i hl
      rw [nr _ _ hl rfl]
      exact nr.along h
    · cases h
  · cases h
theorem Near.cls {C : Addr} {cd : ClassData} (h : clsIn K C = some cd) : clsIn K' C = some cd := by
  unfold clsIn at h ⊢
  split at h
  · rename_i hl
    rw [nr _ _ hl rfl]
    exact h
  · cases h
theorem Near.mro {C : Addr} {v : Value} {b : Bool} (h : mroIn K C v = some b) : mroIn K' C v = some b := by
  unfold mroIn at h ⊢
  cases hc : clsIn K C with
  | none => rw [hc] at h; cases h
  | some cd => rw [hc] at h; rw [nr.cls hc]; exact h
theorem Near.sub {t v : Value} {b : Bool} (h : subIn K t v = some b) : subIn K' t v = some b := by
  unfold subIn at h ⊢
  split at h
  · exact h
  · exact nr.mro h
  · cases h
theorem Near.dict {C : Addr} (h : hasDictIn K C = true) : hasDictIn K' C = true := by
  unfold hasDictIn at h ⊢
  cases hc : clsIn K C with
  | none => rw [hc] at h; cases h
  | some cd => rw [hc] at h; rw [nr.cls hc]; exact h
theorem Near.isCls {C : Addr} (h : isClsIn K C = true) : isClsIn K' C = true := by
  unfold isClsIn at h ⊢
  cases hc : clsIn K C with
  | none => rw [hc] at h; cases h
  | some cd => rw [nr.cls hc]; rfl
theorem Near.type {a : Addr} {t : String} (h : typeIn K (.ref a) = some (.type t)) (n : t ≠ "list") : typeIn K' (.ref a) = some (.type t) := by
  unfold typeIn at h ⊢
  obtain ⟨o, ho, hc⟩ := Option.map_eq_some_iff.mp h
  have : isListO o = false := by
    unfold isListO
    split
    · rename_i c _ _ _ _
      have hc : c = .type t := hc
      rw [hc]
      simpa using n
    · rfl
  show (List.lookup a K').map _ = _
  rw [nr _ _ ho this]
  exact congrArg some hc
theorem Near.keepC {C : Addr} (h : keepIn K (.ref C) = true) (t : typeIn K (.ref C) = some (.type "type")) : keepIn K' (.ref C) = true := by
  have t' := nr.type t (by decide)
  unfold keepIn at h ⊢
  simp only at h ⊢
  split at h
  · rename_i hl
    rw [nr _ _ hl rfl]
  · rename_i hl
    rw [nr _ _ hl rfl]
    simp only
    unfold specialIn at h ⊢
    rw [t] at h
    rw [t']
    exact h
  · cases h
end
/-- all of these classes, as they stand to one another -/
def subAll (K : Frag) (l m : List (Str × Addr)) : Bool := l.all fun p => m.all fun q => (subIn K (.ref q.2) (.type "BaseException") == some true) && (isClsIn K q.2 && (typeIn K (.ref q.2) == some (.type "type") && (subIn K (.ref p.2) (.ref q.2) == some (catches q.1 p.1))))
theorem sub_all {K K' : Frag} (nr : Near K K') {l m : List (Str × Addr)} (h : subAll K l m = true) {p q : Str × Addr} (hp : p ∈ l) (hq : q ∈ m) : exmOne K' (.ref p.2) (.ref q.2) = some (catches q.1 p.1) := by
  have h2 := List.all_eq_true.mp (List.all_eq_true.mp h p hp) q hq
  simp only [Bool.and_eq_true, beq_iff_eq] at h2
  obtain ⟨h3, h4, h5, h6⟩ := h2
  have g1 := nr.sub h3
  have g2 := nr.isCls h4
  have g3 := nr.type h5 (by decide)
  have g4 := nr.sub h6
  have e1 : (subIn K' (.ref q.2) (.type "BaseException") == some true) = true := by rw [g1] <;> rfl
  have e2 : ((clsIn K' q.2).isSome && typeIn K' (.ref q.2) == some (.type "type")) = true := by rw [show (clsIn K' q.2).isSome = true from g2, g3] <;> rfl
  unfold exmOne kitCls
  rw [if_pos e1]
  simp only
  rw [if_pos e2]
  exact g4
/-- what isinstance says of these classes' errors -/
def kitAll (K : Frag) (l : List (Str × Addr)) (m : List (Str × Value)) : Bool := l.all fun p => (isClsIn K p.2 && ((findIn K (.ref p.2) "__class__" == some (some (.builtin "object.__class__"))) && ((mroIn K p.2 (.type "object") == some true) && ((subIn K (.ref p.2) (.type "BaseException") == some true) && ((findIn K (.ref p.2) "__getattribute__" == some (some (.builtin "BaseException.__getattribute__"))) && (findIn K (.ref p.2) "__getattr__" == some none))))))
  && m.all fun q => (match q.2 with
    | .ref C => isClsIn K C && (typeIn K (.ref C) == some (.type "type"))
    | .type T => kitMeta T
    | _ => false) && ((!(Value.ref p.2 == q.2) || isxB q.1 p.1) && (subIn K (.ref p.2) q.2 == some (isxB q.1 p.1)))
theorem cls_get {K : Frag} : specialIn K (.builtin "object.__class__") "__get__" = some (some (.builtin "getset_descriptor.__get__")) := by kernel_rfl
theorem cls_take {K : Frag} : takesIn K (.builtin "object.__class__") = some true := by kernel_rfl
theorem kit_all {K K' : Frag} (nr : Near K K') {l : List (Str × Addr)} {m : List (Str × Value)} (h : kitAll K l m = true) {p : Str × Addr} {q : Str × Value} (hp : p ∈ l) (hq : q ∈ m) : KitC K' p.2 ∧ kitOne K' (.ref p.2) q.2 = some (isxB q.1 p.1) := by
  have h2 := List.all_eq_true.mp h p hp
  simp only [Bool.and_eq_true, beq_iff_eq] at h2
  obtain ⟨⟨h3, h4, h5, h6, h7, h8⟩, h9⟩ := h2
  refine ⟨⟨nr.isCls h3, nr.find h7, nr.find h8, nr.sub h6, nr.find h4, cls_get, cls_take, nr.mro h5⟩, ?_⟩
  have g := List.all_eq_true.mp h9 q hq
  simp only [Bool.and_eq_true, Bool.or_eq_true, beq_iff_eq] at g
  obtain ⟨g1, g2, g3⟩ := g
  have g3 := nr.sub g3
  unfold kitOne
  by_cases e : (Value.ref p.2 == q.2) = true
  · rw [if_pos e]
    rcases g2 with g2 | g2
    · rw [e] at g2
      cases g2
    · rw [g2]
  · rw [if_neg e]
    obtain ⟨c, v⟩ := q
    unfold kitCls
    cases v with
    | ref C =>
      simp only [Bool.and_eq_true, beq_iff_eq] at g1
      have e2 : ((clsIn K' C).isSome && typeIn K' (.ref C) == some (.type "type")) = true := by rw [show (clsIn K' C).isSome = true from nr.isCls g1.1, nr.type g1.2 (by decide)] <;> rfl
      simp only
      rw [if_pos e2]
      exact g3
    | type T =>
      simp only at g1 ⊢
      rw [if_pos g1]
      exact g3
    | _ => simp at g1
theorem exm_of {K : Frag} {Cn Cc : Addr} {b : Bool} (h1 : subIn K (.ref Cc) (.type "BaseException") = some true) (h2 : isClsIn K Cc = true) (h3 : typeIn K (.ref Cc) = some (.type "type")) (h4 : subIn K (.ref Cn) (.ref Cc) = some b) : exmOne K (.ref Cn) (.ref Cc) = some b := by
  have e1 : (subIn K (.ref Cc) (.type "BaseException") == some true) = true := by rw [h1] <;> rfl
  have e2 : ((clsIn K Cc).isSome && typeIn K (.ref Cc) == some (.type "type")) = true := by
    rw [show (clsIn K Cc).isSome = true from h2, h3] <;> rfl
  unfold exmOne kitCls
  rw [if_pos e1]
  simp only
  rw [if_pos e2]
  exact h4
/-- the words of a class in the written part -/
theorem err_mk {K K' : Frag} (nr : Near K K') {mg : Str → Option Value} {fI Cl : Addr} {cn : Str} {nm q : Str} {N : Addr} {bs bm : List Value} {sn : List Str} {sub : List Value} {ab : Bool} {col : Option Bool} {dd : Option Addr} {k0 k1 k2 k3 k5 : Option Value}
    (m : mg cn = some (.ref Cl)) (l : K.lookup Cl = some (excClassObj nm q Cl N bs bm true sn sub ab col dd k0 k1 k2 k3 k5 "ValueError.__new__")) (r : PySem.HandSPX.refsVE bm = true)
    (sa : findIn K (.ref Cl) "__setattr__" = some (some (.builtin "object.__setattr__"))) (ga : findIn K (.ref Cl) "__getattribute__" = some (some (.builtin "BaseException.__getattribute__"))) (gg : findIn K (.ref Cl) "__getattr__" = some none) (no : findIn K (.ref Cl) "value" = some none)
    (ini : findIn K (.ref Cl) "__init__" = some (some (.ref fI))) (kn : nsIn K mainGlobals cn = some (some (.ref Cl))) (kC : keepIn K (.ref Cl) = true) (eC : subIn K (.ref Cl) (.type "BaseException") = some true) (tC : typeIn K (.ref Cl) = some (.type "type")) (hC : hasDictIn K Cl = true) : ErrC K' mg fI cn Cl where
  mg := m
  cls := ⟨⟨nm, q, N, bs, bm, sn, sub, ab, col, dd, k0, k1, k2, k3, k5, nr _ _ l rfl, r⟩, nr.find sa, nr.sub eC, nr.type tC (by decide), nr.keepC kC tC⟩
  no := nr.find no
  ini := nr.find ini
  ga := nr.find ga
  gg := nr.find gg
  hd := nr.dict hC
  kn := nr.ns kn
theorem ve_init {K : Frag} : findCls K (.type "ValueError") (.type "type") "__init__" = some (.val (.builtin "ValueError.__init__")) := by kernel_rfl
end Ev

set_option Elab.async false
set_option linter.all false
set_option maxHeartbeats 4000000
set_option maxRecDepth 100000
/-! what a table computes, by simp -/
namespace Ev
open PySem L2
theorem lg_10 : (Int.natAbs 10).log2 < 10000 := by decide
theorem at3_0 {α : Type} (x y z : α) : atI [x, y, z] 0 = some x := rfl
theorem at3_1 {α : Type} (x y z : α) : atI [x, y, z] 1 = some y := rfl
theorem at3_2 {α : Type} (x y z : α) : atI [x, y, z] 2 = some z := rfl
theorem ix3_0 : ixN 3 0 = some 0 := rfl
theorem ix3_2 : ixN 3 2 = some 2 := rfl
theorem lg (x : Int) (h0 : -(2 ^ 200) < x) (h1 : x < 2 ^ 200) : x.natAbs.log2 < 200 := PySem.Flt.log2_lt_of (by decide) (by omega)
theorem lg9 (x : Int) (h0 : -(2 ^ 200) < x) (h1 : x < 2 ^ 200) : x.natAbs.log2 < 9000 := Nat.lt_trans (lg x h0 h1) (by decide)
theorem lg10 (x : Int) (h0 : -(2 ^ 200) < x) (h1 : x < 2 ^ 200) : x.natAbs.log2 < 10000 := Nat.lt_trans (lg x h0 h1) (by decide)
def isOk (r : Ev.CR) (fr : Bool) (d : D) : Bool := match r with
  | .ok f x [] => (f == fr) && beqD x d
  | _ => false
theorem isOk_eq {r : Ev.CR} {fr : Bool} {d : D} (h : isOk r fr d = true) : r = .ok fr d [] := by
  unfold isOk at h
  split at h
  · simp only [Bool.and_eq_true] at h
    rw [eq_of_beq h.1, beqD_ok _ _ h.2]
  · cases h
/-- a loop that goes through all items and keeps P -/
theorem forLoop_inv {tg : Tg} {body : Fm → SR} (P : Fm → Prop) : ∀ (ds : List D) (e : Fm), P e → (∀ d ∈ ds, ∀ e, P e → ∃ e1 e2, bindTg tg d e = some e1 ∧ body e1 = .next e2 ∧ P e2) → ∃ e', forLoop tg body ds e = .next e' ∧ P e'
  | [], e, h, _ => ⟨e, rfl, h⟩
  | d :: ds, e, h, hs => by
    obtain ⟨e1, e2, h1, h2, h3⟩ := hs d List.mem_cons_self e h
    obtain ⟨e', q1, q2⟩ := forLoop_inv P ds e2 h3 fun d' m => hs d' (List.mem_cons_of_mem _ m)
    exact ⟨e', by simp only [forLoop, h1, h2, q1], q2⟩
end Ev
namespace Ev
open PySem L2
/-! ### by parts -/
theorem bin_ok {cf : CF} {op : Bop} {a b : Ex} {x y : D} {o : Opd} {e : Fm} (h1 : evE cf a e = .ok (.val x) e) (h2 : evE cf b e = .ok (.val y) e) (h : binD op x y = some o) : evE cf (.bin op a b) e = .ok o e := by
  show two (evE cf a) (evE cf b) (binD op) e = _
  unfold two M.bind
  rw [h1]
  simp only
  rw [h2]
  simp only [der, peek]
  rw [h]
  rfl
theorem ite_okT {cf : CF} {c a b : Ex} {r : R Opd} {e : Fm} (h1 : tst (evE cf c) e = .ok true e) (h2 : evE cf a e = r) : evE cf (.ite c a b) e = r := by
  show (tst (evE cf c)).bind (fun t => if t then evE cf a else evE cf b) e = _
  unfold M.bind
  rw [h1]
  exact h2
theorem ite_okF {cf : CF} {c a b : Ex} {r : R Opd} {e : Fm} (h1 : tst (evE cf c) e = .ok false e) (h2 : evE cf b e = r) : evE cf (.ite c a b) e = r := by
  show (tst (evE cf c)).bind (fun t => if t then evE cf a else evE cf b) e = _
  unfold M.bind
  rw [h1]
  exact h2
theorem set_okS {cf : CF} {i : Nat} {x : Ex} {o : Opd} {e e1 e2 : Fm} (h : evE cf x e = .ok o e1) (h2 : putO e1 i o = some e2) : evS cf (.set i x) e = .next e2 := by
  show SR.of (evE cf x e) (fun o e1 => SR.opt (putO e1 i o)) = _
  rw [h]
  show SR.opt (putO e1 i o) = _
  rw [h2]
  rfl
theorem seq_okS {cf : CF} {s : Sm} {r : Sms} {e e1 : Fm} {o : SR} (h : evS cf s e = .next e1) (h2 : evSs cf r e1 = o) : evSs cf (.cons s r) e = o := by
  show (match evS cf s e with | .next e1 => evSs cf r e1 | o => o) = _
  rw [h]
  exact h2
end Ev
namespace Ev
open PySem L2
theorem forLoop_at {tg : Tg} {body : Fm → SR} (P : Nat → Fm → Prop) : ∀ (ds : List D) (i : Nat) (e : Fm), P i e → (∀ (j : Nat) (d : D), ds[j]? = some d → ∀ e, P (i + j) e → ∃ e1 e2, bindTg tg d e = some e1 ∧ body e1 = .next e2 ∧ P (i + j + 1) e2) → ∃ e', forLoop tg body ds e = .next e' ∧ P (i + ds.length) e'
  | [], i, e, h, _ => ⟨e, rfl, h⟩
  | d :: ds, i, e, h, hs => by
    obtain ⟨e1, e2, h1, h2, h3⟩ := hs 0 d rfl e h
    obtain ⟨e', q1, q2⟩ := forLoop_at P ds (i + 1) e2 h3 fun j d' m e pe => by
      have := hs (j + 1) d' (by simpa using m) e (by rw [show i + (j + 1) = i + 1 + j by omega]; exact pe)
      rw [show i + (j + 1) = i + 1 + j by omega] at this
      exact this
    exact ⟨e', by simp only [forLoop, h1, h2, q1], by rw [List.length_cons, show i + (ds.length + 1) = i + 1 + ds.length by omega]; exact q2⟩
def NL : Slot → Bool
  | .own true _ => false
  | _ => true
theorem setV0 {s : Slot} {r : Fm} {v : Slot} (h : NL s = true) : setV (s :: r) 0 v = some (v :: r) := by
  cases s with
  | un => rfl
  | val d => rfl
  | own l d => cases l with
    | true => cases h
    | false => rfl
theorem setVS {s : Slot} {r : Fm} {i : Nat} {v : Slot} : setV (s :: r) (i + 1) v = (setV r i v).map (s :: ·) := by
  unfold setV
  simp only [List.getElem?_cons_succ, List.set_cons_succ]
  cases r[i]? with
  | none => rfl
  | some t => cases t with
    | un => rfl
    | val d => rfl
    | own l d => cases l <;> rfl
theorem setVN {i : Nat} {v : Slot} : setV [] i v = none := rfl
end Ev
namespace Ev
open PySem L2
theorem run_at {tab : List Fn} {k i : Nat} {fn : Fn} {ds : List D} {e : Fm} (h : tab[i]? = some fn) (hc : ds.length = fn.ps.length ∧ fn.lent.length = fn.ps.length ∧ (fn.lent.zip ds).all (fun p => !p.1 || isOwnable p.2) = true) (he : mkFm fn ds = e) :
    run tab (k + 1) i ds = Ev.finish fn (evSs (run tab k) fn.body e) := by
  subst he
  simp only [run, h]
  rw [if_pos hc]
end Ev

set_option Elab.async false
set_option linter.all false
set_option maxHeartbeats 4000000
set_option maxRecDepth 100000
/-! plain facts about what a table computes -/
namespace Ev
open PySem L2
theorem shN1 (n : Nat) : ((n + 1 : Nat) : Int) = (n : Int) + 1 := by omega
theorem z1 : (1 ≤ sizeLine) = True := by simp; decide
theorem z2 : (2 ≤ sizeLine) = True := by simp; decide
theorem z3 : (3 ≤ sizeLine) = True := by simp; decide
theorem z0 : (0 ≤ sizeLine) = True := by simp only [Nat.zero_le]
theorem szl {n : Nat} (h : n ≤ 10000) : (n ≤ sizeLine) = True := by
  have : (10000 : Nat) ≤ sizeLine := by decide
  simp only [eq_iff_iff, iff_true]
  omega
theorem szlt {n : Nat} (h : n < 10000) : (n < sizeLine) = True := by
  have : (10000 : Nat) ≤ sizeLine := by decide
  simp only [eq_iff_iff, iff_true]
  omega
theorem qE1 : type_of% @evE.eq_1 := @evE.eq_1
theorem qE2 : type_of% @evE.eq_2 := @evE.eq_2
theorem qE3 : type_of% @evE.eq_3 := @evE.eq_3
theorem qE4 : type_of% @evE.eq_4 := @evE.eq_4
theorem qE5 : type_of% @evE.eq_5 := @evE.eq_5
theorem qE6 : type_of% @evE.eq_6 := @evE.eq_6
theorem qE7 : type_of% @evE.eq_7 := @evE.eq_7
theorem qE8 : type_of% @evE.eq_8 := @evE.eq_8
theorem qE9 : type_of% @evE.eq_9 := @evE.eq_9
theorem qE10 : type_of% @evE.eq_10 := @evE.eq_10
theorem qE11 : type_of% @evE.eq_11 := @evE.eq_11
theorem qE12 : type_of% @evE.eq_12 := @evE.eq_12
theorem qE13 : type_of% @evE.eq_13 := @evE.eq_13
theorem qE14 : type_of% @evE.eq_14 := @evE.eq_14
theorem qE15 : type_of% @evE.eq_15 := @evE.eq_15
theorem qE16 : type_of% @evE.eq_16 := @evE.eq_16
theorem qE17 : type_of% @evE.eq_17 := @evE.eq_17
theorem qE18 : type_of% @evE.eq_18 := @evE.eq_18
theorem qE19 : type_of% @evE.eq_19 := @evE.eq_19
theorem qE20 : type_of% @evE.eq_20 := @evE.eq_20
theorem qE21 : type_of% @evE.eq_21 := @evE.eq_21
theorem qE22 : type_of% @evE.eq_22 := @evE.eq_22
theorem qE23 : type_of% @evE.eq_23 := @evE.eq_23
theorem qE24 : type_of% @evE.eq_24 := @evE.eq_24
theorem qE25 : type_of% @evE.eq_25 := @evE.eq_25
theorem qE26 : type_of% @evE.eq_26 := @evE.eq_26
theorem qE27 : type_of% @evE.eq_27 := @evE.eq_27
theorem qE28 : type_of% @evE.eq_28 := @evE.eq_28
theorem qE29 : type_of% @evE.eq_29 := @evE.eq_29
theorem qE31 : type_of% @evE.eq_31 := @evE.eq_31
theorem qS1 : type_of% @evS.eq_1 := @evS.eq_1
theorem qS2 : type_of% @evS.eq_2 := @evS.eq_2
theorem qS3 : type_of% @evS.eq_3 := @evS.eq_3
theorem qS4 : type_of% @evS.eq_4 := @evS.eq_4
theorem qS5 : type_of% @evS.eq_5 := @evS.eq_5
theorem qS6 : type_of% @evS.eq_6 := @evS.eq_6
theorem qS7 : type_of% @evS.eq_7 := @evS.eq_7
theorem qS8 : type_of% @evS.eq_8 := @evS.eq_8
theorem qS9 : type_of% @evS.eq_9 := @evS.eq_9
theorem qS10 : type_of% @evS.eq_10 := @evS.eq_10
theorem qS11 : type_of% @evS.eq_11 := @evS.eq_11
theorem qS12 : type_of% @evS.eq_12 := @evS.eq_12
theorem qS15 : type_of% @evS.eq_15 := @evS.eq_15
theorem qS16 : type_of% @evS.eq_16 := @evS.eq_16
theorem qS17 : type_of% @evS.eq_17 := @evS.eq_17
theorem qS18 : type_of% @evS.eq_18 := @evS.eq_18
/-! ### equality -/
theorem eqG_int (x y : Int) : eqG (.int x) (.int y) = some (decide (x = y)) := by
  show some (x == y) = _
  by_cases h : x = y
  · subst h; simp
  · simp [h]
theorem eqG_bool (x y : Bool) : eqG (.bool x) (.bool y) = some (x == y) := rfl
theorem eqG_str (x y : Str) (hx : PyData.strOk x = true) (hy : PyData.strOk y = true) : eqG (.str x) (.str y) = some (x == y) := by
  unfold eqG
  have h : ∀ z : Str, PyData.strOk z = true → SeqAt.shaped (.str z) = true := fun z h => by simp [SeqAt.shaped, PyData.canLay0, PyData.depth, h]
  rw [h x hx, h y hy, Bool.and_self, if_pos rfl, PyData.eqv]
abbrev I (ns : List Int) : List D := ns.map PyData.int
theorem lay_ints : ∀ ns : List Int, PyData.canLayAll0 (I ns) = true ∧ PyData.depthAll (I ns) = 0
  | [] => ⟨rfl, rfl⟩
  | n :: r => by
    obtain ⟨h1, h2⟩ := lay_ints r
    exact ⟨by simp only [I, List.map_cons, PyData.canLayAll0, PyData.canLay0]; simpa using h1, by simp only [I, List.map_cons, PyData.depthAll, PyData.depth]; simp only [I] at h2; rw [h2]; rfl⟩
theorem sh_list (ns : List Int) : SeqAt.shaped (.list (I ns)) = true := by
  obtain ⟨h1, h2⟩ := lay_ints ns
  simp only [SeqAt.shaped, PyData.canLay0, PyData.depth, h1, h2]
  rfl
theorem sh_tup (ns : List Int) : SeqAt.shaped (.tuple (I ns)) = true := by
  obtain ⟨h1, h2⟩ := lay_ints ns
  simp only [SeqAt.shaped, PyData.canLay0, PyData.depth, h1, h2]
  rfl
theorem lay_tups : ∀ ls : List (List Int), PyData.canLayAll0 (ls.map fun l => PyData.tuple (I l)) = true ∧ PyData.depthAll (ls.map fun l => PyData.tuple (I l)) ≤ 1
  | [] => ⟨rfl, by decide⟩
  | l :: r => by
    obtain ⟨h1, h2⟩ := lay_tups r
    obtain ⟨h3, h4⟩ := lay_ints l
    refine ⟨by simp only [List.map_cons, PyData.canLayAll0, PyData.canLay0, h3, h1]; rfl, ?_⟩
    simp only [List.map_cons, PyData.depthAll, PyData.depth, h4]
    exact Nat.max_le.mpr ⟨by decide, h2⟩
theorem sh_tups (ls : List (List Int)) : SeqAt.shaped (.list (ls.map fun l => PyData.tuple (I l))) = true := by
  obtain ⟨h1, h2⟩ := lay_tups ls
  unfold SeqAt.shaped
  rw [PyData.canLay0, h1, PyData.depth, Bool.true_and]
  exact decide_eq_true (by omega)
theorem eqv_ints : ∀ xs ys : List Int, PyData.eqvAll (I xs) (I ys) = decide (xs = ys)
  | [], [] => rfl
  | [], _ :: _ => rfl
  | _ :: _, [] => rfl
  | x :: xs, y :: ys => by
    have ih := eqv_ints xs ys
    simp only [I, List.map_cons, PyData.eqvAll, PyData.eqv] at ih ⊢
    rw [ih]
    by_cases h : x = y
    · subst h
      by_cases h2 : xs = ys
      · subst h2; simp
      · simp [h2]
    · simp [h]
theorem eqG_list (xs ys : List Int) : eqG (.list (I xs)) (.list (I ys)) = some (decide (xs = ys)) := by
  unfold eqG
  rw [sh_list, sh_list, Bool.and_self, if_pos rfl, PyData.eqv, eqv_ints]
theorem eqG_tup (xs ys : List Int) : eqG (.tuple (I xs)) (.tuple (I ys)) = some (decide (xs = ys)) := by
  unfold eqG
  rw [sh_tup, sh_tup, Bool.and_self, if_pos rfl, PyData.eqv, eqv_ints]
theorem eqG_tup0 (xs : List Int) : eqG (.tuple (I xs)) (.tuple []) = some (decide (xs = [])) := eqG_tup xs []
theorem eqG_tups0 (ls : List (List Int)) : eqG (.list (ls.map fun l => PyData.tuple (I l))) (.list []) = some (decide (ls = [])) := by
  unfold eqG
  rw [sh_tups, show SeqAt.shaped (.list []) = true from rfl, Bool.and_self, if_pos rfl, PyData.eqv]
  cases ls with
  | nil => rfl
  | cons l r => simp [PyData.eqvAll]
/-! ### lists -/
theorem rng_len (a : Int) (n : Nat) : (rng a n).length = n := by unfold rng; rw [List.length_map, List.length_range]
theorem rng_get {a : Int} {n j : Nat} {d : D} (h : (rng a n)[j]? = some d) : j < n ∧ d = .int (a + (j : Nat)) := by
  have hj := (List.getElem?_eq_some_iff.mp h).1
  rw [rng_len] at hj
  refine ⟨hj, ?_⟩
  unfold rng at h
  rw [List.getElem?_map, List.getElem?_range hj] at h
  cases h
  rfl
def ri (a : Int) (n : Nat) : List Int := (List.range n).map fun (k : Nat) => a + (k : Int)
theorem rng_ri (a : Int) (n : Nat) : rng a n = I (ri a n) := by unfold rng ri I; rw [List.map_map]; rfl
theorem ri_len (a : Int) (n : Nat) : (ri a n).length = n := by unfold ri; rw [List.length_map, List.length_range]
theorem ri_mem {a x : Int} {n : Nat} : x ∈ ri a n ↔ a ≤ x ∧ x < a + n := by
  unfold ri
  rw [List.mem_map]
  constructor
  · rintro ⟨k, hk, rfl⟩
    rw [List.mem_range] at hk
    omega
  · intro h
    exact ⟨(x - a).toNat, List.mem_range.mpr (by omega), by omega⟩
theorem ri_nodup (a : Int) (n : Nat) : (ri a n).Nodup := by
  unfold ri
  refine List.Pairwise.map _ (fun x y (h : x ≠ y) => ?_) List.nodup_range
  omega
theorem ri_sorted (a : Int) (n : Nat) : (ri a n).Pairwise (· ≤ ·) := by
  unfold ri
  refine List.Pairwise.map (R := (· < ·)) _ (fun x y (h : x < y) => ?_) List.pairwise_lt_range
  omega
theorem log_small {i : Int} {n : Nat} (hn : 0 < n) (h : i.natAbs < 2 ^ n) : i.natAbs.log2 < n := log_lt hn h
theorem rngOk_s {i : Int} (h0 : -100000 < i) (h1 : i < 100000) : rngOk i = true := decide_eq_true (log_lt (by decide) (by omega))
theorem r1_n {n : Int} (h0 : n < 10000) (h1 : -10000 < n) : r1D (.int n) = some (rng 0 n.toNat) := by
  show (if (rngOk n && lenOk n.toNat) = true then some (rng 0 n.toNat) else none) = _
  rw [rngOk_s (by omega) (by omega)]
  have : lenOk n.toNat = true := decide_eq_true (by rw [szl (by omega)]; trivial)
  rw [this]
  rfl
theorem r2_n {a b : Int} (ha : -10000 < a) (ha2 : a < 10000) (h0 : b < 10000) (h1 : -10000 < b) : r2D (.int a) (.int b) = some (rng a (b - a).toNat) := by
  show (if (rngOk a && rngOk b && lenOk (b - a).toNat) = true then some (rng a (b - a).toNat) else none) = _
  rw [rngOk_s (by omega) (by omega), rngOk_s (by omega) (by omega)]
  have : lenOk (b - a).toNat = true := decide_eq_true (by
    have : (30000 : Nat) ≤ sizeLine := by decide
    omega)
  rw [this]
  rfl
theorem lrg_n {a b : Int} (ha : -10000 < a) (ha2 : a < 10000) (h0 : b < 10000) (h1 : -10000 < b) : lrgD (.int a) (.int b) = some (.fresh (.list (rng a (b - a).toNat))) := by
  show (if (rngOk a && rngOk b && lenOk (b - a).toNat) = true then some (Opd.fresh (.list (rng a (b - a).toNat))) else none) = _
  rw [rngOk_s (by omega) (by omega), rngOk_s (by omega) (by omega)]
  have : lenOk (b - a).toNat = true := decide_eq_true (by
    have : (30000 : Nat) ≤ sizeLine := by decide
    omega)
  rw [this]
  rfl
theorem ixN_nat {n : Nat} {i : Int} (h0 : 0 ≤ i) (h1 : i < n) : ixN n i = some i.toNat := by
  unfold ixN
  rw [if_pos h0, if_pos h1]
theorem ixN_m1 {n : Nat} (h : 0 < n) : ixN n (-1) = some (n - 1) := by
  unfold ixN
  rw [if_neg (by omega), if_pos (by omega)]
  congr 1
  omega
theorem atI_nat {α : Type} {xs : List α} {i : Int} {x : α} (h0 : 0 ≤ i) (h : xs[i.toNat]? = some x) : atI xs i = some x := by
  have hl := (List.getElem?_eq_some_iff.mp h).1
  unfold atI
  rw [ixN_nat h0 (by omega)]
  exact h
theorem atI_int {ns : List Int} {i : Int} {x : Int} (h0 : 0 ≤ i) (h : ns[i.toNat]? = some x) : atI (I ns) i = some (.int x) := by
  refine atI_nat h0 ?_
  unfold I
  rw [List.getElem?_map, h]
  rfl
theorem atI_last {α : Type} {xs : List α} {x : α} : atI (xs ++ [x]) (-1) = some x := by
  unfold atI
  rw [ixN_m1 (by simp)]
  simp
theorem cut_take {α : Type} {xs : List α} {p : Int} (h0 : 0 ≤ p) : cutL xs none (some p) = xs.take p.toNat := by
  unfold cutL
  rw [HT.sIx_none, List.drop_zero]
  obtain ⟨m, rfl⟩ : ∃ m : Nat, p = (m : Int) := ⟨p.toNat, by omega⟩
  rw [HT.sIx_nat, Nat.sub_zero, Int.toNat_natCast]
  by_cases h : m ≤ xs.length
  · rw [Nat.min_eq_left h]
  · rw [Nat.min_eq_right (by omega), List.take_length, List.take_of_length_le (by omega)]
theorem cut_drop {α : Type} {xs : List α} {p : Int} (h0 : 0 ≤ p) : cutL xs (some p) none = xs.drop p.toNat := by
  unfold cutL
  obtain ⟨m, rfl⟩ : ∃ m : Nat, p = (m : Int) := ⟨p.toNat, by omega⟩
  rw [HT.sIx_none, HT.sIx_nat, Int.toNat_natCast]
  by_cases h : m ≤ xs.length
  · rw [Nat.min_eq_left h, List.take_of_length_le (by rw [List.length_drop]; omega)]
  · rw [Nat.min_eq_right (by omega), List.drop_eq_nil_of_le (Nat.le_refl _), List.drop_eq_nil_of_le (by omega)]
    simp
theorem cut_drop1 {α : Type} {xs : List α} : cutL xs none (some (-1)) = xs.dropLast := by
  unfold cutL
  rw [HT.sIx_none, List.drop_zero]
  have : HT.sIx xs.length xs.length (some (-1)) = xs.length - 1 := by
    show (if (-1 : Int) < 0 then ((-1 : Int) + (xs.length : Int)).toNat else min (-1 : Int).toNat xs.length) = _
    rw [if_pos (by decide)]
    omega
  rw [this, Nat.sub_zero, List.dropLast_eq_take]
/-! ### slots -/
def Pl (s : Slot) : Prop := s = .un ∨ ∃ d, s = .val d
theorem Pl.nl {s : Slot} (h : Pl s) : NL s = true := by
  rcases h with rfl | ⟨d, rfl⟩ <;> rfl
theorem Pl.un : Pl .un := .inl rfl
theorem Pl.val {d : D} : Pl (.val d) := .inr ⟨d, rfl⟩
theorem setV_nl {e : Fm} {i : Nat} {v s : Slot} (h : e[i]? = some s) (hs : NL s = true) : setV e i v = some (e.set i v) := by
  unfold setV
  rw [h]
  cases s with
  | un => rfl
  | val d => rfl
  | own l d => cases l with
    | true => cases hs
    | false => rfl
/-! ### comprehensions over one name, whose parts leave the frame alone -/
theorem lc_filter {cf : CF} {i : Nat} {elt : Ex} {ifs : Exs} {e : Fm} (p : D → Bool) (f : D → D) (hi : i < e.length) (he : e[i]? = some .un) : ∀ (ds acc : List D),
    (∀ d ∈ ds, evFs cf ifs (e.set i (.val d)) = .ok (p d) (e.set i (.val d)) ∧ (p d = true → tk (evE cf elt) (e.set i (.val d)) = .ok (f d) (e.set i (.val d)))) →
    lcLoop (turnM (.nm i) (evFs cf ifs) (tk (evE cf elt))) [i] ds acc e = .ok (acc ++ (ds.filter p).map f) e
  | [], acc, _ => by simp [lcLoop, M.pure]
  | d :: ds, acc, h => by
    obtain ⟨h1, h2⟩ := h d List.mem_cons_self
    have hw : wipeF (e.set i (.val d)) [i] = some e := by
      simp only [wipeF, Option.bind_some, List.getElem?_set_self hi]
      rw [List.set_set]
      congr 1
      apply List.ext_getElem?
      intro j
      by_cases q : i = j
      · subst q; rw [List.getElem?_set_self hi, he]
      · rw [List.getElem?_set_ne q]
    have hb : bindTg (.nm i) d e = some (e.set i (.val d)) := setV_nl he rfl
    have ih := fun acc => lc_filter p f hi he ds acc fun d' m => h d' (List.mem_cons_of_mem _ m)
    cases hp : p d with
    | true =>
      have : turnM (.nm i) (evFs cf ifs) (tk (evE cf elt)) d e = .ok (some (f d)) (e.set i (.val d)) := by
        simp only [turnM, hb, M.bind, h1, hp, if_true, M.map, h2 hp, M.pure]
      simp only [lcLoop, this, hw]
      rw [ih, List.filter_cons_of_pos hp, List.map_cons]
      simp
    | false =>
      have : turnM (.nm i) (evFs cf ifs) (tk (evE cf elt)) d e = .ok none (e.set i (.val d)) := by
        simp only [turnM, hb, M.bind, h1, hp, M.pure]
        rfl
      simp only [lcLoop, this, hw]
      rw [ih, List.filter_cons_of_neg (by rw [hp]; exact Bool.false_ne_true)]
theorem comp_filter {cf : CF} {i : Nat} {elt : Ex} {ifs : Exs} {it : Itr} {e e1 : Fm} {ds : List D} (p : D → Bool) (f : D → D) {s : Slot} (hit : evI cf it e = .ok ds e1) (hs : e1[i]? = some s) (hp : Pl s)
    (h : ∀ d ∈ ds, evFs cf ifs (e1.set i (.val d)) = .ok (p d) (e1.set i (.val d)) ∧ (p d = true → tk (evE cf elt) (e1.set i (.val d)) = .ok (f d) (e1.set i (.val d)))) :
    evE cf (.comp [i] elt (.nm i) it ifs) e = .ok (.fresh (.list ((ds.filter p).map f))) e1 := by
  have hi := (List.getElem?_eq_some_iff.mp hs).1
  have hw : wipeF e1 [i] = some (e1.set i .un) := by
    simp only [wipeF, Option.bind_some, hs]
    rcases hp with rfl | ⟨d, rfl⟩ <;> rfl
  have hl := lc_filter (cf := cf) (i := i) (elt := elt) (ifs := ifs) (e := e1.set i .un) p f (by rw [List.length_set]; exact hi) (List.getElem?_set_self hi) ds [] fun d hd => by
    rw [List.set_set]
    exact h d hd
  have hb : backF e1 (e1.set i .un) [i] = e1 := by
    simp only [backF, List.set_set, hs, Option.getD_some]
    apply List.ext_getElem?
    intro j
    by_cases q : i = j
    · subst q; rw [List.getElem?_set_self hi, hs]
    · rw [List.getElem?_set_ne q]
  show compM [i] (.nm i) (evI cf it) (evFs cf ifs) (tk (evE cf elt)) e = _
  simp only [compM, M.bind, hit, hw, hl, hb, List.nil_append]
/-- .. without a test -/
theorem comp_map {cf : CF} {i : Nat} {elt : Ex} {it : Itr} {e e1 : Fm} {ds : List D} (f : D → D) {s : Slot} (hit : evI cf it e = .ok ds e1) (hs : e1[i]? = some s) (hp : Pl s)
    (h : ∀ d ∈ ds, tk (evE cf elt) (e1.set i (.val d)) = .ok (f d) (e1.set i (.val d))) :
    evE cf (.comp [i] elt (.nm i) it .nil) e = .ok (.fresh (.list (ds.map f))) e1 := by
  have := comp_filter (cf := cf) (i := i) (elt := elt) (ifs := .nil) (it := it) (fun _ => true) f hit hs hp fun d hd => ⟨rfl, fun _ => h d hd⟩
  rw [this, List.filter_eq_self.mpr fun _ _ => rfl]
/-- .. where the items are told without a change, too -/
theorem comp_mapE {cf : CF} {i : Nat} {elt : Ex} {it : Itr} {e : Fm} {ds : List D} (f : D → D) {s : Slot} (hit : evI cf it e = .ok ds e) (hs : e[i]? = some s) (hp : Pl s)
    (h : ∀ d ∈ ds, tk (evE cf elt) (e.set i (.val d)) = .ok (f d) (e.set i (.val d))) :
    evE cf (.comp [i] elt (.nm i) it .nil) e = .ok (.fresh (.list (ds.map f))) e := comp_map f hit hs hp h
theorem comp_filterE {cf : CF} {i : Nat} {elt : Ex} {ifs : Exs} {it : Itr} {e : Fm} {ds : List D} (p : D → Bool) (f : D → D) {s : Slot} (hit : evI cf it e = .ok ds e) (hs : e[i]? = some s) (hp : Pl s)
    (h : ∀ d ∈ ds, evFs cf ifs (e.set i (.val d)) = .ok (p d) (e.set i (.val d)) ∧ (p d = true → tk (evE cf elt) (e.set i (.val d)) = .ok (f d) (e.set i (.val d)))) :
    evE cf (.comp [i] elt (.nm i) it ifs) e = .ok (.fresh (.list ((ds.filter p).map f))) e := comp_filter p f hit hs hp h
theorem ite_yes {cf : CF} {c : Ex} {t f : Sms} {e e1 : Fm} {r : SR} (h : tst (evE cf c) e = .ok true e1) (h2 : evSs cf t e1 = r) : evS cf (.ite c t f) e = r := by
  show SR.of (tst (evE cf c) e) (fun b e1 => if b then evSs cf t e1 else evSs cf f e1) = r
  rw [h]
  exact h2
theorem ite_no {cf : CF} {c : Ex} {t f : Sms} {e e1 : Fm} {r : SR} (h : tst (evE cf c) e = .ok false e1) (h2 : evSs cf f e1 = r) : evS cf (.ite c t f) e = r := by
  show SR.of (tst (evE cf c) e) (fun b e1 => if b then evSs cf t e1 else evSs cf f e1) = r
  rw [h]
  exact h2
theorem for_okS {cf : CF} {tg : Tg} {it : Itr} {b : Sms} {e e1 e2 : Fm} {ds : List D} (h : evI cf it e = .ok ds e1) (h2 : forLoop tg (evSs cf b) ds e1 = .next e2) : evS cf (.for_ tg it b) e = .next e2 := by
  show SR.of (evI cf it e) (fun ds e1 => forLoop tg (evSs cf b) ds e1) = _
  rw [h]
  exact h2
theorem mapM_bools : ∀ bs : List Bool, (bs.map PyData.bool).mapM boolD = some bs
  | [] => rfl
  | b :: r => by rw [List.map_cons, List.mapM_cons, mapM_bools r]; rfl
theorem mapM_ints : ∀ ns : List Int, (I ns).mapM intD = some ns
  | [] => rfl
  | b :: r => by
    have := mapM_ints r
    unfold I at this ⊢
    rw [List.map_cons, List.mapM_cons, this]
    rfl
end Ev

set_option Elab.async false
set_option linter.all false
set_option maxHeartbeats 4000000
set_option maxRecDepth 100000
/-! what a table computes, by what is wanted behind it -/
namespace Ev
open PySem L2
abbrev XP := Str → D → Fm → Prop
def rwp {α : Type} (r : R α) (Q : α → Fm → Prop) (X : XP) : Prop :=
  match r with
  | .ok a e => Q a e
  | .exc c d e => X c d e
  | .stuck => False
theorem rwp_bind {α β : Type} {p : M α} {f : α → M β} {e : Fm} {Q : β → Fm → Prop} {X : XP} (h : rwp (p e) (fun a e1 => rwp (f a e1) Q X) X) : rwp (M.bind p f e) Q X := by
  unfold M.bind
  unfold rwp at h
  cases hp : p e with
  | ok a e1 => rw [hp] at h; exact h
  | exc c d e1 => rw [hp] at h; exact h
  | stuck => rw [hp] at h; exact h.elim
theorem rwp_opt {α : Type} {x : Option α} {e : Fm} {Q : α → Fm → Prop} {X : XP} (h : ∃ a, x = some a ∧ Q a e) : rwp (M.opt x e) Q X := by
  obtain ⟨a, rfl, h⟩ := h
  exact h
theorem rwp_imp {α : Type} {r : R α} {Q Q' : α → Fm → Prop} {X X' : XP} (h : rwp r Q X) (f : ∀ a e, Q a e → Q' a e) (g : ∀ c d e, X c d e → X' c d e) : rwp r Q' X' := by
  cases r with
  | ok a e => exact f a e h
  | exc c d e => exact g c d e h
  | stuck => exact h
/-- a slot stored -/
class inductive SetAt : Fm → Nat → Slot → outParam Fm → Prop where
  | zero {s v : Slot} {r : Fm} : SetAt (s :: r) 0 v (v :: r)
  | succ {s v : Slot} {r r' : Fm} {i : Nat} : SetAt r i v r' → SetAt (s :: r) (i + 1) v (s :: r')
instance {s v : Slot} {r : Fm} : SetAt (s :: r) 0 v (v :: r) := .zero
instance {s v : Slot} {r r' : Fm} {i : Nat} [h : SetAt r i v r'] : SetAt (s :: r) (i + 1) v (s :: r') := .succ h
theorem SetAt.eq {e e' : Fm} {i : Nat} {v : Slot} (h : SetAt e i v e') : e.set i v = e' := by
  induction h with
  | zero => rfl
  | succ _ ih => rw [List.set_cons_succ, ih]
theorem SetAt.lt {e e' : Fm} {i : Nat} {v : Slot} (h : SetAt e i v e') : i < e.length := by
  induction h with
  | zero => simp
  | succ _ ih => rw [List.length_cons]; omega
/-- a slot may be stored -/
class NLs (s : Slot) : Prop where ok : NL s = true
instance : NLs .un := ⟨rfl⟩
instance {d : D} : NLs (.val d) := ⟨rfl⟩
instance {d : D} : NLs (.own false d) := ⟨rfl⟩
class inductive NLat : Fm → Nat → Prop where
  | zero {s : Slot} {r : Fm} : NLs s → NLat (s :: r) 0
  | succ {s : Slot} {r : Fm} {i : Nat} : NLat r i → NLat (s :: r) (i + 1)
instance {s : Slot} {r : Fm} [h : NLs s] : NLat (s :: r) 0 := .zero h
instance {s : Slot} {r : Fm} {i : Nat} [h : NLat r i] : NLat (s :: r) (i + 1) := .succ h
theorem NLat.ex {e : Fm} {i : Nat} (h : NLat e i) : ∃ s, e[i]? = some s ∧ NL s = true := by
  induction h with
  | zero h => exact ⟨_, rfl, h.ok⟩
  | succ _ ih =>
    obtain ⟨s, h1, h2⟩ := ih
    exact ⟨s, by rw [List.getElem?_cons_succ]; exact h1, h2⟩
theorem setV_at {e e' : Fm} {i : Nat} {v : Slot} (n : NLat e i) (h : SetAt e i v e') : setV e i v = some e' := by
  obtain ⟨s, h1, h2⟩ := n.ex
  rw [setV_nl h1 h2, h.eq]
structure Ed where
  nx : Fm → Prop
  rt : Bool → D → Fm → Prop
  bk : Fm → Prop
  ct : Fm → Prop
  xc : XP
def swp (r : SR) (E : Ed) : Prop :=
  match r with
  | .next e => E.nx e
  | .ret fr d e => E.rt fr d e
  | .brk e => E.bk e
  | .cnt e => E.ct e
  | .exc c d e => E.xc c d e
  | .stuck => False
theorem swp_of {α : Type} {r : R α} {f : α → Fm → SR} {E : Ed} (h : rwp r (fun a e => swp (f a e) E) E.xc) : swp (SR.of r f) E := by
  cases r with
  | ok a e => exact h
  | exc c d e => exact h
  | stuck => exact h
structure WC (r : CR) (Q : Bool → D → List D → Prop) (X : Str → D → Prop) : Prop where
  run : match r with
    | .ok fr d ls => Q fr d ls
    | .exc c d => X c d
    | .stuck => False
abbrev NX : Str → D → Prop := fun _ _ => False
theorem WC.get {r : CR} {Q : Bool → D → List D → Prop} (h : WC r Q NX) : ∃ fr d ls, r = .ok fr d ls ∧ Q fr d ls := by
  cases r with
  | ok fr d ls => exact ⟨fr, d, ls, rfl, h.run⟩
  | exc c d => exact h.run.elim
  | stuck => exact h.run.elim
theorem WC.eq {r : CR} {fr : Bool} {d : D} {ls : List D} {Q : Bool → D → List D → Prop} {X : Str → D → Prop} (h : r = .ok fr d ls) (q : Q fr d ls) : WC r Q X := by
  subst h
  exact ⟨q⟩
theorem WC.imp {r : CR} {Q Q' : Bool → D → List D → Prop} {X X' : Str → D → Prop} (h : WC r Q X) (f : ∀ fr d ls, Q fr d ls → Q' fr d ls) (g : ∀ c d, X c d → X' c d) : WC r Q' X' := by
  cases r with
  | ok fr d ls => exact ⟨f _ _ _ h.run⟩
  | exc c d => exact ⟨g _ _ h.run⟩
  | stuck => exact h.run.elim
section
variable (cf : CF)
structure WE (a : Ex) (e : Fm) (Q : Opd → Fm → Prop) (X : XP) : Prop where run : rwp (evE cf a e) Q X
structure WK (a : Ex) (e : Fm) (Q : D → Fm → Prop) (X : XP) : Prop where run : rwp (pk (evE cf a) e) Q X
structure WD (a : Ex) (e : Fm) (Q : D → Fm → Prop) (X : XP) : Prop where run : rwp (tk (evE cf a) e) Q X
structure WT (a : Ex) (e : Fm) (Q : Bool → Fm → Prop) (X : XP) : Prop where run : rwp (tst (evE cf a) e) Q X
structure WTs (a : Exs) (e : Fm) (Q : List D → Fm → Prop) (X : XP) : Prop where run : rwp (evTs cf a e) Q X
structure WAs (a : Exs) (e : Fm) (Q : List Opd → Fm → Prop) (X : XP) : Prop where run : rwp (evAs cf a e) Q X
structure WXs (a : Exs) (e : Fm) (Q : List Opd → Fm → Prop) (X : XP) : Prop where run : rwp (evXs cf a e) Q X
structure WI (a : Itr) (e : Fm) (Q : List D → Fm → Prop) (X : XP) : Prop where run : rwp (evI cf a e) Q X
structure WF (a : Exs) (e : Fm) (Q : Bool → Fm → Prop) (X : XP) : Prop where run : rwp (evFs cf a e) Q X
structure WB (k : Bool) (a : Exs) (e : Fm) (Q : Opd → Fm → Prop) (X : XP) : Prop where run : rwp (evB cf k a e) Q X
structure WO (a : Oe) (e : Fm) (Q : Option Int → Fm → Prop) (X : XP) : Prop where run : rwp (evO cf a e) Q X
structure WS (s : Sm) (e : Fm) (E : Ed) : Prop where run : swp (evS cf s e) E
structure WSs (s : Sms) (e : Fm) (E : Ed) : Prop where run : swp (evSs cf s e) E
/-- an operand looked at -/
structure Dp (o : Opd) (e : Fm) (Q : D → Prop) : Prop where run : ∃ d, der (peek o) e = .ok d e ∧ Q d
/-- an operand taken -/
structure Tk (o : Opd) (e : Fm) (Q : D → Fm → Prop) : Prop where run : ∃ d e1, take o e = .ok d e1 ∧ Q d e1
structure Dps (os : List Opd) (e : Fm) (Q : List D → Prop) : Prop where run : ∃ ds, derAll os e = .ok ds e ∧ Q ds
structure Tr (d : D) (Q : Bool → Prop) : Prop where run : ∃ b, truth d = some b ∧ Q b
structure Bn (op : Bop) (x y : D) (Q : Opd → Prop) : Prop where run : ∃ o, binD op x y = some o ∧ Q o
structure Cm (op : Cop) (x y : D) (Q : Bool → Prop) : Prop where run : ∃ b, cmpD op x y = some b ∧ Q b
structure Bc (b : Bi) (ds : List D) (Q : Opd → Prop) : Prop where run : ∃ o, biD b ds = some o ∧ Q o
structure Op (x : Option Opd) (Q : Opd → Prop) : Prop where run : ∃ o, x = some o ∧ Q o
structure Ix (x y : D) (Q : D → Prop) : Prop where run : ∃ d, idxD x y = some d ∧ Q d
/-- an operand stored -/
structure Pt (e : Fm) (i : Nat) (o : Opd) (Q : Fm → Prop) : Prop where run : ∃ e1, putO e i o = some e1 ∧ Q e1
structure Pts (e : Fm) (is : List Nat) (os : List Opd) (Q : Fm → Prop) : Prop where run : ∃ e1, putOs e is os = some e1 ∧ Q e1
structure Bt (tg : Tg) (d : D) (e : Fm) (Q : Fm → Prop) : Prop where run : ∃ e1, bindTg tg d e = some e1 ∧ Q e1
structure Vs (e : Fm) (is : List Nat) (ds : List D) (Q : Fm → Prop) : Prop where run : ∃ e1, setVs e is ds = some e1 ∧ Q e1
structure Le (e : Fm) (lent : List Bool) (Q : List D → Prop) : Prop where run : ∃ ls, lentsOf e lent 0 = some ls ∧ Q ls
structure PL (e : Fm) (is : List Nat) (ds : List D) (Q : Fm → Prop) : Prop where run : ∃ e1, putL e is ds = some e1 ∧ Q e1
structure Cl (f : Nat) (lent : List Bool) (os : List Opd) (e : Fm) (Q : Opd → Fm → Prop) (X : XP) : Prop where run : rwp (doCall cf f lent os e) Q X
end
section
variable {cf : CF} {e e1 e' : Fm} {X : XP} {E : Ed}
/-! ### operands -/
theorem Dp.val {d : D} {Q : D → Prop} (h : Q d) : Dp (.val d) e Q := ⟨d, rfl, h⟩
theorem Dp.fresh {d : D} {Q : D → Prop} (h : Q d) : Dp (.fresh d) e Q := ⟨d, rfl, h⟩
theorem Dp.own {i : Nat} {l : Bool} {d : D} {Q : D → Prop} (h : e[i]? = some (.own l d)) (q : Q d) : Dp (.slot i) e Q := ⟨d, by simp only [peek, der, h], q⟩
theorem Dp.vslot {i : Nat} {d : D} {Q : D → Prop} (h : e[i]? = some (.val d)) (q : Q d) : Dp (.slot i) e Q := ⟨d, by simp only [peek, der, h], q⟩
theorem Tk.val {d : D} {Q : D → Fm → Prop} (h : Q d e) : Tk (.val d) e Q := ⟨d, e, rfl, h⟩
theorem Tk.fresh {d : D} {Q : D → Fm → Prop} (h : Q d e) : Tk (.fresh d) e Q := ⟨d, e, rfl, h⟩
theorem Tk.own {i : Nat} {d : D} {Q : D → Fm → Prop} (h : e[i]? = some (.own false d)) [s : SetAt e i (.val d) e1] (q : Q d e1) : Tk (.slot i) e Q := ⟨d, e1, by simp only [take, h]; rw [s.eq], q⟩
theorem Tk.vslot {i : Nat} {d : D} {Q : D → Fm → Prop} (h : e[i]? = some (.val d)) (q : Q d e) : Tk (.slot i) e Q := ⟨d, e, by simp only [take, h], q⟩
theorem Dps.nil {Q : List D → Prop} (h : Q []) : Dps [] e Q := ⟨[], rfl, h⟩
theorem der_peek {o : Opd} {d : D} (h : der (peek o) e = .ok d e) : der o e = .ok d e := by
  cases o <;> exact h
theorem Dps.cons {o : Opd} {os : List Opd} {Q : List D → Prop} (h : Dp o e fun d => Dps os e fun ds => Q (d :: ds)) : Dps (o :: os) e Q := by
  obtain ⟨d, h1, ⟨ds, h2, h3⟩⟩ := h.run
  exact ⟨d :: ds, by show M.bind (der o) (fun d => (derAll os).bind fun ds => M.pure (d :: ds)) e = _; unfold M.bind; rw [der_peek h1]; simp only; rw [h2]; rfl, h3⟩
/-! ### truth -/
theorem Tr.bool {b : Bool} {Q : Bool → Prop} (h : Q b) : Tr (.bool b) Q := ⟨b, rfl, h⟩
theorem Tr.int {i : Int} {Q : Bool → Prop} (h : Q (i != 0)) : Tr (.int i) Q := ⟨_, rfl, h⟩
theorem Tr.none {Q : Bool → Prop} (h : Q false) : Tr .none Q := ⟨_, rfl, h⟩
theorem Tr.list {xs : List D} {Q : Bool → Prop} (h : Q (!xs.isEmpty)) : Tr (.list xs) Q := ⟨_, rfl, h⟩
theorem Tr.tuple {xs : List D} {Q : Bool → Prop} (h : Q (!xs.isEmpty)) : Tr (.tuple xs) Q := ⟨_, rfl, h⟩
/-! ### operators -/
theorem Bn.addI {x y : Int} {Q : Opd → Prop} (h : Q (.val (.int (x + y)))) : Bn .add (.int x) (.int y) Q := ⟨_, rfl, h⟩
theorem Bn.subI {x y : Int} {Q : Opd → Prop} (h : Q (.val (.int (x - y)))) : Bn .sub (.int x) (.int y) Q := ⟨_, rfl, h⟩
theorem Bn.mulI {x y : Int} {Q : Opd → Prop} (m : mulOk x y = true) (h : Q (.val (.int (x * y)))) : Bn .mul (.int x) (.int y) Q := ⟨_, by simp only [binD, m, if_true], h⟩
theorem Bn.fdivI {x y : Int} {Q : Opd → Prop} (m : 0 < y) (m2 : y.natAbs.log2 < 9000) (h : Q (.val (.int (x / y)))) : Bn .fdiv (.int x) (.int y) Q := ⟨_, by simp only [binD, m, m2, and_self, if_true], h⟩
theorem Bn.modI {x y : Int} {Q : Opd → Prop} (m : 0 < y) (h : Q (.val (.int (x % y)))) : Bn .mod (.int x) (.int y) Q := ⟨_, by simp only [binD, m, if_true], h⟩
theorem Bn.powI {x y : Int} {Q : Opd → Prop} (m : 0 ≤ y ∧ y ≤ 1000) (m2 : x.natAbs.log2 < 10000) (h : Q (.val (.int (x ^ y.toNat)))) : Bn .pow (.int x) (.int y) Q := ⟨_, by simp only [binD, m, m2, and_self, if_true], h⟩
theorem Bn.powE {x y z : Int} {Q : Opd → Prop} (m : 0 ≤ y ∧ y ≤ 1000) (m2 : x.natAbs.log2 < 10000) (hz : x ^ y.toNat = z) (h : Q (.val (.int z))) : Bn .pow (.int x) (.int y) Q := ⟨_, by simp only [binD, m, m2, and_self, if_true, hz], h⟩
theorem Bn.addL {xs ys : List D} {Q : Opd → Prop} (m : xs.length + ys.length ≤ sizeLine) (h : Q (.fresh (.list (xs ++ ys)))) : Bn .add (.list xs) (.list ys) Q := ⟨_, by simp only [binD, m, if_true], h⟩
theorem Bn.addT {xs ys : List D} {Q : Opd → Prop} (m : xs.length + ys.length ≤ sizeLine) (h : Q (.val (.tuple (xs ++ ys)))) : Bn .add (.tuple xs) (.tuple ys) Q := ⟨_, by simp only [binD, m, if_true], h⟩
theorem Bn.addS {xs ys : Str} {Q : Opd → Prop} (m : xs.length + ys.length ≤ sizeLine) (h : Q (.val (.str (xs ++ ys)))) : Bn .add (.str xs) (.str ys) Q := ⟨_, by simp only [binD, m, if_true], h⟩
theorem Bn.of {op : Bop} {x y : D} {o : Opd} {Q : Opd → Prop} (h : binD op x y = some o) (q : Q o) : Bn op x y Q := ⟨o, h, q⟩
theorem Cm.lt {x y : Int} {Q : Bool → Prop} (h : Q (decide (x < y))) : Cm .lt (.int x) (.int y) Q := ⟨_, rfl, h⟩
theorem Cm.le {x y : Int} {Q : Bool → Prop} (h : Q (decide (x ≤ y))) : Cm .le (.int x) (.int y) Q := ⟨_, rfl, h⟩
theorem Cm.gt {x y : Int} {Q : Bool → Prop} (h : Q (decide (y < x))) : Cm .gt (.int x) (.int y) Q := ⟨_, rfl, h⟩
theorem Cm.ge {x y : Int} {Q : Bool → Prop} (h : Q (decide (y ≤ x))) : Cm .ge (.int x) (.int y) Q := ⟨_, rfl, h⟩
theorem Cm.eqI {x y : Int} {Q : Bool → Prop} (h : Q (decide (x = y))) : Cm .eq (.int x) (.int y) Q := ⟨_, eqG_int x y, h⟩
theorem Cm.neI {x y : Int} {Q : Bool → Prop} (h : Q (!decide (x = y))) : Cm .ne (.int x) (.int y) Q := ⟨_, by show (eqG (.int x) (.int y)).map (!·) = _; rw [eqG_int]; rfl, h⟩
theorem Cm.isN {x : D} {Q : Bool → Prop} (h : Q (isNoneD x)) : Cm .is x .none Q := ⟨_, rfl, h⟩
theorem Cm.isnotN {x : D} {Q : Bool → Prop} (h : Q (!isNoneD x)) : Cm .isnot x .none Q := ⟨_, rfl, h⟩
theorem Cm.isB {x y : Bool} {Q : Bool → Prop} (h : Q (decide (x = y))) : Cm .is (.bool x) (.bool y) Q := ⟨_, rfl, h⟩
theorem Cm.eq {x y : D} {b : Bool} {Q : Bool → Prop} (h : eqG x y = some b) (q : Q b) : Cm .eq x y Q := ⟨b, h, q⟩
theorem Cm.ne {x y : D} {b : Bool} {Q : Bool → Prop} (h : eqG x y = some b) (q : Q (!b)) : Cm .ne x y Q := ⟨_, by show (eqG x y).map (!·) = _; rw [h]; rfl, q⟩
theorem Cm.of {op : Cop} {x y : D} {b : Bool} {Q : Bool → Prop} (h : cmpD op x y = some b) (q : Q b) : Cm op x y Q := ⟨b, h, q⟩
theorem Op.some {o : Opd} {Q : Opd → Prop} (q : Q o) : Op (some o) Q := ⟨o, rfl, q⟩
theorem Op.of {x : Option Opd} {o : Opd} {Q : Opd → Prop} (h : x = Option.some o) (q : Q o) : Op x Q := ⟨o, h, q⟩
theorem Ix.of {x y d : D} {Q : D → Prop} (h : idxD x y = some d) (q : Q d) : Ix x y Q := ⟨d, h, q⟩
theorem Bc.of {b : Bi} {ds : List D} {o : Opd} {Q : Opd → Prop} (h : biD b ds = some o) (q : Q o) : Bc b ds Q := ⟨o, h, q⟩
theorem Bc.lenL {xs : List D} {Q : Opd → Prop} (q : Q (.val (.int xs.length))) : Bc .len [.list xs] Q := ⟨_, rfl, q⟩
theorem Bc.lenT {xs : List D} {Q : Opd → Prop} (q : Q (.val (.int xs.length))) : Bc .len [.tuple xs] Q := ⟨_, rfl, q⟩
theorem Bc.int {i : Int} {Q : Opd → Prop} (q : Q (.val (.int i))) : Bc .int [.int i] Q := ⟨_, rfl, q⟩
theorem Bc.intB {i : Bool} {Q : Opd → Prop} (q : Q (.val (.int (if i then 1 else 0)))) : Bc .int [.bool i] Q := ⟨_, rfl, q⟩
theorem Bc.tupL {xs : List D} {Q : Opd → Prop} (q : Q (.val (.tuple xs))) : Bc .tuple [.list xs] Q := ⟨_, rfl, q⟩
theorem Bc.tupT {xs : List D} {Q : Opd → Prop} (q : Q (.val (.tuple xs))) : Bc .tuple [.tuple xs] Q := ⟨_, rfl, q⟩
theorem Bc.listL {xs : List D} {Q : Opd → Prop} (q : Q (.fresh (.list xs))) : Bc .list [.list xs] Q := ⟨_, rfl, q⟩
theorem Bc.listT {xs : List D} {Q : Opd → Prop} (q : Q (.fresh (.list xs))) : Bc .list [.tuple xs] Q := ⟨_, rfl, q⟩
theorem Bc.max2 {x y : Int} {Q : Opd → Prop} (q : Q (.val (.int (if x < y then y else x)))) : Bc .max2 [.int x, .int y] Q := ⟨_, rfl, q⟩
theorem Bc.min2 {x y : Int} {Q : Opd → Prop} (q : Q (.val (.int (if y < x then y else x)))) : Bc .min2 [.int x, .int y] Q := ⟨_, rfl, q⟩
theorem Bc.abs {x : Int} {Q : Opd → Prop} (q : Q (.val (.int (if x < 0 then -x else x)))) : Bc .abs [.int x] Q := ⟨_, rfl, q⟩
theorem Bc.all {xs : List D} {bs : List Bool} {Q : Opd → Prop} (h : xs.mapM boolD = some bs) (q : Q (.val (.bool (bs.all id)))) : Bc .all [.list xs] Q := ⟨_, by simp only [biD, h, Option.map_some], q⟩
theorem Bc.any {xs : List D} {bs : List Bool} {Q : Opd → Prop} (h : xs.mapM boolD = some bs) (q : Q (.val (.bool (bs.any id)))) : Bc .any [.list xs] Q := ⟨_, by simp only [biD, h, Option.map_some], q⟩
/-! ### expressions -/
theorem WK.of {a : Ex} {Q : D → Fm → Prop} (h : WE cf a e (fun o e1 => Dp o e1 fun d => Q d e1) X) : WK cf a e Q X := ⟨rwp_bind (rwp_imp h.run (fun o e1 ⟨⟨d, h1, h2⟩⟩ => by rw [h1]; exact h2) fun _ _ _ q => q)⟩
theorem WD.of {a : Ex} {Q : D → Fm → Prop} (h : WE cf a e (fun o e1 => Tk o e1 Q) X) : WD cf a e Q X := ⟨rwp_bind (rwp_imp h.run (fun o e1 ⟨⟨d, e2, h1, h2⟩⟩ => by rw [h1]; exact h2) fun _ _ _ q => q)⟩
theorem WT.of {a : Ex} {Q : Bool → Fm → Prop} (h : WK cf a e (fun d e1 => Tr d fun b => Q b e1) X) : WT cf a e Q X := ⟨rwp_bind (rwp_imp h.run (fun o e1 ⟨h⟩ => rwp_opt h) fun _ _ _ q => q)⟩
theorem WE.varV {i : Nat} {d : D} {Q : Opd → Fm → Prop} (h : e[i]? = some (.val d)) (q : Q (.val d) e) : WE cf (.var i) e Q X := ⟨by rw [show evE cf (.var i) e = .ok (.val d) e by simp only [evE, h]]; exact q⟩
theorem WE.varO {i : Nat} {l : Bool} {d : D} {Q : Opd → Fm → Prop} (h : e[i]? = some (.own l d)) (q : Q (.slot i) e) : WE cf (.var i) e Q X := ⟨by rw [show evE cf (.var i) e = .ok (.slot i) e by simp only [evE, h]]; exact q⟩
theorem WE.int {n : Int} {Q : Opd → Fm → Prop} (q : Q (.val (.int n)) e) : WE cf (.int n) e Q X := ⟨by rw [qE2]; exact q⟩
theorem WE.bl {n : Bool} {Q : Opd → Fm → Prop} (q : Q (.val (.bool n)) e) : WE cf (.bl n) e Q X := ⟨by simp only [evE]; exact q⟩
theorem WE.non {Q : Opd → Fm → Prop} (q : Q (.val .none) e) : WE cf .non e Q X := ⟨by simp only [evE]; exact q⟩
theorem WE.str {n : Str} {Q : Opd → Fm → Prop} (q : Q (.val (.str n)) e) : WE cf (.str n) e Q X := ⟨by simp only [evE]; exact q⟩
theorem WE.gc {n : Str} {d : D} {Q : Opd → Fm → Prop} (q : Q (.val d) e) : WE cf (.gc n d) e Q X := ⟨by simp only [evE]; exact q⟩
theorem WE.tup {es : Exs} {Q : Opd → Fm → Prop} (h : WTs cf es e (fun ds e1 => ds.length ≤ sizeLine ∧ Q (.val (.tuple ds)) e1) X) : WE cf (.tup es) e Q X :=
  ⟨by simp only [evE]; exact rwp_bind (rwp_imp h.run (fun ds e1 ⟨h1, h2⟩ => by rw [if_pos h1]; exact h2) fun _ _ _ q => q)⟩
theorem WE.lst {es : Exs} {Q : Opd → Fm → Prop} (h : WTs cf es e (fun ds e1 => ds.length ≤ sizeLine ∧ Q (.fresh (.list ds)) e1) X) : WE cf (.lst es) e Q X :=
  ⟨by simp only [evE]; exact rwp_bind (rwp_imp h.run (fun ds e1 ⟨h1, h2⟩ => by rw [if_pos h1]; exact h2) fun _ _ _ q => q)⟩
theorem two_wp {p q : M Opd} {f : D → D → Option Opd} {Q : Opd → Fm → Prop} (h : rwp (p e) (fun x e1 => rwp (q e1) (fun y e2 => Dp x e2 fun dx => Dp y e2 fun dy => ∃ o, f dx dy = some o ∧ Q o e2) X) X) : rwp (two p q f e) Q X := by
  refine rwp_bind (rwp_imp h (fun x e1 h => rwp_bind (rwp_imp h (fun y e2 h => ?_) fun _ _ _ q => q)) fun _ _ _ q => q)
  obtain ⟨dx, h1, ⟨dy, h2, h3⟩⟩ := h.run
  refine rwp_bind ?_
  rw [h1]
  refine rwp_bind ?_
  rw [h2]
  exact rwp_opt h3
theorem WE.bin {op : Bop} {a b : Ex} {Q : Opd → Fm → Prop} (h : WE cf a e (fun x e1 => WE cf b e1 (fun y e2 => Dp x e2 fun dx => Dp y e2 fun dy => Bn op dx dy fun o => Q o e2) X) X) : WE cf (.bin op a b) e Q X :=
  ⟨by simp only [evE]; exact two_wp (rwp_imp h.run (fun x e1 h => rwp_imp h.run (fun y e2 ⟨dx, h1, ⟨dy, h2, h3⟩⟩ => ⟨dx, h1, ⟨dy, h2, h3.run⟩⟩) fun _ _ _ q => q) fun _ _ _ q => q)⟩
theorem WE.cmp {op : Cop} {a b : Ex} {Q : Opd → Fm → Prop} (h : WE cf a e (fun x e1 => WE cf b e1 (fun y e2 => Dp x e2 fun dx => Dp y e2 fun dy => Cm op dx dy fun t => Q (.val (.bool t)) e2) X) X) : WE cf (.cmp op a b) e Q X :=
  ⟨by simp only [evE]; exact two_wp (rwp_imp h.run (fun x e1 h => rwp_imp h.run (fun y e2 ⟨dx, h1, ⟨dy, h2, ⟨t, h3, h4⟩⟩⟩ => ⟨dx, h1, ⟨dy, h2, _, by rw [h3]; rfl, h4⟩⟩) fun _ _ _ q => q) fun _ _ _ q => q)⟩
theorem WE.idx {a b : Ex} {Q : Opd → Fm → Prop} (h : WE cf a e (fun x e1 => WE cf b e1 (fun y e2 => Dp x e2 fun dx => Dp y e2 fun dy => Ix dx dy fun d => Q (.val d) e2) X) X) : WE cf (.idx a b) e Q X :=
  ⟨by simp only [evE]; exact two_wp (rwp_imp h.run (fun x e1 h => rwp_imp h.run (fun y e2 ⟨dx, h1, ⟨dy, h2, ⟨t, h3, h4⟩⟩⟩ => ⟨dx, h1, ⟨dy, h2, _, by rw [h3]; rfl, h4⟩⟩) fun _ _ _ q => q) fun _ _ _ q => q)⟩
theorem WE.lrg {a b : Ex} {Q : Opd → Fm → Prop} (h : WE cf a e (fun x e1 => WE cf b e1 (fun y e2 => Dp x e2 fun dx => Dp y e2 fun dy => Op (lrgD dx dy) fun o => Q o e2) X) X) : WE cf (.lrg a b) e Q X :=
  ⟨by simp only [evE]; exact two_wp (rwp_imp h.run (fun x e1 h => rwp_imp h.run (fun y e2 ⟨dx, h1, ⟨dy, h2, h3⟩⟩ => ⟨dx, h1, ⟨dy, h2, h3.run⟩⟩) fun _ _ _ q => q) fun _ _ _ q => q)⟩
theorem WE.rgx {t dn : Bool} {a b : Ex} {Q : Opd → Fm → Prop} (h : WE cf a e (fun x e1 => WE cf b e1 (fun y e2 => Dp x e2 fun dx => Dp y e2 fun dy => Op (rgxD t dn dx dy) fun o => Q o e2) X) X) : WE cf (.rgx t dn a b) e Q X :=
  ⟨by simp only [evE]; exact two_wp (rwp_imp h.run (fun x e1 h => rwp_imp h.run (fun y e2 ⟨dx, h1, ⟨dy, h2, h3⟩⟩ => ⟨dx, h1, ⟨dy, h2, h3.run⟩⟩) fun _ _ _ q => q) fun _ _ _ q => q)⟩
theorem WE.neg {a : Ex} {Q : Opd → Fm → Prop} (h : WK cf a e (fun d e1 => ∃ i, d = .int i ∧ Q (.val (.int (-i))) e1) X) : WE cf (.neg a) e Q X :=
  ⟨by simp only [evE]; exact rwp_bind (rwp_imp h.run (fun d e1 ⟨i, h1, h2⟩ => by subst h1; exact h2) fun _ _ _ q => q)⟩
theorem WE.not {a : Ex} {Q : Opd → Fm → Prop} (h : WT cf a e (fun b e1 => Q (.val (.bool (!b))) e1) X) : WE cf (.not a) e Q X :=
  ⟨by simp only [evE]; exact rwp_bind (rwp_imp h.run (fun d e1 h => h) fun _ _ _ q => q)⟩
theorem WE.ite {c a b : Ex} {Q : Opd → Fm → Prop} (h : WT cf c e (fun t e1 => (t = true → WE cf a e1 Q X) ∧ (t = false → WE cf b e1 Q X)) X) : WE cf (.ite c a b) e Q X :=
  ⟨by
    simp only [evE]
    refine rwp_bind (rwp_imp h.run (fun t e1 h => ?_) fun _ _ _ q => q)
    cases t with
    | true => exact (h.1 rfl).run
    | false => exact (h.2 rfl).run⟩
theorem WE.bop {k : Bool} {es : Exs} {Q : Opd → Fm → Prop} (h : WB cf k es e Q X) : WE cf (.bop k es) e Q X := ⟨by simp only [evE]; exact h.run⟩
theorem WB.one {k : Bool} {a : Ex} {Q : Opd → Fm → Prop} (h : WE cf a e Q X) : WB cf k (.cons a .nil) e Q X := ⟨by simp only [evB]; exact h.run⟩
theorem WB.more {k : Bool} {a b : Ex} {r : Exs} {Q : Opd → Fm → Prop} (h : WE cf a e (fun x e1 => Dp x e1 fun dx => Tr dx fun t => (t = k → WB cf k (.cons b r) e1 Q X) ∧ (t = !k → Q x e1)) X) : WB cf k (.cons a (.cons b r)) e Q X :=
  ⟨by
    rw [evB]
    · refine rwp_bind (rwp_imp h.run (fun x e1 ⟨dx, h1, ⟨t, h2, h3⟩⟩ => ?_) fun _ _ _ q => q)
      refine rwp_bind ?_
      rw [h1]
      refine rwp_bind ?_
      rw [h2]
      show rwp ((if t = k then evB cf k (.cons b r) else M.pure x) e1) Q X
      by_cases hk : t = k
      · rw [if_pos hk]; exact (h3.1 hk).run
      · rw [if_neg hk]; exact h3.2 (by cases t <;> cases k <;> simp_all)
    · intro q; cases q⟩
theorem WE.chain {o1 o2 : Cop} {a b c : Ex} {Q : Opd → Fm → Prop} (h : WE cf a e (fun x e1 => WE cf b e1 (fun y e2 => Dp x e2 fun dx => Dp y e2 fun dy => Cm o1 dx dy fun t =>
    (t = true → WE cf c e2 (fun z e3 => Dp y e3 fun dy => Dp z e3 fun dz => Cm o2 dy dz fun t2 => Q (.val (.bool t2)) e3) X) ∧ (t = false → Q (.val (.bool false)) e2)) X) X) : WE cf (.chain o1 o2 a b c) e Q X :=
  ⟨by
    simp only [evE]
    refine rwp_bind (rwp_imp h.run (fun x e1 h => rwp_bind (rwp_imp h.run (fun y e2 h => ?_) fun _ _ _ q => q)) fun _ _ _ q => q)
    obtain ⟨dx, h1, ⟨dy, h2, ⟨t, h3, h4⟩⟩⟩ := h.run
    refine rwp_bind ?_
    rw [h1]
    refine rwp_bind ?_
    rw [h2]
    refine rwp_bind ?_
    rw [h3]
    show rwp ((if t = true then _ else _ : M Opd) e2) Q X
    cases t with
    | false => rw [if_neg Bool.false_ne_true]; exact h4.2 rfl
    | true =>
      rw [if_pos rfl]
      refine rwp_bind (rwp_imp (h4.1 rfl).run (fun z e3 h => ?_) fun _ _ _ q => q)
      obtain ⟨dy, h5, ⟨dz, h6, ⟨t2, h7, h8⟩⟩⟩ := h.run
      refine rwp_bind ?_
      rw [h5]
      refine rwp_bind ?_
      rw [h6]
      exact rwp_opt ⟨_, by rw [h7]; rfl, h8⟩⟩
theorem WE.slc {a : Ex} {lo hi : Oe} {Q : Opd → Fm → Prop} (h : WE cf a e (fun x e1 => WO cf lo e1 (fun l e2 => WO cf hi e2 (fun u e3 => Dp x e3 fun dx => Op (slcD dx l u) fun o => Q o e3) X) X) X) : WE cf (.slc a lo hi) e Q X :=
  ⟨by
    simp only [evE]
    refine rwp_bind (rwp_imp h.run (fun x e1 h => rwp_bind (rwp_imp h.run (fun l e2 h => rwp_bind (rwp_imp h.run (fun u e3 h => ?_) fun _ _ _ q => q)) fun _ _ _ q => q)) fun _ _ _ q => q)
    obtain ⟨dx, h1, h2⟩ := h.run
    refine rwp_bind ?_
    rw [h1]
    exact rwp_opt h2.run⟩
theorem WO.no {Q : Option Int → Fm → Prop} (q : Q none e) : WO cf .no e Q X := ⟨by simp only [evO]; exact q⟩
theorem WO.some {a : Ex} {Q : Option Int → Fm → Prop} (h : WK cf a e (fun d e1 => ∃ i, d = .int i ∧ Q (some i) e1) X) : WO cf (.some a) e Q X :=
  ⟨by simp only [evO]; exact rwp_bind (rwp_imp h.run (fun d e1 ⟨i, h1, h2⟩ => by subst h1; exact h2) fun _ _ _ q => q)⟩
theorem WE.rev {a : Ex} {Q : Opd → Fm → Prop} (h : WK cf a e (fun d e1 => Op (revD d) fun o => Q o e1) X) : WE cf (.rev a) e Q X :=
  ⟨by simp only [evE]; exact rwp_bind (rwp_imp h.run (fun d e1 h => rwp_opt h.run) fun _ _ _ q => q)⟩
theorem WE.bi {b : Bi} {es : Exs} {Q : Opd → Fm → Prop} (h : WAs cf es e (fun os e1 => Dps os e1 fun ds => Bc b ds fun o => Q o e1) X) : WE cf (.bi b es) e Q X :=
  ⟨by
    simp only [evE]
    refine rwp_bind (rwp_imp h.run (fun os e1 ⟨ds, h1, h2⟩ => ?_) fun _ _ _ q => q)
    refine rwp_bind ?_
    rw [h1]
    exact rwp_opt h2.run⟩
theorem WE.isi {a : Ex} {ts : List Ty} {Q : Opd → Fm → Prop} (h : WK cf a e (fun d e1 => isFnD d = false ∧ Q (.val (.bool (ts.any fun t => isTy t d))) e1) X) : WE cf (.isi a ts) e Q X :=
  ⟨by simp only [evE]; exact rwp_bind (rwp_imp h.run (fun d e1 ⟨h1, h2⟩ => by rw [h1, if_neg Bool.false_ne_true]; exact h2) fun _ _ _ q => q)⟩
theorem WE.fnc {n : Str} {Q : Opd → Fm → Prop} (q : Q (.val (fnD n)) e) : WE cf (.fnc n) e Q X := ⟨by simp only [evE]; exact q⟩

theorem WE.sm {m : Sq} {o : Ex} {es : Exs} {Q : Opd → Fm → Prop} (h : WK cf o e (fun d e1 => ∃ a, d = .str a ∧ WAs cf es e1 (fun os e2 => Dps os e2 fun ds => Op (smD m a ds) fun o => Q o e2) X) X) : WE cf (.sm m o es) e Q X :=
  ⟨by
    simp only [evE]
    refine rwp_bind (rwp_imp h.run (fun d e1 ⟨a, h0, h⟩ => ?_) fun _ _ _ q => q)
    subst h0
    refine rwp_bind (show rwp (M.pure a e1) _ X from ?_)
    refine rwp_bind (rwp_imp h.run (fun os e2 ⟨ds, h1, h2⟩ => ?_) fun _ _ _ q => q)
    refine rwp_bind ?_
    rw [h1]
    exact rwp_opt h2.run⟩
theorem WE.dget {kvs : List (Int × Int)} {a b : Ex} {Q : Opd → Fm → Prop} (h : WK cf a e (fun d e1 => ∃ i, d = .int i ∧ WE cf b e1 (fun y e2 => (∀ n, lookI kvs i = some n → Q (.val (.int n)) e2) ∧ (lookI kvs i = none → Q y e2)) X) X) : WE cf (.dget kvs a b) e Q X :=
  ⟨by
    simp only [evE]
    refine rwp_bind (rwp_imp h.run (fun d e1 ⟨i, h0, h⟩ => ?_) fun _ _ _ q => q)
    subst h0
    refine rwp_bind (show rwp (M.pure i e1) _ X from ?_)
    refine rwp_bind (rwp_imp h.run (fun y e2 h => ?_) fun _ _ _ q => q)
    cases hl : lookI kvs i with
    | none => exact h.2 hl
    | some n => exact h.1 n hl⟩
/-! ### lists of expressions -/
theorem WTs.nil {Q : List D → Fm → Prop} (q : Q [] e) : WTs cf .nil e Q X := ⟨by simp only [evTs]; exact q⟩
theorem WTs.cons {a : Ex} {r : Exs} {Q : List D → Fm → Prop} (h : WD cf a e (fun d e1 => WTs cf r e1 (fun ds e2 => Q (d :: ds) e2) X) X) : WTs cf (.cons a r) e Q X :=
  ⟨by simp only [evTs]; exact rwp_bind (rwp_imp h.run (fun d e1 h => rwp_bind (rwp_imp h.run (fun ds e2 q => q) fun _ _ _ q => q)) fun _ _ _ q => q)⟩
theorem WAs.nil {Q : List Opd → Fm → Prop} (q : Q [] e) : WAs cf .nil e Q X := ⟨by simp only [evAs]; exact q⟩
theorem WAs.cons {a : Ex} {r : Exs} {Q : List Opd → Fm → Prop} (h : WE cf a e (fun x e1 => WAs cf r e1 (fun os e2 => Q (peek x :: os) e2) X) X) : WAs cf (.cons a r) e Q X :=
  ⟨by simp only [evAs]; exact rwp_bind (rwp_imp h.run (fun d e1 h => rwp_bind (rwp_imp h.run (fun ds e2 q => q) fun _ _ _ q => q)) fun _ _ _ q => q)⟩
structure Tx (o : Opd) (e : Fm) (Q : Opd → Fm → Prop) : Prop where run : ∃ o1 e1, takeX o e = .ok o1 e1 ∧ Q o1 e1
theorem Tx.val {d : D} {Q : Opd → Fm → Prop} (q : Q (.val d) e) : Tx (.val d) e Q := ⟨_, _, rfl, q⟩
theorem Tx.fresh {d : D} {Q : Opd → Fm → Prop} (q : Q (.fresh d) e) : Tx (.fresh d) e Q := ⟨_, _, rfl, q⟩
theorem Tx.own {i : Nat} {d : D} {Q : Opd → Fm → Prop} (h : e[i]? = some (.own false d)) [s : SetAt e i (.val d) e1] (q : Q (.val d) e1) : Tx (.slot i) e Q := ⟨_, _, by simp only [takeX, M.map, M.bind, take, h]; rw [s.eq]; rfl, q⟩
theorem Tx.vslot {i : Nat} {d : D} {Q : Opd → Fm → Prop} (h : e[i]? = some (.val d)) (q : Q (.val d) e) : Tx (.slot i) e Q := ⟨_, _, by simp only [takeX, M.map, M.bind, take, h]; rfl, q⟩
theorem WXs.nil {Q : List Opd → Fm → Prop} (q : Q [] e) : WXs cf .nil e Q X := ⟨q⟩
theorem WXs.cons {a : Ex} {r : Exs} {Q : List Opd → Fm → Prop} (h : WE cf a e (fun x e1 => Tx x e1 fun x e2 => WXs cf r e2 (fun os e3 => Q (x :: os) e3) X) X) : WXs cf (.cons a r) e Q X :=
  ⟨by
    show rwp (((evE cf a).bind fun x => (takeX x).bind fun x => (evXsOf (evE cf) r).bind fun os => M.pure (x :: os)) e) Q X
    refine rwp_bind (rwp_imp h.run (fun x e1 ⟨o1, e2, h1, h2⟩ => ?_) fun _ _ _ q => q)
    refine rwp_bind ?_
    rw [h1]
    exact rwp_bind (rwp_imp h2.run (fun os e3 q => q) fun _ _ _ q => q)⟩
theorem WF.nil {Q : Bool → Fm → Prop} (q : Q true e) : WF cf .nil e Q X := ⟨by simp only [evFs]; exact q⟩
theorem WF.cons {a : Ex} {r : Exs} {Q : Bool → Fm → Prop} (h : WT cf a e (fun t e1 => (t = true → WF cf r e1 Q X) ∧ (t = false → Q false e1)) X) : WF cf (.cons a r) e Q X :=
  ⟨by
    simp only [evFs]
    refine rwp_bind (rwp_imp h.run (fun t e1 h => ?_) fun _ _ _ q => q)
    cases t with
    | true => exact (h.1 rfl).run
    | false => exact h.2 rfl⟩
/-! ### what is walked -/
structure It0 (x : Option (List D)) (Q : List D → Prop) : Prop where run : ∃ ds, x = some ds ∧ Q ds
theorem It0.of {x : Option (List D)} {ds : List D} {Q : List D → Prop} (h : x = some ds) (q : Q ds) : It0 x Q := ⟨ds, h, q⟩
theorem It0.some {ds : List D} {Q : List D → Prop} (q : Q ds) : It0 (some ds) Q := ⟨ds, rfl, q⟩
theorem It0.list {ds : List D} {Q : List D → Prop} (q : Q ds) : It0 (itemsI (.list ds)) Q := ⟨ds, rfl, q⟩
theorem It0.tuple {ds : List D} {Q : List D → Prop} (q : Q ds) : It0 (itemsI (.tuple ds)) Q := ⟨ds, rfl, q⟩
theorem It0.r1 {n : Int} {Q : List D → Prop} (h0 : n < 10000) (h1 : -10000 < n) (q : Q (rng 0 n.toNat)) : It0 (r1D (.int n)) Q := ⟨_, r1_n h0 h1, q⟩
theorem It0.r2 {a b : Int} {Q : List D → Prop} (h0 : -10000 < a) (h1 : a < 10000) (h2 : b < 10000) (h3 : -10000 < b) (q : Q (rng a (b - a).toNat)) : It0 (r2D (.int a) (.int b)) Q := ⟨_, r2_n h0 h1 h2 h3, q⟩
theorem WI.seq {a : Ex} {Q : List D → Fm → Prop} (h : WD cf a e (fun d e1 => It0 (itemsI d) fun ds => Q ds e1) X) : WI cf (.seq a) e Q X :=
  ⟨by simp only [evI]; exact rwp_bind (rwp_imp h.run (fun d e1 h => rwp_opt h.run) fun _ _ _ q => q)⟩
theorem WI.r1 {a : Ex} {Q : List D → Fm → Prop} (h : WK cf a e (fun d e1 => It0 (r1D d) fun ds => Q ds e1) X) : WI cf (.r1 a) e Q X :=
  ⟨by simp only [evI]; exact rwp_bind (rwp_imp h.run (fun d e1 h => rwp_opt h.run) fun _ _ _ q => q)⟩
theorem two_it {p q : M Opd} {f : D → D → Option (List D)} {Q : List D → Fm → Prop} (h : rwp (p e) (fun x e1 => rwp (q e1) (fun y e2 => Dp x e2 fun dx => Dp y e2 fun dy => It0 (f dx dy) fun ds => Q ds e2) X) X) :
    rwp ((p.bind fun x => q.bind fun y => (der (peek x)).bind fun dx => (der (peek y)).bind fun dy => M.opt (f dx dy)) e) Q X := by
  refine rwp_bind (rwp_imp h (fun x e1 h => rwp_bind (rwp_imp h (fun y e2 h => ?_) fun _ _ _ q => q)) fun _ _ _ q => q)
  obtain ⟨dx, h1, ⟨dy, h2, h3⟩⟩ := h.run
  refine rwp_bind ?_
  rw [h1]
  refine rwp_bind ?_
  rw [h2]
  exact rwp_opt h3.run
theorem WI.r2 {a b : Ex} {Q : List D → Fm → Prop} (h : WE cf a e (fun x e1 => WE cf b e1 (fun y e2 => Dp x e2 fun dx => Dp y e2 fun dy => It0 (r2D dx dy) fun ds => Q ds e2) X) X) : WI cf (.r2 a b) e Q X :=
  ⟨by simp only [evI]; exact two_it (rwp_imp h.run (fun x e1 h => h.run) fun _ _ _ q => q)⟩
theorem WI.rd {a b : Ex} {Q : List D → Fm → Prop} (h : WE cf a e (fun x e1 => WE cf b e1 (fun y e2 => Dp x e2 fun dx => Dp y e2 fun dy => It0 (rdD dx dy) fun ds => Q ds e2) X) X) : WI cf (.rd a b) e Q X :=
  ⟨by simp only [evI]; exact two_it (rwp_imp h.run (fun x e1 h => h.run) fun _ _ _ q => q)⟩
theorem WI.zip {a b : Ex} {Q : List D → Fm → Prop} (h : WD cf a e (fun x e1 => WD cf b e1 (fun y e2 => It0 (zipD x y) fun ds => Q ds e2) X) X) : WI cf (.zip a b) e Q X :=
  ⟨by simp only [evI]; exact rwp_bind (rwp_imp h.run (fun x e1 h => rwp_bind (rwp_imp h.run (fun y e2 h => rwp_opt h.run) fun _ _ _ q => q)) fun _ _ _ q => q)⟩
theorem WI.enm {a : Ex} {Q : List D → Fm → Prop} (h : WD cf a e (fun x e1 => It0 (enmD x) fun ds => Q ds e1) X) : WI cf (.enm a) e Q X :=
  ⟨by simp only [evI]; exact rwp_bind (rwp_imp h.run (fun x e1 h => rwp_opt h.run) fun _ _ _ q => q)⟩
/-! ### calls -/
theorem PL.nil {Q : Fm → Prop} (q : Q e) : PL e [] [] Q := ⟨e, rfl, q⟩
theorem PL.cons {i : Nat} {is : List Nat} {d d0 : D} {ds : List D} {l : Bool} {Q : Fm → Prop} (h : e[i]? = some (.own l d0)) [s : SetAt e i (.own l d) e1] (q : PL e1 is ds Q) : PL e (i :: is) (d :: ds) Q := by
  obtain ⟨e2, h1, h2⟩ := q.run
  exact ⟨e2, by simp only [putL, h]; rw [s.eq, h1], h2⟩
theorem Cl.of {f : Nat} {lent : List Bool} {os : List Opd} {ds : List D} {ln bo : List Nat} {Q : Opd → Fm → Prop} (h : argD e lent os = some (ds, ln, bo)) (hn : ln.Nodup ∧ ∀ i ∈ ln, i ∉ bo)
    (c : WC (cf f ds) (fun fr d ls => (bo = [] ∨ (okRes fr d = true ∧ ls.all lstNoRef = true)) ∧ PL e ln ls fun e1 => Q (if fr then .fresh d else .val d) e1) (fun c d => (ln = [] ∧ (bo = [] ∨ noRef d = true)) ∧ X c d e)) : Cl cf f lent os e Q X := by
  refine ⟨?_⟩
  unfold doCall
  rw [h]
  simp only
  rw [if_pos hn]
  have hc := c.run
  cases hr : cf f ds with
  | ok fr d ls =>
    rw [hr] at hc
    simp only at hc ⊢
    obtain ⟨h1, ⟨e2, h2, h3⟩⟩ := hc
    rw [if_pos h1, h2]
    exact h3
  | exc cn d =>
    rw [hr] at hc
    simp only at hc ⊢
    rw [if_pos hc.1]
    exact hc.2
  | stuck => rw [hr] at hc; exact hc.elim
theorem WE.call {f : Nat} {lent : List Bool} {args : Exs} {Q : Opd → Fm → Prop} (h : WAs cf args e (fun os e1 => Cl cf f lent os e1 Q X) X) : WE cf (.call f lent args) e Q X :=
  ⟨by simp only [evE]; exact rwp_bind (rwp_imp h.run (fun os e1 h => h.run) fun _ _ _ q => q)⟩
theorem WE.callV {i : Nat} {fs : List (Str × Nat × List Bool)} {n : Str} {p : Nat × List Bool} {args : Exs} {Q : Opd → Fm → Prop} (h1 : e[i]? = some (.val (fnD n))) (h2 : fs.lookup n = some p) (h : WAs cf args e (fun os e1 => Cl cf p.1 p.2 os e1 Q X) X) : WE cf (.callV i fs args) e Q X :=
  ⟨by
    have : fnAt e i fs = some p := by
      unfold fnAt
      rw [h1]
      exact h2
    simp only [evE, this]
    exact rwp_bind (rwp_imp h.run (fun os e1 h => h.run) fun _ _ _ q => q)⟩
theorem WE.callK {f : Nat} {lent : List Bool} {args kargs : Exs} {ks : List Str} {perm : List Nat} {Q : Opd → Fm → Prop} (h : WAs cf args e (fun os e1 => WAs cf kargs e1 (fun zs e2 => ∃ os', permO perm ks os zs = some os' ∧ Cl cf f lent os' e2 Q X) X) X) : WE cf (.callK f lent args kargs ks perm) e Q X :=
  ⟨by
    simp only [evE]
    refine rwp_bind (rwp_imp h.run (fun os e1 h => rwp_bind (rwp_imp h.run (fun zs e2 ⟨os', h1, h2⟩ => ?_) fun _ _ _ q => q)) fun _ _ _ q => q)
    refine rwp_bind ?_
    rw [h1]
    exact h2.run⟩
theorem WE.pop {i : Nat} {es : Exs} {l : Bool} {d : D} {Q : Opd → Fm → Prop} (ho : e[i]? = some (.own l d)) (h : WTs cf es e (fun ds e1 => ∃ l o y o' e2, e1[i]? = some (.own l o) ∧ popD o ds = some (y, o') ∧ SetAt e1 i (.own l o') e2 ∧ Q (.val y) e2) X) : WE cf (.pop i es) e Q X :=
  ⟨by
    simp only [evE]
    unfold popM isOwn
    rw [ho]
    simp only [if_true]
    refine rwp_bind (rwp_imp h.run (fun ds e1 ⟨l, o, y, o', e2, h1, h2, h3, h4⟩ => ?_) fun _ _ _ q => q)
    rw [h1]
    simp only [h2]
    rw [h3.eq]
    exact h4⟩
/-! ### statements -/
theorem WSs.nil (q : E.nx e) : WSs cf .nil e E := ⟨by simp only [evSs]; exact q⟩
theorem WSs.cons {s : Sm} {r : Sms} (h : WS cf s e { E with nx := fun e1 => WSs cf r e1 E }) : WSs cf (.cons s r) e E :=
  ⟨by
    simp only [evSs]
    have := h.run
    cases hs : evS cf s e with
    | next e1 => rw [hs] at this; exact this.run
    | ret fr d e1 => rw [hs] at this; exact this
    | brk e1 => rw [hs] at this; exact this
    | cnt e1 => rw [hs] at this; exact this
    | exc c d e1 => rw [hs] at this; exact this
    | stuck => rw [hs] at this; exact this⟩
theorem Pt.val {i : Nat} {d : D} {Q : Fm → Prop} [n : NLat e i] [s : SetAt e i (.val d) e1] (q : Q e1) : Pt e i (.val d) Q := ⟨e1, setV_at n s, q⟩
theorem Pt.fresh {i : Nat} {d : D} {Q : Fm → Prop} [n : NLat e i] [s : SetAt e i (.own false d) e1] (q : Q e1) : Pt e i (.fresh d) Q := ⟨e1, setV_at n s, q⟩
theorem Pt.own {i j : Nat} {d : D} {e2 : Fm} {Q : Fm → Prop} (h : e[j]? = some (.own false d)) [s : SetAt e j (.val d) e1] [n : NLat e1 i] [s2 : SetAt e1 i (.val d) e2] (q : Q e2) : Pt e i (.slot j) Q := ⟨e2, by simp only [putO, h]; rw [s.eq, setV_at n s2], q⟩
theorem Pt.vslot {i j : Nat} {d : D} {Q : Fm → Prop} (h : e[j]? = some (.val d)) [n : NLat e i] [s2 : SetAt e i (.val d) e1] (q : Q e1) : Pt e i (.slot j) Q := ⟨e1, by simp only [putO, h]; rw [setV_at n s2], q⟩
theorem WS.set {i : Nat} {x : Ex} (h : WE cf x e (fun o e1 => Pt e1 i o E.nx) E.xc) : WS cf (.set i x) e E :=
  ⟨by simp only [evS]; exact swp_of (rwp_imp h.run (fun o e1 ⟨e2, h1, h2⟩ => by rw [h1]; exact h2) fun _ _ _ q => q)⟩
theorem Vs.nil {Q : Fm → Prop} (q : Q e) : Vs e [] [] Q := ⟨e, rfl, q⟩
theorem Vs.cons {i : Nat} {is : List Nat} {d : D} {ds : List D} {Q : Fm → Prop} [n : NLat e i] [s : SetAt e i (.val d) e1] (q : Vs e1 is ds Q) : Vs e (i :: is) (d :: ds) Q := by
  obtain ⟨e2, h1, h2⟩ := q.run
  exact ⟨e2, by simp only [setVs]; rw [setV_at n s]; exact h1, h2⟩
theorem Bt.nm {i : Nat} {d : D} {Q : Fm → Prop} [n : NLat e i] [s : SetAt e i (.val d) e1] (q : Q e1) : Bt (.nm i) d e Q := ⟨e1, setV_at n s, q⟩
theorem Bt.tp {is : List Nat} {ds : List D} {Q : Fm → Prop} (h : Vs e is ds Q) : Bt (.tp is) (.tuple ds) e Q := ⟨h.run⟩
theorem WS.unp {is : List Nat} {x : Ex} (h : WD cf x e (fun d e1 => Bt (.tp is) d e1 E.nx) E.xc) : WS cf (.unp is x) e E :=
  ⟨by simp only [evS]; exact swp_of (rwp_imp h.run (fun o e1 ⟨e2, h1, h2⟩ => by rw [h1]; exact h2) fun _ _ _ q => q)⟩
theorem Pts.nil {Q : Fm → Prop} (q : Q e) : Pts e [] [] Q := ⟨e, rfl, q⟩
theorem Pts.cons {i : Nat} {is : List Nat} {o : Opd} {os : List Opd} {Q : Fm → Prop} (h : Pt e i o fun e1 => Pts e1 is os Q) : Pts e (i :: is) (o :: os) Q := by
  obtain ⟨e1, h1, ⟨e2, h2, h3⟩⟩ := h.run
  exact ⟨e2, by simp only [putOs, h1, Option.bind_some, h2], h3⟩
theorem WS.par {is : List Nat} {xs : Exs} (h : WXs cf xs e (fun os e1 => Pts e1 is os E.nx) E.xc) : WS cf (.par is xs) e E :=
  ⟨by simp only [evS]; exact swp_of (rwp_imp h.run (fun o e1 ⟨e2, h1, h2⟩ => by rw [h1]; exact h2) fun _ _ _ q => q)⟩
theorem WS.aug {i : Nat} {op : Bop} {x : Ex} {old : D} (h0 : e[i]? = some (.val old)) (h : WD cf x e (fun d e1 => ∃ z e2, augD op old d = some (.val z) ∧ NLat e1 i ∧ SetAt e1 i (.val z) e2 ∧ E.nx e2) E.xc) : WS cf (.aug i op x) e E :=
  ⟨by
    simp only [evS, h0]
    exact swp_of (rwp_imp h.run (fun d e1 ⟨z, e2, h1, h2, h3, h4⟩ => by rw [h1]; simp only; rw [setV_at h2 h3]; exact h4) fun _ _ _ q => q)⟩
theorem WS.sto {i : Nat} {ix x : Ex} (h : WD cf x e (fun d e1 => ∃ l0 d0, e1[i]? = some (.own l0 d0) ∧ WD cf ix e1 (fun k e2 => ∃ l o o' e3, e2[i]? = some (.own l o) ∧ setD o k d = some o' ∧ SetAt e2 i (.own l o') e3 ∧ E.nx e3) E.xc) E.xc) : WS cf (.sto i ix x) e E :=
  ⟨by
    simp only [evS]
    refine swp_of (rwp_imp h.run (fun d e1 ⟨l0, d0, h0, h⟩ => ?_) fun _ _ _ q => q)
    simp only [isOwn, h0, if_true]
    refine swp_of (rwp_imp h.run (fun k e2 ⟨l, o, o', e3, h1, h2, h3, h4⟩ => ?_) fun _ _ _ q => q)
    simp only [ownAt, h1, h2, Option.map_some]
    rw [h3.eq]
    exact h4⟩
theorem WS.mut {m : Mu} {i : Nat} {xs : Exs} {l0 : Bool} {d0 : D} (h0 : e[i]? = some (.own l0 d0)) (h : WTs cf xs e (fun ds e1 => ∃ l o o' e2, e1[i]? = some (.own l o) ∧ muD m o ds = some o' ∧ SetAt e1 i (.own l o') e2 ∧ E.nx e2) E.xc) : WS cf (.mut m i xs) e E :=
  ⟨by
    simp only [evS, isOwn, h0, if_true]
    refine swp_of (rwp_imp h.run (fun ds e1 ⟨l, o, o', e2, h1, h2, h3, h4⟩ => ?_) fun _ _ _ q => q)
    simp only [ownAt, h1, h2, Option.map_some]
    rw [h3.eq]
    exact h4⟩
theorem WS.expr {x : Ex} (h : WE cf x e (fun o e1 => E.nx e1) E.xc) : WS cf (.expr x) e E := ⟨by simp only [evS]; exact swp_of h.run⟩
structure Rt (o : Opd) (e : Fm) (Q : Bool → D → Fm → Prop) : Prop where run : ∃ fr d, retO o e = .ret fr d e ∧ Q fr d e
theorem Rt.val {d : D} {Q : Bool → D → Fm → Prop} (q : Q false d e) : Rt (.val d) e Q := ⟨_, _, rfl, q⟩
theorem Rt.fresh {d : D} {Q : Bool → D → Fm → Prop} (q : Q true d e) : Rt (.fresh d) e Q := ⟨_, _, rfl, q⟩
theorem Rt.own {i : Nat} {d : D} {Q : Bool → D → Fm → Prop} (h : e[i]? = some (.own false d)) (q : Q true d e) : Rt (.slot i) e Q := ⟨_, _, by simp only [retO, h], q⟩
theorem Rt.vslot {i : Nat} {d : D} {Q : Bool → D → Fm → Prop} (h : e[i]? = some (.val d)) (q : Q false d e) : Rt (.slot i) e Q := ⟨_, _, by simp only [retO, h], q⟩
theorem WS.ret {x : Ex} (h : WE cf x e (fun o e1 => Rt o e1 E.rt) E.xc) : WS cf (.ret x) e E :=
  ⟨by simp only [evS]; exact swp_of (rwp_imp h.run (fun o e1 ⟨fr, d, h1, h2⟩ => by rw [h1]; exact h2) fun _ _ _ q => q)⟩
theorem WS.retN (q : E.rt false .none e) : WS cf .retN e E := ⟨by simp only [evS]; exact q⟩
theorem WS.ite {c : Ex} {t f : Sms} (h : WT cf c e (fun b e1 => (b = true → WSs cf t e1 E) ∧ (b = false → WSs cf f e1 E)) E.xc) : WS cf (.ite c t f) e E :=
  ⟨by
    simp only [evS]
    refine swp_of (rwp_imp h.run (fun b e1 h => ?_) fun _ _ _ q => q)
    cases b with
    | true => exact (h.1 rfl).run
    | false => exact (h.2 rfl).run⟩
theorem WS.brk (q : E.bk e) : WS cf .brk e E := ⟨by simp only [evS]; exact q⟩
theorem WS.cnt (q : E.ct e) : WS cf .cnt e E := ⟨by simp only [evS]; exact q⟩
theorem WS.pass (q : E.nx e) : WS cf .pass e E := ⟨by simp only [evS]; exact q⟩
theorem WS.throw {cn : Str} {x : Ex} (h : WD cf x e (fun d e1 => E.xc cn d e1) E.xc) : WS cf (.throw cn x) e E := ⟨by simp only [evS]; exact swp_of h.run⟩
theorem loop_wp {tg : Tg} {body : Sms} (P : Nat → Fm → Prop) : ∀ (ds : List D) (i : Nat) (e : Fm), P i e →
    (∀ (j : Nat) (d : D), ds[j]? = some d → ∀ e2, P (i + j) e2 → Bt tg d e2 fun e3 => WSs cf body e3 { E with nx := P (i + j + 1), ct := P (i + j + 1), bk := E.nx }) →
    (∀ e2, P (i + ds.length) e2 → E.nx e2) → swp (forLoop tg (evSs cf body) ds e) E
  | [], i, e, h, _, hd => hd e h
  | d :: ds, i, e, h, hs, hd => by
    obtain ⟨e3, h1, h2⟩ := (hs 0 d rfl e h).run
    have ih := fun e2 (q : P (i + 1) e2) => loop_wp P ds (i + 1) e2 q (fun j d' m e2 pe => by
      have := hs (j + 1) d' (by simpa using m) e2 (by rw [show i + (j + 1) = i + 1 + j by omega]; exact pe)
      rw [show i + (j + 1) = i + 1 + j by omega] at this
      exact this) (fun e2 q => hd e2 (by rw [List.length_cons, show i + (ds.length + 1) = i + 1 + ds.length by omega]; exact q))
    simp only [forLoop, h1]
    have h3 := h2.run
    cases hb : evSs cf body e3 with
    | next e2 => rw [hb] at h3; exact ih e2 h3
    | cnt e2 => rw [hb] at h3; exact ih e2 h3
    | brk e2 => rw [hb] at h3; exact h3
    | ret fr d e2 => rw [hb] at h3; exact h3
    | exc c d e2 => rw [hb] at h3; exact h3
    | stuck => rw [hb] at h3; exact h3
/-- a loop's reading -/
structure Lp (tg : Tg) (body : Sms) (ds : List D) (e : Fm) (cf : CF) (E : Ed) : Prop where run : swp (forLoop tg (evSs cf body) ds e) E
theorem Lp.of {tg : Tg} {body : Sms} {ds : List D} (P : Nat → Fm → Prop) (h : P 0 e) (hs : ∀ (j : Nat) (d : D), ds[j]? = some d → ∀ e2, P j e2 → Bt tg d e2 fun e3 => WSs cf body e3 { E with nx := P (j + 1), ct := P (j + 1), bk := E.nx })
    (hd : ∀ e2, P ds.length e2 → E.nx e2) : Lp tg body ds e cf E := ⟨loop_wp P ds 0 e h (fun j d m e2 pe => by rw [Nat.zero_add] at pe ⊢; exact hs j d m e2 pe) (fun e2 q => hd e2 (by rw [Nat.zero_add] at q; exact q))⟩
theorem WS.for_ {tg : Tg} {it : Itr} {body : Sms} (h : WI cf it e (fun ds e1 => Lp tg body ds e1 cf E) E.xc) : WS cf (.for_ tg it body) e E :=
  ⟨by simp only [evS]; exact swp_of (rwp_imp h.run (fun ds e1 h => h.run) fun _ _ _ q => q)⟩
theorem whl_wp {c : Ex} {body : Sms} (P : Nat → Fm → Prop) : ∀ (n : Nat) (e : Fm), P n e → (∀ m e2, m < n + 1 → P m e2 → ∃ m', m = m' + 1 ∧ WT cf c e2 (fun b e3 => (b = true → WSs cf body e3 { E with nx := P m', ct := P m', bk := E.nx }) ∧ (b = false → E.nx e3)) E.xc) →
    swp (whlLoop (tst (evE cf c)) (evSs cf body) n e) E
  | 0, e, h, hs => by
    obtain ⟨m', h1, _⟩ := hs 0 e (by omega) h
    cases h1
  | n + 1, e, h, hs => by
    obtain ⟨m', h1, h2⟩ := hs (n + 1) e (by omega) h
    cases h1
    unfold whlLoop
    refine swp_of (rwp_imp h2.run (fun b e3 h => ?_) fun _ _ _ q => q)
    cases b with
    | false => exact h.2 rfl
    | true =>
      have h3 := (h.1 rfl).run
      simp only [if_true]
      have ih := fun e2 (q : P n e2) => whl_wp P n e2 q fun m e4 hm q => hs m e4 (by omega) q
      cases hb : evSs cf body e3 with
      | next e2 => rw [hb] at h3; exact ih e2 h3
      | cnt e2 => rw [hb] at h3; exact ih e2 h3
      | brk e2 => rw [hb] at h3; exact h3
      | ret fr d e2 => rw [hb] at h3; exact h3
      | exc c d e2 => rw [hb] at h3; exact h3
      | stuck => rw [hb] at h3; exact h3
theorem WS.whl {n : Nat} {c : Ex} {body : Sms} (P : Nat → Fm → Prop) (h : P n e) (hs : ∀ m e2, P m e2 → ∃ m', m = m' + 1 ∧ WT cf c e2 (fun b e3 => (b = true → WSs cf body e3 { E with nx := P m', ct := P m', bk := E.nx }) ∧ (b = false → E.nx e3)) E.xc) : WS cf (.whl n c body) e E :=
  ⟨by simp only [evS]; exact whl_wp P n e h fun m e2 _ q => hs m e2 q⟩
/-! ### comprehensions -/
/-- over one name: e has its slot wiped -/
theorem lc_wp {i : Nat} {elt : Ex} {ifs : Exs} {Q : List D → Fm → Prop} (P : Nat → List D → Fm → Prop) : ∀ (ds : List D) (j : Nat) (acc : List D) (e : Fm), P j acc e →
    (∀ (m : Nat) (d : D), ds[m]? = some d → ∀ acc e, P (j + m) acc e → Bt (.nm i) d e fun e1 => WF cf ifs e1 (fun t e2 => (t = true → WD cf elt e2 (fun y e3 => ∃ s, e3[i]? = some s ∧ Pl s ∧ P (j + m + 1) (acc ++ [y]) (e3.set i .un)) fun _ _ _ => False) ∧ (t = false → ∃ s, e2[i]? = some s ∧ Pl s ∧ P (j + m + 1) acc (e2.set i .un))) fun _ _ _ => False) →
    (∀ acc e, P (j + ds.length) acc e → Q acc e) → ∃ ys e1, lcLoop (turnM (.nm i) (evFs cf ifs) (tk (evE cf elt))) [i] ds acc e = .ok ys e1 ∧ Q ys e1
  | [], j, acc, e, h, _, hd => ⟨acc, e, rfl, hd acc e h⟩
  | d :: ds, j, acc, e, h, hs, hd => by
    obtain ⟨e1, h1, h2⟩ := (hs 0 d rfl acc e h).run
    have ih := fun acc e (q : P (j + 1) acc e) => lc_wp P ds (j + 1) acc e q (fun m d' hm acc e pe => by
      have := hs (m + 1) d' (by simpa using hm) acc e (by rw [show j + (m + 1) = j + 1 + m by omega]; exact pe)
      rw [show j + (m + 1) = j + 1 + m by omega] at this
      exact this) (fun acc e q => hd acc e (by rw [List.length_cons, show j + (ds.length + 1) = j + 1 + ds.length by omega]; exact q))
    have wp : ∀ {e : Fm} {s : Slot}, e[i]? = some s → Pl s → wipeF e [i] = some (e.set i .un) := by
      intro e s hs hp
      simp only [wipeF, Option.bind_some, hs]
      rcases hp with rfl | ⟨d, rfl⟩ <;> rfl
    have h3 := h2.run
    cases hf : evFs cf ifs e1 with
    | exc c d e2 => rw [hf] at h3; exact h3.elim
    | stuck => rw [hf] at h3; exact h3.elim
    | ok t e2 =>
      rw [hf] at h3
      cases t with
      | false =>
        obtain ⟨s, q1, q2, q3⟩ := h3.2 rfl
        obtain ⟨ys, e4, r1, r2⟩ := ih acc _ q3
        have ht : turnM (.nm i) (evFs cf ifs) (tk (evE cf elt)) d e = .ok none e2 := by
          simp only [turnM, h1, M.bind, hf]
          rfl
        exact ⟨ys, e4, by simp only [lcLoop, ht, wp q1 q2]; exact r1, r2⟩
      | true =>
        have h4 := (h3.1 rfl).run
        cases hk : tk (evE cf elt) e2 with
        | exc c d e3 => rw [hk] at h4; exact h4.elim
        | stuck => rw [hk] at h4; exact h4.elim
        | ok y e3 =>
          rw [hk] at h4
          obtain ⟨s, q1, q2, q3⟩ := h4
          obtain ⟨ys, e4, r1, r2⟩ := ih (acc ++ [y]) _ q3
          have ht : turnM (.nm i) (evFs cf ifs) (tk (evE cf elt)) d e = .ok (some y) e3 := by
            simp only [turnM, h1, M.bind, hf, if_true, M.map, hk]
            rfl
          exact ⟨ys, e4, by simp only [lcLoop, ht, wp q1 q2]; exact r1, r2⟩
/-- a comprehension's reading -/
structure Cp (i : Nat) (elt : Ex) (ifs : Exs) (ds : List D) (e : Fm) (cf : CF) (Q : Opd → Fm → Prop) : Prop where
  run : ∃ e0, wipeF e [i] = some e0 ∧ ∃ ys e3, lcLoop (turnM (.nm i) (evFs cf ifs) (tk (evE cf elt))) [i] ds [] e0 = .ok ys e3 ∧ Q (.fresh (.list ys)) (backF e e3 [i])
theorem WE.comp {i : Nat} {elt : Ex} {it : Itr} {ifs : Exs} {Q : Opd → Fm → Prop} (h : WI cf it e (fun ds e1 => Cp i elt ifs ds e1 cf Q) X) : WE cf (.comp [i] elt (.nm i) it ifs) e Q X :=
  ⟨by
    simp only [evE]
    unfold compM
    refine rwp_bind (rwp_imp h.run (fun ds e1 ⟨e0, h1, ys, e3, h2, h3⟩ => ?_) fun _ _ _ q => q)
    simp only [h1, h2]
    exact h3⟩
theorem Cp.of {i : Nat} {elt : Ex} {ifs : Exs} {ds : List D} {s : Slot} {e0 : Fm} {Q : Opd → Fm → Prop} (hi : e[i]? = some s) (hp : Pl s) [h0 : SetAt e i .un e0] (P : Nat → List D → Fm → Prop) (h : P 0 [] e0)
    (hs : ∀ (m : Nat) (d : D), ds[m]? = some d → ∀ acc e, P m acc e → Bt (.nm i) d e fun e1 => WF cf ifs e1 (fun t e2 => (t = true → WD cf elt e2 (fun y e3 => ∃ s, e3[i]? = some s ∧ Pl s ∧ P (m + 1) (acc ++ [y]) (e3.set i .un)) fun _ _ _ => False) ∧ (t = false → ∃ s, e2[i]? = some s ∧ Pl s ∧ P (m + 1) acc (e2.set i .un))) fun _ _ _ => False)
    (hd : ∀ acc e1, P ds.length acc e1 → ∃ e2, SetAt e1 i s e2 ∧ Q (.fresh (.list acc)) e2) : Cp i elt ifs ds e cf Q := by
  obtain ⟨ys, e3, r1, r2⟩ := lc_wp (cf := cf) (i := i) (elt := elt) (ifs := ifs) (Q := fun acc e1 => Q (.fresh (.list acc)) (e1.set i s)) P ds 0 [] e0 h (fun m d hm acc e pe => by
    rw [Nat.zero_add] at pe ⊢
    exact hs m d hm acc e pe) (fun acc e1 q => by
    obtain ⟨e2, z1, z2⟩ := hd acc e1 (by rw [Nat.zero_add] at q; exact q)
    rw [z1.eq]
    exact z2)
  refine ⟨e0, ?_, ys, e3, r1, ?_⟩
  · simp only [wipeF, Option.bind_some, hi]
    rcases hp with rfl | ⟨d, rfl⟩ <;> (rw [h0.eq])
  · simp only [backF, hi, Option.getD_some]
    exact r2
/-- .. whose parts leave the frame alone, without a test -/
theorem Cp.map {i : Nat} {elt : Ex} {ds : List D} {s : Slot} {Q : Opd → Fm → Prop} (hi : e[i]? = some s) (hp : Pl s) (f : D → D) (hs : ∀ d ∈ ds, ∃ e1, SetAt e i (.val d) e1 ∧ WD cf elt e1 (fun y e3 => y = f d ∧ e3 = e1) fun _ _ _ => False)
    (q : Q (.fresh (.list (ds.map f))) e) : Cp i elt .nil ds e cf Q := by
  have hl := (List.getElem?_eq_some_iff.mp hi).1
  have key := lc_filter (cf := cf) (i := i) (elt := elt) (ifs := .nil) (e := e.set i .un) (fun _ => true) f (by rw [List.length_set]; exact hl) (List.getElem?_set_self hl) ds [] fun d hd => by
    rw [List.set_set]
    refine ⟨rfl, fun _ => ?_⟩
    obtain ⟨e1, z1, z2⟩ := hs d hd
    have := z2.run
    rw [← z1.eq] at this
    cases hk : tk (evE cf elt) (e.set i (.val d)) with
    | exc c d e3 => rw [hk] at this; exact this.elim
    | stuck => rw [hk] at this; exact this.elim
    | ok y e3 =>
      rw [hk] at this
      obtain ⟨rfl, rfl⟩ := this
      rfl
  refine ⟨e.set i .un, ?_, _, _, key, ?_⟩
  · simp only [wipeF, Option.bind_some, hi]
    rcases hp with rfl | ⟨d, rfl⟩ <;> rfl
  · have hb : backF e (e.set i .un) [i] = e := by
      simp only [backF, List.set_set, hi, Option.getD_some]
      apply List.ext_getElem?
      intro j
      by_cases q : i = j
      · subst q; rw [List.getElem?_set_self hl, hi]
      · rw [List.getElem?_set_ne q]
    rw [hb, List.nil_append, List.filter_eq_self.mpr fun _ _ => rfl]
    exact q
/-- .. with a test -/
theorem Cp.filter {i : Nat} {elt : Ex} {ifs : Exs} {ds : List D} {s : Slot} {Q : Opd → Fm → Prop} (hi : e[i]? = some s) (hp : Pl s) (p : D → Bool) (f : D → D)
    (hs : ∀ d ∈ ds, ∃ e1, SetAt e i (.val d) e1 ∧ WF cf ifs e1 (fun t e2 => t = p d ∧ e2 = e1) (fun _ _ _ => False) ∧ (p d = true → WD cf elt e1 (fun y e3 => y = f d ∧ e3 = e1) fun _ _ _ => False))
    (q : Q (.fresh (.list ((ds.filter p).map f))) e) : Cp i elt ifs ds e cf Q := by
  have hl := (List.getElem?_eq_some_iff.mp hi).1
  have key := lc_filter (cf := cf) (i := i) (elt := elt) (ifs := ifs) (e := e.set i .un) p f (by rw [List.length_set]; exact hl) (List.getElem?_set_self hl) ds [] fun d hd => by
    rw [List.set_set]
    obtain ⟨e1, z1, h1, h2⟩ := hs d hd
    refine ⟨?_, fun hp => ?_⟩
    · have := h1.run
      rw [← z1.eq] at this
      cases hk : evFs cf ifs (e.set i (.val d)) with
      | exc c d e3 => rw [hk] at this; exact this.elim
      | stuck => rw [hk] at this; exact this.elim
      | ok y e3 =>
        rw [hk] at this
        obtain ⟨rfl, rfl⟩ := this
        rfl
    · have := (h2 hp).run
      rw [← z1.eq] at this
      cases hk : tk (evE cf elt) (e.set i (.val d)) with
      | exc c d e3 => rw [hk] at this; exact this.elim
      | stuck => rw [hk] at this; exact this.elim
      | ok y e3 =>
        rw [hk] at this
        obtain ⟨rfl, rfl⟩ := this
        rfl
  refine ⟨e.set i .un, ?_, _, _, key, ?_⟩
  · simp only [wipeF, Option.bind_some, hi]
    rcases hp with rfl | ⟨d, rfl⟩ <;> rfl
  · have hb : backF e (e.set i .un) [i] = e := by
      simp only [backF, List.set_set, hi, Option.getD_some]
      apply List.ext_getElem?
      intro j
      by_cases q : i = j
      · subst q; rw [List.getElem?_set_self hl, hi]
      · rw [List.getElem?_set_ne q]
    rw [hb, List.nil_append]
    exact q
/-! ### a def -/
theorem Le.of {lent : List Bool} {ls : List D} {Q : List D → Prop} (h : lentsOf e lent 0 = some ls) (q : Q ls) : Le e lent Q := ⟨ls, h, q⟩
theorem WC.defn {tab : List Fn} {k i : Nat} {fn : Fn} {ds : List D} {b0 : Sms} {lt : List Bool} {Q : Bool → D → List D → Prop} {XC : Str → D → Prop} (h : tab[i]? = some fn) (hc : ds.length = fn.ps.length ∧ fn.lent.length = fn.ps.length ∧ (fn.lent.zip ds).all (fun p => !p.1 || isOwnable p.2) = true) (he : mkFm fn ds = e) (hb : fn.body = b0) (hl : fn.lent = lt)
    (b : WSs (Ev.run tab k) b0 e { nx := fun e => Le e lt fun ls => Q false .none ls, rt := fun fr d e => Le e lt fun ls => Q fr d ls, bk := fun _ => False, ct := fun _ => False, xc := fun c d _ => lt.any id = false ∧ XC c d }) : WC (Ev.run tab (k + 1) i ds) Q XC := by
  subst hb
  subst hl
  rw [run_at h hc he]
  have hb := b.run
  refine ⟨?_⟩
  cases hr : evSs (Ev.run tab k) fn.body e with
  | next e1 =>
    rw [hr] at hb
    obtain ⟨ls, h1, h2⟩ := (show Le e1 fn.lent _ from hb).run
    simp only [Ev.finish, h1]
    exact h2
  | ret fr d e1 =>
    rw [hr] at hb
    obtain ⟨ls, h1, h2⟩ := (show Le e1 fn.lent _ from hb).run
    simp only [Ev.finish, h1]
    exact h2
  | brk e1 => rw [hr] at hb; exact hb.elim
  | cnt e1 => rw [hr] at hb; exact hb.elim
  | exc c d e1 =>
    rw [hr] at hb
    simp only [Ev.finish, hb.1, Bool.false_eq_true, if_false]
    exact hb.2
  | stuck => rw [hr] at hb; exact hb.elim
end
theorem ite_t {b : Bool} {A B : Prop} (h : b = true) (q : A) : (b = true → A) ∧ (b = false → B) := ⟨fun _ => q, fun z => by rw [h] at z; cases z⟩
theorem ite_f {b : Bool} {A B : Prop} (h : b = false) (q : B) : (b = true → A) ∧ (b = false → B) := ⟨fun z => (by rw [h] at z; cases z), fun _ => q⟩
theorem ite_t2 {b : Bool} {A B : Prop} (h : b = true) (q : B) : (b = false → A) ∧ (b = true → B) := ⟨fun z => (by rw [h] at z; cases z), fun _ => q⟩
theorem ite_f2 {b : Bool} {A B : Prop} (h : b = false) (q : A) : (b = false → A) ∧ (b = true → B) := ⟨fun _ => q, fun z => by rw [h] at z; cases z⟩
theorem le_szl {n : Nat} (h : n ≤ 10000) : n ≤ sizeLine := of_eq_true (szl h)
theorem lt_szl {n : Nat} (h : n < 10000) : n < sizeLine := of_eq_true (szlt h)
theorem mu_append {xs : List D} {x : D} (h : xs.length < sizeLine) : muD .append (.list xs) [x] = some (.list (xs ++ [x])) := by simp only [muD, h, if_true]
theorem mu_extend {xs ys : List D} (h : xs.length + ys.length ≤ sizeLine) : muD .extend (.list xs) [.list ys] = some (.list (xs ++ ys)) := by simp only [muD, h, if_true]
theorem mu_extendT {xs ys : List D} (h : xs.length + ys.length ≤ sizeLine) : muD .extend (.list xs) [.tuple ys] = some (.list (xs ++ ys)) := by simp only [muD, h, if_true]
theorem mulOk_n {x y : Int} (h : x.natAbs.log2 + y.natAbs.log2 < 1000000) : mulOk x y = true := mulOk_w h
theorem sd3_0 {x y z v : D} : setD (.list [x, y, z]) (.int 0) v = some (.list [v, y, z]) := rfl
theorem sd3_1 {x y z v : D} : setD (.list [x, y, z]) (.int 1) v = some (.list [x, v, z]) := rfl
theorem sd3_2 {x y z v : D} : setD (.list [x, y, z]) (.int 2) v = some (.list [x, y, v]) := rfl
theorem sd2_0 {x y v : D} : setD (.list [x, y]) (.int 0) v = some (.list [v, y]) := rfl
theorem sd2_1 {x y v : D} : setD (.list [x, y]) (.int 1) v = some (.list [x, v]) := rfl
/-- a callee's saying used -/
theorem WC.ex1 {α : Type} {r : CR} {fr : Bool} {d : α → D} {ls : α → List D} {R : α → Prop} {Q : Bool → D → List D → Prop} {X : Str → D → Prop} (h : ∃ a, r = .ok fr (d a) (ls a) ∧ R a) (q : ∀ a, R a → Q fr (d a) (ls a)) : WC r Q X := by
  obtain ⟨a, h1, h2⟩ := h
  exact WC.eq h1 (q a h2)
theorem WC.ex2 {α β : Type} {r : CR} {fr : Bool} {d : α → β → D} {ls : α → β → List D} {R : α → β → Prop} {Q : Bool → D → List D → Prop} {X : Str → D → Prop} (h : ∃ a b, r = .ok fr (d a b) (ls a b) ∧ R a b) (q : ∀ a b, R a b → Q fr (d a b) (ls a b)) : WC r Q X := by
  obtain ⟨a, b, h1, h2⟩ := h
  exact WC.eq h1 (q a b h2)
theorem WC.ex3 {α β γ : Type} {r : CR} {fr : Bool} {d : α → β → γ → D} {ls : α → β → γ → List D} {R : α → β → γ → Prop} {Q : Bool → D → List D → Prop} {X : Str → D → Prop} (h : ∃ a b c, r = .ok fr (d a b c) (ls a b c) ∧ R a b c) (q : ∀ a b c, R a b c → Q fr (d a b c) (ls a b c)) : WC r Q X := by
  obtain ⟨a, b, c, h1, h2⟩ := h
  exact WC.eq h1 (q a b c h2)
/-- a comprehension over any target, whose parts leave the frame alone -/
structure CpT (own : List Nat) (tg : Tg) (elt : Ex) (ifs : Exs) (ds : List D) (e : Fm) (cf : CF) (Q : Opd → Fm → Prop) : Prop where
  run : ∃ e0, wipeF e own = some e0 ∧ ∃ ys e3, lcLoop (turnM tg (evFs cf ifs) (tk (evE cf elt))) own ds [] e0 = .ok ys e3 ∧ Q (.fresh (.list ys)) (backF e e3 own)
theorem WE.compT {cf : CF} {e : Fm} {X : XP} {own is : List Nat} {elt : Ex} {it : Itr} {ifs : Exs} {Q : Opd → Fm → Prop} (h : WI cf it e (fun ds e1 => CpT own (.tp is) elt ifs ds e1 cf Q) X) : WE cf (.comp own elt (.tp is) it ifs) e Q X :=
  ⟨by
    simp only [evE]
    unfold compM
    refine rwp_bind (rwp_imp h.run (fun ds e1 ⟨e0, h1, ys, e3, h2, h3⟩ => ?_) fun _ _ _ q => q)
    simp only [h1, h2]
    exact h3⟩
theorem CpT.map {cf : CF} {e : Fm} {own : List Nat} {tg : Tg} {elt : Ex} {ds : List D} {Q : Opd → Fm → Prop} (e0 : Fm) (h0 : wipeF e own = some e0) (f : D → D)
    (hs : ∀ d ∈ ds, ∃ e1, bindTg tg d e0 = some e1 ∧ wipeF e1 own = some e0 ∧ WD cf elt e1 (fun y e3 => y = f d ∧ e3 = e1) fun _ _ _ => False) (hb : backF e e0 own = e) (q : Q (.fresh (.list (ds.map f))) e) : CpT own tg elt .nil ds e cf Q := by
  have key : ∀ (ds acc : List D), (∀ d ∈ ds, ∃ e1, bindTg tg d e0 = some e1 ∧ wipeF e1 own = some e0 ∧ WD cf elt e1 (fun y e3 => y = f d ∧ e3 = e1) fun _ _ _ => False) → lcLoop (turnM tg (evFs cf .nil) (tk (evE cf elt))) own ds acc e0 = .ok (acc ++ ds.map f) e0 := by
    intro ds
    induction ds with
    | nil => intro acc _; simp [lcLoop, M.pure]
    | cons d r ih =>
      intro acc hs
      obtain ⟨e1, h1, h2, h3⟩ := hs d List.mem_cons_self
      have h4 := h3.run
      have ht : turnM tg (evFs cf .nil) (tk (evE cf elt)) d e0 = .ok (some (f d)) e1 := by
        cases hk : tk (evE cf elt) e1 with
        | exc c d e3 => rw [hk] at h4; exact h4.elim
        | stuck => rw [hk] at h4; exact h4.elim
        | ok y e3 =>
          rw [hk] at h4
          obtain ⟨rfl, rfl⟩ := h4
          simp only [turnM, h1, evFs, M.pure, M.bind, if_true, M.map, hk]
      simp only [lcLoop, ht, h2]
      rw [ih _ fun d' m => hs d' (List.mem_cons_of_mem _ m), List.map_cons, List.append_assoc]
      rfl
  refine ⟨e0, h0, _, _, key ds [] hs, ?_⟩
  rw [hb, List.nil_append]
  exact q
theorem Cm.eqSt {a b : Str} {Q : Bool → Prop} (h : eqG (.str a) (.str b) = some true) (q : Q true) : Cm .eq (.str a) (.str b) Q := ⟨true, h, q⟩
theorem Cm.eqSf {a b : Str} {Q : Bool → Prop} (h : eqG (.str a) (.str b) = some false) (q : Q false) : Cm .eq (.str a) (.str b) Q := ⟨false, h, q⟩
/-- the text of a number -/
def nS (i : Int) : Str := toString i
theorem Bc.str {i : Int} {Q : Opd → Prop} (h : i.natAbs.log2 < 1920) (q : Q (.val (.str (nS i)))) : Bc .str [.int i] Q := ⟨_, by simp only [biD, h, if_true]; rfl, q⟩
theorem lc_list {α : Type} {cf : CF} {own : List Nat} {tg : Tg} {elt : Ex} {ifs : Exs} {e0 : Fm} (p : α → Bool) (F G : α → D) : ∀ (xs : List α) (acc : List D),
    (∀ x ∈ xs, ∃ e1, bindTg tg (F x) e0 = some e1 ∧ wipeF e1 own = some e0 ∧ WF cf ifs e1 (fun t e2 => t = p x ∧ e2 = e1) (fun _ _ _ => False) ∧ (p x = true → WD cf elt e1 (fun y e3 => y = G x ∧ e3 = e1) fun _ _ _ => False)) →
    lcLoop (turnM tg (evFs cf ifs) (tk (evE cf elt))) own (xs.map F) acc e0 = .ok (acc ++ (xs.filter p).map G) e0
  | [], acc, _ => by simp [lcLoop, M.pure]
  | x :: r, acc, hs => by
    obtain ⟨e1, h1, h2, h3, h4⟩ := hs x List.mem_cons_self
    have ih := fun acc => lc_list p F G r acc fun y m => hs y (List.mem_cons_of_mem _ m)
    have h5 := h3.run
    cases hf : evFs cf ifs e1 with
    | exc c d e3 => rw [hf] at h5; exact h5.elim
    | stuck => rw [hf] at h5; exact h5.elim
    | ok t e2 =>
      rw [hf] at h5
      obtain ⟨rfl, rfl⟩ := h5
      cases hp : p x with
      | false =>
        have ht : turnM tg (evFs cf ifs) (tk (evE cf elt)) (F x) e0 = .ok none e2 := by
          simp only [turnM, h1, M.bind, hf, hp]
          rfl
        rw [List.map_cons]
        simp only [lcLoop, ht, h2]
        rw [ih, List.filter_cons_of_neg (by rw [hp]; exact Bool.false_ne_true)]
      | true =>
        have h6 := (h4 hp).run
        cases hk : tk (evE cf elt) e2 with
        | exc c d e3 => rw [hk] at h6; exact h6.elim
        | stuck => rw [hk] at h6; exact h6.elim
        | ok y e3 =>
          rw [hk] at h6
          obtain ⟨rfl, rfl⟩ := h6
          have ht : turnM tg (evFs cf ifs) (tk (evE cf elt)) (F x) e0 = .ok (some (G x)) e3 := by
            simp only [turnM, h1, M.bind, hf, hp, if_true, M.map, hk]
            rfl
          rw [List.map_cons]
          simp only [lcLoop, ht, h2]
          rw [ih, List.filter_cons_of_pos hp, List.map_cons, List.append_assoc]
          rfl
/-- over one name, items that are told by a list -/
theorem Cp.filterL {α : Type} {cf : CF} {e e0 : Fm} {i : Nat} {elt : Ex} {ifs : Exs} {xs : List α} {s : Slot} {Q : Opd → Fm → Prop} (hi : e[i]? = some s) (hp : Pl s) [h0 : SetAt e i .un e0] (p : α → Bool) (F G : α → D)
    (hs : ∀ x ∈ xs, ∃ e1, SetAt e i (.val (F x)) e1 ∧ WF cf ifs e1 (fun t e2 => t = p x ∧ e2 = e1) (fun _ _ _ => False) ∧ (p x = true → WD cf elt e1 (fun y e3 => y = G x ∧ e3 = e1) fun _ _ _ => False))
    (q : Q (.fresh (.list ((xs.filter p).map G))) e) : Cp i elt ifs (xs.map F) e cf Q := by
  have hl := (List.getElem?_eq_some_iff.mp hi).1
  have he0 := h0.eq
  have key := lc_list (cf := cf) (own := [i]) (tg := .nm i) (elt := elt) (ifs := ifs) (e0 := e0) p F G xs [] fun x hx => by
    obtain ⟨e1, z1, z2, z3⟩ := hs x hx
    have z4 := z1.eq
    refine ⟨e1, ?_, ?_, z2, z3⟩
    · show setV e0 i (.val (F x)) = some e1
      rw [setV_nl (s := .un) (by rw [← he0]; exact List.getElem?_set_self hl) rfl, ← he0, List.set_set, z4]
    · simp only [wipeF, Option.bind_some]
      rw [show e1[i]? = some (.val (F x)) by rw [← z4]; exact List.getElem?_set_self hl]
      simp only
      rw [← z4, List.set_set, he0]
  refine ⟨e0, ?_, _, _, key, ?_⟩
  · simp only [wipeF, Option.bind_some, hi]
    rcases hp with rfl | ⟨d, rfl⟩ <;> (rw [← he0])
  · have hb : backF e e0 [i] = e := by
      simp only [backF, hi, Option.getD_some]
      rw [← he0, List.set_set]
      apply List.ext_getElem?
      intro j
      by_cases q : i = j
      · subst q; rw [List.getElem?_set_self hl, hi]
      · rw [List.getElem?_set_ne q]
    rw [hb, List.nil_append]
    exact q
theorem Cp.mapL {α : Type} {cf : CF} {e e0 : Fm} {i : Nat} {elt : Ex} {xs : List α} {s : Slot} {Q : Opd → Fm → Prop} (hi : e[i]? = some s) (hp : Pl s) [h0 : SetAt e i .un e0] (F G : α → D)
    (hs : ∀ x ∈ xs, ∃ e1, SetAt e i (.val (F x)) e1 ∧ WD cf elt e1 (fun y e3 => y = G x ∧ e3 = e1) fun _ _ _ => False)
    (q : Q (.fresh (.list (xs.map G))) e) : Cp i elt .nil (xs.map F) e cf Q := by
  refine Cp.filterL hi hp (fun _ => true) F G (fun x hx => ?_) (by rw [List.filter_eq_self.mpr fun _ _ => rfl]; exact q)
  obtain ⟨e1, z1, z2⟩ := hs x hx
  exact ⟨e1, z1, WF.nil ⟨rfl, rfl⟩, fun _ => z2⟩
theorem CpT.filterL {α : Type} {cf : CF} {e : Fm} {own : List Nat} {tg : Tg} {elt : Ex} {ifs : Exs} {xs : List α} {Q : Opd → Fm → Prop} (e0 : Fm) (h0 : wipeF e own = some e0) (p : α → Bool) (F G : α → D)
    (hs : ∀ x ∈ xs, ∃ e1, bindTg tg (F x) e0 = some e1 ∧ wipeF e1 own = some e0 ∧ WF cf ifs e1 (fun t e2 => t = p x ∧ e2 = e1) (fun _ _ _ => False) ∧ (p x = true → WD cf elt e1 (fun y e3 => y = G x ∧ e3 = e1) fun _ _ _ => False))
    (hb : backF e e0 own = e) (q : Q (.fresh (.list ((xs.filter p).map G))) e) : CpT own tg elt ifs (xs.map F) e cf Q := by
  refine ⟨e0, h0, _, _, lc_list p F G xs [] hs, ?_⟩
  rw [hb, List.nil_append]
  exact q
theorem CpT.mapL {α : Type} {cf : CF} {e : Fm} {own : List Nat} {tg : Tg} {elt : Ex} {xs : List α} {Q : Opd → Fm → Prop} (e0 : Fm) (h0 : wipeF e own = some e0) (F G : α → D)
    (hs : ∀ x ∈ xs, ∃ e1, bindTg tg (F x) e0 = some e1 ∧ wipeF e1 own = some e0 ∧ WD cf elt e1 (fun y e3 => y = G x ∧ e3 = e1) fun _ _ _ => False)
    (hb : backF e e0 own = e) (q : Q (.fresh (.list (xs.map G))) e) : CpT own tg elt .nil (xs.map F) e cf Q := by
  refine CpT.filterL e0 h0 (fun _ => true) F G (fun x hx => ?_) hb (by rw [List.filter_eq_self.mpr fun _ _ => rfl]; exact q)
  obtain ⟨e1, z1, z2, z3⟩ := hs x hx
  exact ⟨e1, z1, z2, WF.nil ⟨rfl, rfl⟩, fun _ => z3⟩
theorem Bc.lenS {z : Str} {Q : Opd → Prop} (h : z.length ≤ sizeLine) (q : Q (.val (.int z.length))) : Bc .len [.str z] Q := ⟨_, by simp only [biD, lenD, h, if_true, Option.map_some], q⟩
/-- a dict of the module: what it has for a text -/
theorem WE.kdx {cf : CF} {X : XP} {e : Fm} {n : Str} {kvs : List (Str × D)} {a : Ex} {Q : Opd → Fm → Prop} (h : WK cf a e (fun d e1 => ∃ z dd, d = .str z ∧ kvs.lookup z = some dd ∧ Q (.val dd) e1) X) : WE cf (.kdx n kvs a) e Q X :=
  ⟨by
    simp only [evE]
    refine rwp_bind (rwp_imp h.run (fun d e1 ⟨z, dd, h0, hl, h⟩ => ?_) fun _ _ _ q => q)
    subst h0
    refine rwp_opt ?_
    simp only [kdD, hl]
    exact ⟨_, rfl, h⟩⟩
theorem WE.meth {cf : CF} {X : XP} {e : Fm} {m : Mt} {o : Ex} {es : Exs} {Q : Opd → Fm → Prop} (h : WE cf o e (fun x e1 => Dp x e1 fun d0 => ∃ k, rcv d0 = some k ∧ WAs cf es e1 (fun os e2 => Dp x e2 fun dx => Dps os e2 fun ds => rcv dx = some k ∧ Op (mtD m dx ds) fun o => Q o e2) X) X) : WE cf (.meth m o es) e Q X :=
  ⟨by
    simp only [evE]
    refine rwp_bind (rwp_imp h.run (fun x e1 ⟨d0, h1, k, h2, h⟩ => ?_) fun _ _ _ q => q)
    refine rwp_bind ?_
    rw [h1]
    refine rwp_bind (show rwp (M.opt (rcv d0) e1) _ X from rwp_opt ⟨k, h2, ?_⟩)
    refine rwp_bind (rwp_imp h.run (fun os e2 ⟨dx, g1, ds, g2, g3, o, g4, g5⟩ => ?_) fun _ _ _ q => q)
    refine rwp_bind ?_
    rw [g1]
    refine rwp_bind ?_
    rw [g2]
    refine rwp_opt ⟨o, ?_, g5⟩
    rw [if_pos g3]
    exact g4⟩
theorem evD_err {ks : List Str} {cn : Str} {d : D} (h : ks.contains cn = true) : evD ks (errD cn d) = some d := by
  show (if ks.contains cn = true then some d else none) = some d
  rw [if_pos h]
theorem isxD_err {ks : List Str} {c cn : Str} {d : D} (h : ks.contains cn = true) : isxD ks c (errD cn d) = some (isxB c cn) := by
  show (if ks.contains cn = true then some (isxB c cn) else none) = some (isxB c cn)
  rw [if_pos h]
theorem WE.ev {cf : CF} {X : XP} {e : Fm} {ks : List Str} {a : Ex} {Q : Opd → Fm → Prop} (h : WK cf a e (fun d e1 => ∃ cn y, d = errD cn y ∧ ks.contains cn = true ∧ Q (.val y) e1) X) : WE cf (.ev ks a) e Q X :=
  ⟨by
    simp only [evE]
    refine rwp_bind (rwp_imp h.run (fun d e1 ⟨cn, y, h0, h1, h⟩ => ?_) fun _ _ _ q => q)
    subst h0
    exact rwp_opt ⟨_, by rw [evD_err h1]; rfl, h⟩⟩
theorem WE.isx {cf : CF} {X : XP} {e : Fm} {ks : List Str} {a : Ex} {c : Str} {Q : Opd → Fm → Prop} (h : WK cf a e (fun d e1 => ∃ cn y, d = errD cn y ∧ ks.contains cn = true ∧ Q (.val (.bool (isxB c cn))) e1) X) : WE cf (.isx ks a c) e Q X :=
  ⟨by
    simp only [evE]
    refine rwp_bind (rwp_imp h.run (fun d e1 ⟨cn, y, h0, h1, h⟩ => ?_) fun _ _ _ q => q)
    subst h0
    exact rwp_opt ⟨_, by rw [isxD_err h1]; rfl, h⟩⟩
theorem WE.mkv {cf : CF} {X : XP} {e : Fm} {c : Str} {a : Ex} {Q : Opd → Fm → Prop} (h : WD cf a e (fun d e1 => Q (.val d) e1) X) : WE cf (.mkv c a) e Q X :=
  ⟨by
    simp only [evE]
    exact rwp_bind (rwp_imp h.run (fun d e1 q => q) fun _ _ _ q => q)⟩
theorem WS.throwK {cf : CF} {E : Ed} {e : Fm} {cn : Str} {x : Ex} (h : WD cf x e (fun d e1 => E.xc cn d e1) E.xc) : WS cf (.throwK cn x) e E := ⟨by simp only [evS]; exact swp_of h.run⟩
/-- what the clauses do with an error -/
structure Hit (cl : List (Str × Nat × Nat × Act)) (cn : Str) (d : D) (e : Fm) (E : Ed) : Prop where run : swp (hitCl cl cn d e) E
theorem Hit.yes {c : Str} {n y : Nat} {act : Act} {r : List (Str × Nat × Nat × Act)} {cn : Str} {d : D} {e e2 : Fm} {E : Ed} (h : catches c cn = true) (hn : n < e.length) (hw : wipeF e [n] = some e2) (q : Pt e2 y (.val (actD act cn d)) E.nx) : Hit ((c, n, y, act) :: r) cn d e E :=
  ⟨by
    obtain ⟨e3, h3, h4⟩ := q
    unfold hitCl
    rw [if_pos h, if_pos hn, hw]
    simp only
    have h3 : setV e2 y (.val (actD act cn d)) = some e3 := h3
    rw [h3]
    exact h4⟩
theorem Hit.no {c : Str} {n y : Nat} {act : Act} {r : List (Str × Nat × Nat × Act)} {cn : Str} {d : D} {e : Fm} {E : Ed} (h : catches c cn = false) (q : Hit r cn d e E) : Hit ((c, n, y, act) :: r) cn d e E :=
  ⟨by
    unfold hitCl
    rw [h, if_neg Bool.false_ne_true]
    exact q.run⟩
theorem WS.tryN {cf : CF} {E : Ed} {e : Fm} {b : Sms} {known : List Str} {cl : List (Str × Nat × Nat × Act)} (h : WSs cf b e { E with xc := fun cn d e1 => known.contains cn = true ∧ Hit cl cn d e1 E }) : WS cf (.tryN b known cl) e E :=
  ⟨by
    simp only [evS]
    have h2 := h.run
    cases hb : evSs cf b e with
    | next e2 => rw [hb] at h2; exact h2
    | cnt e2 => rw [hb] at h2; exact h2
    | brk e2 => rw [hb] at h2; exact h2
    | ret fr d e2 => rw [hb] at h2; exact h2
    | stuck => rw [hb] at h2; exact h2
    | exc c d e2 =>
      rw [hb] at h2
      obtain ⟨h3, h4⟩ := h2
      simp only
      rw [if_pos h3]
      exact h4.run⟩
theorem WC.exc {r : CR} {c : Str} {d : D} {Q : Bool → D → List D → Prop} {X : Str → D → Prop} (h : r = .exc c d) (x : X c d) : WC r Q X := by
  subst h
  exact ⟨x⟩
theorem WC.getX {r : CR} {X : Str → D → Prop} (h : WC r (fun _ _ _ => False) X) : ∃ c d, r = .exc c d ∧ X c d := by
  have h2 := h.run
  cases r with
  | ok fr d ls => exact h2.elim
  | exc c d => exact ⟨c, d, rfl, h2⟩
  | stuck => exact h2.elim
end Ev

set_option Elab.async false
set_option linter.all false
set_option maxHeartbeats 4000000
set_option maxRecDepth 100000
/-! orders: plain facts -/
namespace Ev
open PySem L2
/-- 1 to n in some row -/
def Ord (n : Nat) (os : List Int) : Prop := os.length = n ∧ os.Nodup ∧ ∀ x ∈ os, 1 ≤ x ∧ x ≤ n
/-- distinct numbers of 1 to m are at most m -/
theorem few : ∀ (m : Nat) (os : List Int), os.Nodup → (∀ x ∈ os, 1 ≤ x ∧ x ≤ m) → os.length ≤ m
  | 0, [], _, _ => Nat.le_refl _
  | 0, x :: _, _, h => by
    have := h x List.mem_cons_self
    omega
  | m + 1, os, hn, h => by
    have h1 := few m (os.erase ((m + 1 : Nat) : Int)) (hn.erase _) fun x hx => by
      have hx' := List.mem_of_mem_erase hx
      have := h x hx'
      have : x ≠ ((m + 1 : Nat) : Int) := fun e => by
        rw [e, hn.mem_erase_iff] at hx
        exact hx.1 rfl
      omega
    have := List.length_erase_of_mem (a := ((m + 1 : Nat) : Int)) (l := os)
    by_cases hm : ((m + 1 : Nat) : Int) ∈ os
    · rw [this hm] at h1
      omega
    · rw [List.erase_of_not_mem hm] at h1
      omega
theorem Ord.all {n : Nat} {os : List Int} (h : Ord n os) {x : Int} (h1 : 1 ≤ x) (h2 : x ≤ n) : x ∈ os := by
  obtain ⟨hl, hn, hb⟩ := h
  refine Classical.byContradiction fun hx => ?_
  have hsh : ∀ y, y ∈ os → y ≠ x := fun y hy e => hx (by rw [← e]; exact hy)
  have := few (n - 1) (os.map fun y => if y > x then y - 1 else y) ?_ ?_
  · rw [List.length_map] at this
    omega
  · refine List.pairwise_map.mpr (hn.imp_of_mem fun {a b} ha hb' hab => ?_)
    have q1 := hsh a ha
    have q2 := hsh b hb'
    split <;> split <;> omega
  · intro y hy
    obtain ⟨z, hz, rfl⟩ := List.mem_map.mp hy
    have q1 := hsh z hz
    have q2 := hb z hz
    split <;> omega
theorem Ord.perm {n : Nat} {os : List Int} (h : Ord n os) : os.Perm (ri 1 n) := by
  rw [List.perm_iff_count]
  intro x
  have h1 := h.2.1
  have h2 := ri_nodup 1 n
  by_cases hx : x ∈ os
  · have hr : x ∈ ri 1 n := by
      have := h.2.2 x hx
      exact ri_mem.mpr (by omega)
    rw [h1.count, h2.count, if_pos hx, if_pos hr]
  · have hr : x ∉ ri 1 n := fun hr => hx (h.all (by have := ri_mem.mp hr; omega) (by have := ri_mem.mp hr; omega))
    rw [List.count_eq_zero_of_not_mem hx, List.count_eq_zero_of_not_mem hr]
theorem Ord.sort {n : Nat} {os : List Int} (h : Ord n os) : sortI os = ri 1 n :=
  sorted_one ((sortI_perm os).trans h.perm) (sortI_sorted os) (ri_sorted 1 n)
theorem Ord.of_sort {n : Nat} {os : List Int} (hl : os.length = n) (h : sortI os = ri 1 n) : Ord n os := by
  have hp : os.Perm (ri 1 n) := by rw [← h]; exact (sortI_perm os).symm
  refine ⟨hl, hp.nodup_iff.mpr (ri_nodup 1 n), fun x hx => ?_⟩
  have := ri_mem.mp (hp.mem_iff.mp hx)
  omega
/-- whether a row of ints is an order -/
def isOrd (os : List Int) : Bool := decide (0 < os.length) && decide (sortI os = ri 1 os.length)
theorem isOrd_of {n : Nat} {os : List Int} (h : Ord n os) (h0 : 0 < n) : isOrd os = true := by
  unfold isOrd
  rw [h.1, h.sort, decide_eq_true h0, decide_eq_true rfl]
  rfl
theorem isOrd_to {os : List Int} (h : isOrd os = true) : Ord os.length os := by
  unfold isOrd at h
  rw [Bool.and_eq_true, decide_eq_true_eq, decide_eq_true_eq] at h
  exact Ord.of_sort rfl h.2
theorem not_ord {os : List Int} (h : ¬ Ord os.length os) : isOrd os = false := by
  cases q : isOrd os with
  | false => rfl
  | true => exact absurd (isOrd_to q) h
theorem Ord.one : Ord 1 [1] := ⟨rfl, by simp, fun x hx => by rw [List.mem_singleton] at hx; omega⟩
/-- a thing set in at a place -/
def putAt (p : Nat) (x : Int) (os : List Int) : List Int := os.take p ++ [x] ++ os.drop p
theorem putAt_len {p : Nat} {x : Int} {os : List Int} : (putAt p x os).length = os.length + 1 := by
  unfold putAt
  simp only [List.length_append, List.length_take, List.length_drop, List.length_singleton]
  omega
theorem putAt_perm {p : Nat} {x : Int} {os : List Int} : (putAt p x os).Perm (x :: os) := by
  unfold putAt
  have : (os.take p ++ [x] ++ os.drop p).Perm ([x] ++ os.take p ++ os.drop p) := List.perm_append_comm.append_right _
  refine this.trans ?_
  rw [List.append_assoc, List.take_append_drop]
  exact .refl _
theorem Ord.put {n : Nat} {os : List Int} (h : Ord n os) (p : Nat) : Ord (n + 1) (putAt p ((n : Int) + 1) os) := by
  obtain ⟨hl, hn, hb⟩ := h
  refine ⟨by rw [putAt_len, hl], putAt_perm.nodup_iff.mpr (List.nodup_cons.mpr ⟨fun hx => ?_, hn⟩), fun x hx => ?_⟩
  · have := hb _ hx
    omega
  · rcases List.mem_cons.mp (putAt_perm.mem_iff.mp hx) with rfl | hx
    · omega
    · have := hb x hx
      omega
/-- .. where those from there on rise -/
theorem Ord.rise {n : Nat} {os : List Int} (h : Ord n os) {g : Int} (h1 : 1 ≤ g) (h2 : g ≤ n + 1) (p : Nat) : Ord (n + 1) (putAt p g (os.map fun a => a + if a ≥ g then 1 else 0)) := by
  obtain ⟨hl, hn, hb⟩ := h
  refine ⟨by rw [putAt_len, List.length_map, hl], putAt_perm.nodup_iff.mpr (List.nodup_cons.mpr ⟨fun hx => ?_, ?_⟩), fun x hx => ?_⟩
  · obtain ⟨a, ha, e⟩ := List.mem_map.mp hx
    split at e <;> omega
  · refine List.pairwise_map.mpr (hn.imp fun {a b} hab => ?_)
    split <;> split <;> omega
  · rcases List.mem_cons.mp (putAt_perm.mem_iff.mp hx) with rfl | hx
    · omega
    · obtain ⟨a, ha, rfl⟩ := List.mem_map.mp hx
      have := hb a ha
      split <;> omega
theorem eqG_rng {os : List Int} {n : Nat} : eqG (.list (I os)) (.list (rng 1 n)) = some (decide (os = ri 1 n)) := by rw [rng_ri]; exact eqG_list _ _
theorem sorted_I (os : List Int) : biD .sorted [.tuple (I os)] = some (.fresh (.list (I (sortI os)))) := by
  simp only [biD, items, Option.bind_some, mapM_ints]
theorem sorted_L (os : List Int) : biD .sorted [.list (I os)] = some (.fresh (.list (I (sortI os)))) := by
  simp only [biD, items, Option.bind_some, mapM_ints]
end Ev

set_option Elab.async false
set_option linter.all false
set_option maxHeartbeats 4000000
set_option maxRecDepth 100000
/-! lists of ints, drawn orders -/
namespace Ev
open PySem L2
theorem I_len (os : List Int) : (I os).length = os.length := by simp [I]
theorem I_app (a b : List Int) : I a ++ I b = I (a ++ b) := by simp [I]
theorem I_one (a : List Int) (x : Int) : I a ++ [PyData.int x] = I (a ++ [x]) := by simp [I]
theorem I_get {os : List Int} {i : Nat} {x : Int} (h : os[i]? = some x) : (I os)[i]? = some (.int x) := by unfold I; rw [List.getElem?_map, h]; rfl
theorem I_eraseIdx : ∀ (os : List Int) (v : Nat), (I os).eraseIdx v = I (os.eraseIdx v)
  | [], _ => rfl
  | _ :: _, 0 => rfl
  | x :: r, v + 1 => by
    show PyData.int x :: (I r).eraseIdx v = PyData.int x :: I (r.eraseIdx v)
    rw [I_eraseIdx r v]
theorem pop_I {os : List Int} {v x : Int} (h0 : 0 ≤ v) (h : os[v.toNat]? = some x) : popD (.list (I os)) [.int v] = some (.int x, .list (I (os.eraseIdx v.toNat))) := by
  have hl := (List.getElem?_eq_some_iff.mp h).1
  simp only [popD, I_len, ixN_nat h0 (show v < (os.length : Int) by omega), Option.bind_some, I_get h, Option.map_some, I_eraseIdx]
theorem erase_perm {os : List Int} {v : Nat} {x : Int} (h : os[v]? = some x) : (x :: os.eraseIdx v).Perm os := by
  obtain ⟨hi, rfl⟩ := List.getElem?_eq_some_iff.mp h
  rw [List.eraseIdx_eq_take_drop_succ]
  have : os = os.take v ++ os[v] :: os.drop (v + 1) := by rw [List.getElem_cons_drop, List.take_append_drop]
  conv => rhs; rw [this]
  exact List.perm_middle.symm
theorem ri_Ord (n : Nat) : Ord n (ri 1 n) := ⟨ri_len 1 n, ri_nodup 1 n, fun x hx => by have := ri_mem.mp hx; omega⟩
theorem lrg_I {a b : Int} (ha : -10000 < a) (ha2 : a < 10000) (h0 : b < 10000) (h1 : -10000 < b) : lrgD (.int a) (.int b) = some (.fresh (.list (I (ri a (b - a).toNat)))) := by rw [lrg_n ha ha2 h0 h1, rng_ri]
theorem atI_ok {ds : List D} {i : Int} {d : D} (h0 : 0 ≤ i) (h : ds[i.toNat]? = some d) : idxD (.list ds) (.int i) = some d := atI_nat h0 h
theorem atT_ok {ds : List D} {i : Int} {d : D} (h0 : 0 ≤ i) (h : ds[i.toNat]? = some d) : idxD (.tuple ds) (.int i) = some d := atI_nat h0 h
end Ev
namespace Ev
open PySem L2
theorem Ord.byPerm {n : Nat} {os os' : List Int} (h : Ord n os) (p : os'.Perm os) : Ord n os' := ⟨by rw [p.length_eq]; exact h.1, p.nodup_iff.mpr h.2.1, fun x hx => h.2.2 x (p.mem_iff.mp hx)⟩
end Ev
namespace Ev
open PySem L2
theorem setI {xs : List D} {i : Int} {v : D} (h0 : 0 ≤ i) (h1 : i < xs.length) : setD (.list xs) (.int i) v = some (.list (xs.set i.toNat v)) := by
  simp only [setD, ixN_nat h0 h1, Option.map_some]
/-! ### lots -/
def hdI (l : List Int) : Int := l.head?.getD 0
structure Lots (j : Nat) (ls : List (List Int)) : Prop where
  fl : ls.flatten.Perm (ri 1 j)
  ne : ∀ l ∈ ls, l ≠ [] ∧ l.Pairwise (· < ·)
  hd : (ls.map hdI).Pairwise (· < ·)
theorem Lots.nil : Lots 0 [] := ⟨.refl _, (fun _ q => nomatch q), .nil⟩
theorem Lots.mem {j : Nat} {ls : List (List Int)} (h : Lots j ls) {l : List Int} {x : Int} (hl : l ∈ ls) (hx : x ∈ l) : 1 ≤ x ∧ x ≤ j := by
  have : x ∈ ri 1 j := h.fl.mem_iff.mp (List.mem_flatten.mpr ⟨l, hl, hx⟩)
  have := ri_mem.mp this
  omega
theorem ri_succ (j : Nat) : ri 1 (j + 1) = ri 1 j ++ [((j + 1 : Nat) : Int)] := by
  unfold ri
  rw [List.range_succ, List.map_append]
  simp
  omega
theorem hd_mem {l : List Int} (h : l ≠ []) : hdI l ∈ l := by
  cases l with
  | nil => exact absurd rfl h
  | cons a r => exact List.mem_cons_self
theorem Lots.new {j : Nat} {ls : List (List Int)} (h : Lots j ls) : Lots (j + 1) (ls ++ [[((j + 1 : Nat) : Int)]]) := by
  refine ⟨?_, fun l hl => ?_, ?_⟩
  · rw [List.flatten_append, ri_succ]
    exact h.fl.append_right _
  · rcases List.mem_append.mp hl with hl | hl
    · exact h.ne l hl
    · rw [List.mem_singleton.mp hl]
      exact ⟨by simp, List.pairwise_singleton _ _⟩
  · rw [List.map_append, List.pairwise_append]
    refine ⟨h.hd, List.pairwise_singleton _ _, fun a ha b hb => ?_⟩
    obtain ⟨l, hl, rfl⟩ := List.mem_map.mp ha
    have := h.mem hl (hd_mem (h.ne l hl).1)
    have hb : b = ((j + 1 : Nat) : Int) := List.mem_singleton.mp hb
    omega
theorem flatten_set : ∀ (ls : List (List Int)) (p : Nat) (l : List Int) (x : Int), ls[p]? = some l → (ls.set p (l ++ [x])).flatten.Perm (x :: ls.flatten)
  | [], _, _, _, h => by simp at h
  | a :: r, 0, l, x, h => by
    cases h
    rw [List.set_cons_zero, List.flatten_cons, List.flatten_cons, List.append_assoc]
    exact List.perm_middle
  | a :: r, p + 1, l, x, h => by
    rw [List.set_cons_succ, List.flatten_cons, List.flatten_cons]
    refine ((flatten_set r p l x (by simpa using h)).append_left a).trans ?_
    exact List.perm_middle
theorem Lots.put {j : Nat} {ls : List (List Int)} (h : Lots j ls) {p : Nat} {l : List Int} (hp : ls[p]? = some l) : Lots (j + 1) (ls.set p (l ++ [((j + 1 : Nat) : Int)])) := by
  have hl := List.mem_of_getElem? hp
  have hn := h.ne l hl
  refine ⟨?_, fun l' hl' => ?_, ?_⟩
  · refine (flatten_set ls p l _ hp).trans ?_
    rw [ri_succ]
    refine List.Perm.trans (List.Perm.cons _ h.fl) ?_
    exact (List.perm_append_singleton _ _).symm
  · rcases List.mem_or_eq_of_mem_set hl' with q | q
    · exact h.ne l' q
    · subst q
      refine ⟨by simp, List.pairwise_append.mpr ⟨hn.2, List.pairwise_singleton _ _, fun a ha b hb => ?_⟩⟩
      have := h.mem hl ha
      have hb : b = ((j + 1 : Nat) : Int) := List.mem_singleton.mp hb
      omega
  · have : (ls.set p (l ++ [((j + 1 : Nat) : Int)])).map hdI = ls.map hdI := by
      rw [List.map_set]
      obtain ⟨h1, h2⟩ := List.getElem?_eq_some_iff.mp hp
      apply List.ext_getElem?
      intro i
      by_cases q : p = i
      · subst q
        rw [List.getElem?_set_self (by simpa using h1), List.getElem?_map, hp]
        cases l with
        | nil => exact absurd rfl hn.1
        | cons a r => rfl
      · rw [List.getElem?_set_ne q]
    rw [this]
    exact h.hd
theorem Lots.len {j : Nat} {ls : List (List Int)} (h : Lots j ls) : ls.length ≤ j := by
  have h1 := h.fl.length_eq
  rw [ri_len] at h1
  have h2 : ∀ ls : List (List Int), (∀ l ∈ ls, l ≠ []) → ls.length ≤ ls.flatten.length := by
    intro ls
    induction ls with
    | nil => intro _; simp
    | cons a r ih =>
      intro hn
      rw [List.length_cons, List.flatten_cons, List.length_append]
      have := ih fun l q => hn l (List.mem_cons_of_mem _ q)
      have : a.length ≠ 0 := by
        have := hn a List.mem_cons_self
        simpa using this
      omega
  have := h2 ls fun l q => (h.ne l q).1
  omega
theorem Lots.lenL {j : Nat} {ls : List (List Int)} (h : Lots j ls) {l : List Int} (hl : l ∈ ls) : l.length ≤ j := by
  have h1 := h.fl.length_eq
  rw [ri_len] at h1
  have h2 : ∀ ls : List (List Int), l ∈ ls → l.length ≤ ls.flatten.length := by
    intro ls
    induction ls with
    | nil => intro q; cases q
    | cons a r ih =>
      intro q
      rw [List.flatten_cons, List.length_append]
      rcases List.mem_cons.mp q with q | q
      · rw [q]; omega
      · have := ih q; omega
  have := h2 ls hl
  omega
end Ev
namespace Ev
open PySem L2
theorem tupI_one {l : List Int} (h : l ≠ []) : tupI (tupOf l) = some l := by
  unfold tupI tupOf
  cases l with
  | nil => exact absurd rfl h
  | cons a r =>
    simp only [List.map_cons, List.isEmpty_cons, Bool.false_eq_true, if_false]
    exact mapM_ints (a :: r)
theorem mapM_tupL : ∀ {L : List (List Int)}, (∀ l ∈ L, l ≠ []) → (L.map tupOf).mapM tupI = some L
  | [], _ => rfl
  | l :: r, h => by
    rw [List.map_cons, List.mapM_cons, tupI_one (h l List.mem_cons_self), mapM_tupL fun l q => h l (List.mem_cons_of_mem _ q)]
    rfl
theorem sorted_tups {L : List (List Int)} (h : ∀ l ∈ L, l ≠ []) : biD .sorted [.list (L.map tupOf)] = some (.fresh (.list ((sortL L).map tupOf))) := by
  cases L with
  | nil => rfl
  | cons l r =>
    have h1 : ((l :: r).map tupOf).mapM intD = none := by rw [List.map_cons, List.mapM_cons]; rfl
    simp only [biD, items, Option.bind_some, h1, mapM_tupL h, Option.map_some]
end Ev

set_option Elab.async false
set_option linter.all false
set_option maxHeartbeats 4000000
set_option maxRecDepth 100000
/-! patterns in orders: plain facts -/
namespace Ev
open PySem L2
def gN (xs : List Int) (j : Nat) : Int := (xs[j]?).getD 0
def gI (xs : List Int) (i : Int) : Int := gN xs i.toNat
theorem gN_at {xs : List Int} {j : Nat} (h : j < xs.length) : xs[j]? = some (gN xs j) := by
  unfold gN
  rw [List.getElem?_eq_getElem h]
  rfl
theorem at_gI {xs : List Int} {i : Int} (h0 : 0 ≤ i) (h1 : i < xs.length) : atI (I xs) i = some (.int (gI xs i)) := atI_int h0 (gN_at (by omega))
/-- the things of some places and of one more compare as the pattern's -/
def compat (os ps L : List Int) (p : Int) : Bool := (List.range L.length).all fun j => decide (gI os (gN L j) < gI os p) == decide (gN ps j < gN ps L.length)
def startOf (L : List Int) : Int := match L.getLast? with
  | none => 0
  | some x => x + 1
def nearD : Option Int → D
  | none => .none
  | some v => .int v
/-- where the program looks for the next place -/
def behind (n m : Nat) (near : Option Int) (L : List Int) : List Int :=
  if near = some ((L.length : Int) - 1) then (if startOf L < n then [startOf L] else [])
  else ri (startOf L) ((n : Int) - ((m : Int) - L.length - 1) - startOf L).toNat
/-- .. and where the law does -/
def lEnd (n : Nat) (near : Option Int) (k : Nat) (s : Int) : Int := if near = some ((k : Int) - 1) then (if (n : Int) < s + 1 then (n : Int) else s + 1) else n
def lBehind (n : Nat) (near : Option Int) (k : Nat) (L : List Int) : List Int := ri (startOf L) (lEnd n near k (startOf L) - startOf L).toNat
def pStep (os ps : List Int) (near : Option Int) (L : List Int) : List (List Int) := ((behind os.length ps.length near L).filter (compat os ps L)).map fun p => L ++ [p]
def lStep (os ps : List Int) (near : Option Int) (k : Nat) (L : List Int) : List (List Int) := ((lBehind os.length near k L).filter (compat os ps L)).map fun p => L ++ [p]
def pAll (os ps : List Int) (near : Option Int) : Nat → List (List Int)
  | 0 => [[]]
  | k + 1 => (pAll os ps near k).flatMap (pStep os ps near)
def lAll (os ps : List Int) (near : Option Int) : Nat → List (List Int)
  | 0 => [[]]
  | k + 1 => (lAll os ps near k).flatMap (lStep os ps near k)
def showsB (os ps : List Int) (near : Option Int) : Bool := decide (lAll os ps near ps.length ≠ [])
theorem startOf_snoc {L : List Int} {p : Int} : startOf (L ++ [p]) = p + 1 := by
  unfold startOf
  rw [List.getLast?_append]
  rfl
theorem startOf_nil : startOf [] = 0 := rfl
/-- places that ascend within an order -/
inductive Asc (n : Nat) : List Int → Prop
  | nil : Asc n []
  | snoc {L : List Int} {p : Int} : Asc n L → startOf L ≤ p → p < n → Asc n (L ++ [p])
theorem Asc.start {n : Nat} {L : List Int} (h : Asc n L) : 0 ≤ startOf L ∧ startOf L ≤ n := by
  induction h with
  | nil => rw [startOf_nil]; omega
  | snoc _ h1 h2 ih => rw [startOf_snoc]; omega
theorem Asc.mem {n : Nat} {L : List Int} (h : Asc n L) : ∀ x ∈ L, 0 ≤ x ∧ x < n := by
  induction h with
  | nil => intro x hx; cases hx
  | snoc h0 h1 h2 ih =>
    intro x hx
    rcases List.mem_append.mp hx with hx | hx
    · exact ih x hx
    · rw [List.mem_singleton] at hx
      have := h0.start
      omega
theorem lBehind_mem {n : Nat} {near : Option Int} {k : Nat} {L : List Int} {p : Int} : p ∈ lBehind n near k L ↔ startOf L ≤ p ∧ p < n ∧ (near = some ((k : Int) - 1) → p = startOf L) := by
  unfold lBehind lEnd
  rw [ri_mem]
  by_cases h : near = some ((k : Int) - 1)
  · rw [if_pos h]
    split
    · constructor
      · intro q; exact ⟨by omega, by omega, fun _ => by omega⟩
      · rintro ⟨q1, q2, q3⟩; have := q3 h; omega
    · constructor
      · intro q; exact ⟨by omega, by omega, fun _ => by omega⟩
      · rintro ⟨q1, q2, q3⟩; have := q3 h; omega
  · rw [if_neg h]
    constructor
    · intro q; exact ⟨by omega, by omega, fun z => absurd z h⟩
    · rintro ⟨q1, q2, q3⟩; omega
theorem lStep_mem {os ps : List Int} {near : Option Int} {k : Nat} {L M : List Int} : M ∈ lStep os ps near k L ↔ ∃ p, M = L ++ [p] ∧ startOf L ≤ p ∧ p < os.length ∧ (near = some ((k : Int) - 1) → p = startOf L) ∧ compat os ps L p = true := by
  unfold lStep
  rw [List.mem_map]
  constructor
  · rintro ⟨p, hp, rfl⟩
    rw [List.mem_filter, lBehind_mem] at hp
    exact ⟨p, rfl, hp.1.1, hp.1.2.1, hp.1.2.2, hp.2⟩
  · rintro ⟨p, rfl, h1, h2, h3, h4⟩
    exact ⟨p, List.mem_filter.mpr ⟨lBehind_mem.mpr ⟨h1, h2, h3⟩, h4⟩, rfl⟩
theorem lAll_ok {os ps : List Int} {near : Option Int} : ∀ {k : Nat} {L : List Int}, L ∈ lAll os ps near k → L.length = k ∧ Asc os.length L
  | 0, L, h => by
    unfold lAll at h
    rw [List.mem_singleton] at h
    subst h
    exact ⟨rfl, .nil⟩
  | k + 1, L, h => by
    unfold lAll at h
    obtain ⟨M, hM, h⟩ := List.mem_flatMap.mp h
    obtain ⟨p, rfl, h1, h2, _, _⟩ := lStep_mem.mp h
    obtain ⟨q1, q2⟩ := lAll_ok hM
    exact ⟨by simp [q1], q2.snoc h1 h2⟩
theorem behind_mem {n m : Nat} {near : Option Int} {L : List Int} {p : Int} (hm : L.length < m) (h : p ∈ behind n m near L) : p ∈ lBehind n near L.length L := by
  rw [lBehind_mem]
  unfold behind at h
  by_cases q : near = some ((L.length : Int) - 1)
  · rw [if_pos q] at h
    split at h
    · rw [List.mem_singleton] at h
      subst h
      exact ⟨Int.le_refl _, by omega, fun _ => rfl⟩
    · cases h
  · rw [if_neg q, ri_mem] at h
    exact ⟨h.1, by omega, fun z => absurd z q⟩
theorem pStep_sub {os ps : List Int} {near : Option Int} {L M : List Int} (hm : L.length < ps.length) (h : M ∈ pStep os ps near L) : M ∈ lStep os ps near L.length L := by
  unfold pStep at h
  unfold lStep
  obtain ⟨p, hp, rfl⟩ := List.mem_map.mp h
  rw [List.mem_filter] at hp
  exact List.mem_map.mpr ⟨p, List.mem_filter.mpr ⟨behind_mem hm hp.1, hp.2⟩, rfl⟩
theorem pAll_sub {os ps : List Int} {near : Option Int} : ∀ {k : Nat} {L : List Int}, k ≤ ps.length → L ∈ pAll os ps near k → L ∈ lAll os ps near k
  | 0, L, _, h => h
  | k + 1, L, hk, h => by
    unfold pAll at h
    unfold lAll
    obtain ⟨M, hM, h⟩ := List.mem_flatMap.mp h
    have hM' := pAll_sub (by omega) hM
    have hl := (lAll_ok hM').1
    refine List.mem_flatMap.mpr ⟨M, hM', ?_⟩
    have := pStep_sub (by omega) h
    rw [hl] at this
    exact this
/-- places that leave room for the rest of the pattern -/
theorem lAll_sub {os ps : List Int} {near : Option Int} : ∀ {k : Nat} {L : List Int}, k ≤ ps.length → L ∈ lAll os ps near k → startOf L + (ps.length - k : Nat) ≤ os.length → L ∈ pAll os ps near k
  | 0, L, _, h, _ => h
  | k + 1, L, hk, h, hr => by
    unfold lAll at h
    unfold pAll
    obtain ⟨M, hM, h⟩ := List.mem_flatMap.mp h
    obtain ⟨hl, ha⟩ := lAll_ok hM
    obtain ⟨p, rfl, h1, h2, h3, h4⟩ := lStep_mem.mp h
    rw [startOf_snoc] at hr
    have hM' := lAll_sub (by omega) hM (by omega)
    refine List.mem_flatMap.mpr ⟨M, hM', ?_⟩
    unfold pStep
    refine List.mem_map.mpr ⟨p, List.mem_filter.mpr ⟨?_, h4⟩, rfl⟩
    unfold behind
    rw [hl]
    by_cases q : near = some ((k : Int) - 1)
    · rw [if_pos q, if_pos (by have := h3 q; omega), h3 q]
      exact List.mem_singleton.mpr rfl
    · rw [if_neg q, ri_mem]
      omega
theorem shown_eq (os ps : List Int) (near : Option Int) : decide (pAll os ps near ps.length ≠ []) = showsB os ps near := by
  unfold showsB
  by_cases h : lAll os ps near ps.length = []
  · have : pAll os ps near ps.length = [] := by
      cases q : pAll os ps near ps.length with
      | nil => rfl
      | cons L r =>
        have := pAll_sub (Nat.le_refl _) (show L ∈ pAll os ps near ps.length by rw [q]; exact List.mem_cons_self)
        rw [h] at this
        cases this
    rw [h, this]
  · have : pAll os ps near ps.length ≠ [] := by
      intro z
      cases q : lAll os ps near ps.length with
      | nil => exact h q
      | cons L r =>
        have hL : L ∈ lAll os ps near ps.length := by rw [q]; exact List.mem_cons_self
        have := lAll_sub (Nat.le_refl _) hL (by have := (lAll_ok hL).2.start; omega)
        rw [z] at this
        cases this
    rw [decide_eq_true this, decide_eq_true h]
/-- a bar without near is shown the sooner -/
theorem lAll_less {os ps : List Int} {near : Option Int} : ∀ {k : Nat} {L : List Int}, L ∈ lAll os ps near k → L ∈ lAll os ps none k
  | 0, L, h => h
  | k + 1, L, h => by
    unfold lAll at h ⊢
    obtain ⟨M, hM, h⟩ := List.mem_flatMap.mp h
    obtain ⟨p, rfl, h1, h2, h3, h4⟩ := lStep_mem.mp h
    exact List.mem_flatMap.mpr ⟨M, lAll_less hM, lStep_mem.mpr ⟨p, rfl, h1, h2, (fun z => nomatch z), h4⟩⟩
theorem shows_less {os ps : List Int} {near : Option Int} (h : showsB os ps near = true) : showsB os ps none = true := by
  unfold showsB at h ⊢
  refine decide_eq_true fun z => of_decide_eq_true h ?_
  cases q : lAll os ps near ps.length with
  | nil => rfl
  | cons L r =>
    have := lAll_less (show L ∈ lAll os ps near ps.length by rw [q]; exact List.mem_cons_self)
    rw [z] at this
    cases this
/-! how many they are -/
theorem flat_len {α β : Type} {f : α → List β} {n : Nat} : ∀ {xs : List α}, (∀ x ∈ xs, (f x).length ≤ n) → (xs.flatMap f).length ≤ xs.length * n
  | [], _ => by simp
  | x :: r, h => by
    rw [List.flatMap_cons, List.length_append, List.length_cons, Nat.succ_mul]
    have h1 := h x List.mem_cons_self
    have h2 := flat_len (xs := r) fun y hy => h y (List.mem_cons_of_mem _ hy)
    omega
theorem lStep_len {os ps : List Int} {near : Option Int} {k : Nat} {L : List Int} (h : Asc os.length L) : (lStep os ps near k L).length ≤ os.length := by
  unfold lStep
  rw [List.length_map]
  refine Nat.le_trans (List.length_filter_le _ _) ?_
  unfold lBehind lEnd
  rw [ri_len]
  have := h.start
  split
  · split <;> omega
  · omega
theorem pStep_len {os ps : List Int} {near : Option Int} {L : List Int} (h : Asc os.length L) (hm : L.length < ps.length) : (pStep os ps near L).length ≤ os.length + 1 := by
  unfold pStep
  rw [List.length_map]
  refine Nat.le_trans (List.length_filter_le _ _) ?_
  unfold behind
  have := h.start
  split
  · split
    · simp
    · simp
  · rw [ri_len]
    omega
theorem lAll_len {os ps : List Int} {near : Option Int} : ∀ k : Nat, (lAll os ps near k).length ≤ (os.length + 1) ^ k
  | 0 => by simp [lAll]
  | k + 1 => by
    unfold lAll
    have h1 := flat_len (n := os.length + 1) (f := lStep os ps near k) (xs := lAll os ps near k) fun L hL => Nat.le_succ_of_le (lStep_len (lAll_ok hL).2)
    have h2 := Nat.mul_le_mul_right (os.length + 1) (lAll_len (os := os) (ps := ps) (near := near) k)
    rw [Nat.pow_succ]
    omega
theorem pAll_len {os ps : List Int} {near : Option Int} : ∀ k : Nat, k ≤ ps.length → (pAll os ps near k).length ≤ (os.length + 1) ^ k
  | 0, _ => by simp [pAll]
  | k + 1, hk => by
    unfold pAll
    have h1 := flat_len (n := os.length + 1) (f := pStep os ps near) (xs := pAll os ps near k) fun L hL => by
      obtain ⟨q1, q2⟩ := lAll_ok (pAll_sub (by omega) hL)
      exact pStep_len q2 (by omega)
    have h2 := Nat.mul_le_mul_right (os.length + 1) (pAll_len (os := os) (ps := ps) (near := near) k (by omega))
    rw [Nat.pow_succ]
    omega
/-- what may stand behind a pattern -/
def nearOk (m : Nat) : D → Bool
  | .none => true
  | .int v => decide (0 ≤ v) && decide (v < (m : Int) - 1)
  | _ => false
def bD (ps : List Int) (near : Option Int) : D := .tuple [.tuple (I ps), nearD near]
/-- a bar as it is drawn -/
def Bar (ps : List Int) (near : Option Int) : Prop := Ord ps.length ps ∧ 2 ≤ ps.length ∧ ps.length ≤ 5 ∧ nearOk ps.length (nearD near) = true
/-- the greatest thing stands at neither end -/
def Mid (ps : List Int) : Prop := ∃ p, 1 ≤ p ∧ p + 2 ≤ ps.length ∧ ps[p]? = some (ps.length : Int)
theorem putAt_at {p : Nat} {x : Int} {os : List Int} (h : p ≤ os.length) : (putAt p x os)[p]? = some x := by
  unfold putAt
  rw [List.append_assoc, List.getElem?_append_right (by rw [List.length_take]; omega)]
  rw [List.length_take, Nat.min_eq_left h, Nat.sub_self]
  rfl
end Ev

set_option Elab.async false
set_option linter.all false
set_option maxHeartbeats 4000000
set_option maxRecDepth 100000
/-! sayings; comprehensions whose parts change the frame -/
namespace Ev
open PySem L2
theorem lcLoop_at {cf : CF} {i : Nat} {elt : Ex} (P : Nat → List D → Fm → Prop) : ∀ (ds acc : List D) (j : Nat) (e : Fm), P j acc e →
    (∀ (m : Nat) (d : D), ds[m]? = some d → ∀ acc e, P (j + m) acc e → e[i]? = some .un ∧ ∃ y e' e'', tk (evE cf elt) (e.set i (.val d)) = .ok y e' ∧ wipeF e' [i] = some e'' ∧ P (j + m + 1) (acc ++ [y]) e'') →
    ∃ ys e2, lcLoop (turnM (.nm i) (evFs cf .nil) (tk (evE cf elt))) [i] ds acc e = .ok ys e2 ∧ P (j + ds.length) ys e2
  | [], acc, j, e, h, _ => ⟨acc, e, rfl, h⟩
  | d :: ds, acc, j, e, h, hs => by
    obtain ⟨hu, y, e', e'', h1, h2, h3⟩ := hs 0 d rfl acc e h
    have hb : bindTg (.nm i) d e = some (e.set i (.val d)) := setV_nl hu rfl
    have ht : turnM (.nm i) (evFs cf .nil) (tk (evE cf elt)) d e = .ok (some y) e' := by
      simp only [turnM, hb, evFs, M.pure, M.bind, if_true, M.map, h1]
    obtain ⟨ys, e2, q1, q2⟩ := lcLoop_at P ds (acc ++ [y]) (j + 1) e'' h3 fun m d' hm acc e pe => by
      have := hs (m + 1) d' (by simpa using hm) acc e (by rw [show j + (m + 1) = j + 1 + m by omega]; exact pe)
      rw [show j + (m + 1) = j + 1 + m by omega] at this
      exact this
    exact ⟨ys, e2, by simp only [lcLoop, ht, h2, q1], by rw [List.length_cons, show j + (ds.length + 1) = j + 1 + ds.length by omega]; exact q2⟩
theorem comp_at {cf : CF} {i : Nat} {elt : Ex} {it : Itr} {e e1 : Fm} {ds : List D} {s : Slot} (P : Nat → List D → Fm → Prop) (hit : evI cf it e = .ok ds e1) (hs : e1[i]? = some s) (hp : Pl s) (h0 : P 0 [] (e1.set i .un))
    (hstep : ∀ (m : Nat) (d : D), ds[m]? = some d → ∀ acc e, P m acc e → e[i]? = some .un ∧ ∃ y e' e'', tk (evE cf elt) (e.set i (.val d)) = .ok y e' ∧ wipeF e' [i] = some e'' ∧ P (m + 1) (acc ++ [y]) e'') :
    ∃ ys e2, evE cf (.comp [i] elt (.nm i) it .nil) e = .ok (.fresh (.list ys)) (e2.set i s) ∧ P ds.length ys e2 := by
  obtain ⟨ys, e2, q1, q2⟩ := lcLoop_at (cf := cf) (i := i) (elt := elt) P ds [] 0 _ h0 fun m d hm acc e pe => by
    rw [Nat.zero_add] at pe ⊢
    exact hstep m d hm acc e pe
  rw [Nat.zero_add] at q2
  refine ⟨ys, e2, ?_, q2⟩
  have hw : wipeF e1 [i] = some (e1.set i .un) := by
    simp only [wipeF, Option.bind_some, hs]
    rcases hp with rfl | ⟨d, rfl⟩ <;> rfl
  have hb : backF e1 e2 [i] = e2.set i s := by simp only [backF, hs, Option.getD_some]
  show compM [i] (.nm i) (evI cf it) (evFs cf .nil) (tk (evE cf elt)) e = _
  simp only [compM, M.bind, hit, hw, q1, hb]
/-! ### where a thing stands -/
theorem findIx_int {x : Int} : ∀ {ns : List Int}, x ∈ ns → findIx (.int x) (I ns) = some (ns.idxOf x)
  | [], h => by cases h
  | n :: r, h => by
    unfold I
    rw [List.map_cons]
    unfold findIx
    rw [PyData.eqv, List.idxOf_cons]
    by_cases q : n = x
    · subst q; simp
    · have hr : x ∈ r := by
        rcases List.mem_cons.mp h with h | h
        · exact absurd h.symm q
        · exact h
      have := findIx_int hr
      unfold I at this
      rw [this]
      have hb : (n == x) = false := beq_eq_false_iff_ne.mpr q
      rw [hb]
      simp
theorem index_tup {ns : List Int} {x : Int} (h : x ∈ ns) : mtD .index (.tuple (I ns)) [.int x] = some (.val (.int (ns.idxOf x : Nat))) := by
  have hx : SeqAt.shaped (.int x) = true := rfl
  simp only [mtD]
  rw [sh_tup, hx, Bool.and_self, if_pos rfl, findIx_int h]
  rfl
theorem idx_at {ns : List Int} {x : Int} {p : Nat} (hn : ns.Nodup) (h : ns[p]? = some x) : ns.idxOf x = p := by
  obtain ⟨hp, h⟩ := List.getElem?_eq_some_iff.mp h
  have hx : x ∈ ns := by rw [← h]; exact List.getElem_mem hp
  have h2 := List.idxOf_lt_length_of_mem hx
  have h3 : ns[ns.idxOf x] = x := List.getElem_idxOf h2
  have pw := List.pairwise_iff_getElem.mp hn
  rcases Nat.lt_trichotomy (ns.idxOf x) p with q | q | q
  · exact absurd (h3.trans h.symm) (pw _ _ h2 hp q)
  · exact q
  · exact absurd (h.trans h3.symm) (pw _ _ hp h2 q)
/-! ### sayings -/
inductive Say where
  | lst (bs : List (List Int × Option Int)) | node (w : Bool) (a b : Say)
def wD (w : Bool) : Str := if w then "both" else "either"
def sD : Say → D
  | .lst bs => .tuple [.str "list", .tuple (bs.map fun b => bD b.1 b.2)]
  | .node w a b => .tuple [.str (wD w), sD a, sD b]
def SGood : Say → Prop
  | .lst bs => (∀ b ∈ bs, Bar b.1 b.2) ∧ bs.length ≤ 100
  | .node _ a b => SGood a ∧ SGood b
def dp : Say → Nat
  | .lst _ => 1
  | .node _ a b => max (dp a) (dp b) + 1
def meansB (os : List Int) : Say → Bool
  | .lst bs => !(bs.any fun b => showsB os b.1 b.2)
  | .node w a b => if w then meansB os a && meansB os b else meansB os a || meansB os b
def isList : Say → Bool
  | .lst _ => true
  | .node _ _ _ => false
end Ev

set_option Elab.async false
set_option linter.all false
set_option maxHeartbeats 4000000
set_option maxRecDepth 100000
/-! texts of numbers, orders, bars -/
namespace Ev
open PySem L2
theorem sapp_len (a b : Str) : (a ++ b).length = a.length + b.length := by
  show (a.cps ++ b.cps).size = _
  exact Array.size_append
theorem sapp_assoc (a b c : Str) : a ++ b ++ c = a ++ (b ++ c) := by
  show (⟨a.cps ++ b.cps ++ c.cps⟩ : Str) = ⟨a.cps ++ (b.cps ++ c.cps)⟩
  rw [Array.append_assoc]
theorem sapp_nil (a : Str) : Str.empty ++ a = a := by
  show (⟨#[] ++ a.cps⟩ : Str) = a
  simp
theorem sapp_nil2 (a : Str) : a ++ Str.empty = a := by
  show (⟨a.cps ++ #[]⟩ : Str) = a
  simp
theorem str_nil : ("" : Str) = Str.empty := by decide +kernel
theorem ok_app {a b : Str} (h1 : PyData.strOk a = true) (h2 : PyData.strOk b = true) : PyData.strOk (a ++ b) = true := by
  unfold PyData.strOk at h1 h2 ⊢
  show (a.cps ++ b.cps).all _ = true
  rw [Array.all_append, h1, h2]
  rfl
theorem ok_nS (i : Int) : PyData.strOk (nS i) = true := by
  unfold PyData.strOk nS
  rw [← Array.all_toList, List.all_eq_true]
  intro c hc
  refine decide_eq_true ?_
  by_cases h : c < 1114112
  · exact h
  · exact absurd hc (PyProof.Rows.int_text_free' c ⟨by omega, by omega⟩ i)
theorem len_nS {i : Int} (h0 : -10000000000 < i) (h1 : i < 10000000000) : (nS i).length ≤ 11 := by
  show (Str.ofString (toString i)).length ≤ 11
  by_cases h : 0 ≤ i
  · have := PyProof.Rows.toString_length_le h (k := 10) (by decide) (by omega)
    exact (by omega)
  · rw [PyProof.Rows.len_text_neg (by omega)]
    have := PyProof.Rows.toString_length_le (v := 0 - i) (by omega) (k := 10) (by decide) (by omega)
    omega
theorem log_nS {i : Int} (h0 : -10000000000 < i) (h1 : i < 10000000000) : i.natAbs.log2 < 1920 := Nat.lt_trans (lg i (by omega) (by omega)) (by decide)
/-! ### joins -/
theorem join_nil (y : Str) : Txt.join y [] = Str.empty := by rw [TL.join_eq]; rfl
theorem join_one (y a : Str) : Txt.join y [a] = a := by rw [TL.join_eq]; rfl
theorem join_cons (y a b : Str) (r : List Str) : Txt.join y (a :: b :: r) = a ++ y ++ Txt.join y (b :: r) := by rw [TL.join_eq, TL.join_eq]; rfl
theorem join_snoc (y x : Str) : ∀ l : List Str, l ≠ [] → Txt.join y (l ++ [x]) = Txt.join y l ++ y ++ x
  | [], h => absurd rfl h
  | [a], _ => by rw [List.singleton_append, join_cons, join_one, join_one]
  | a :: b :: r, _ => by
    rw [List.cons_append, List.cons_append, join_cons, ← List.cons_append, join_snoc y x (b :: r) (by simp), join_cons]
    simp only [sapp_assoc]
theorem join_len (y : Str) : ∀ l : List Str, (Txt.join y l).length ≤ (l.map (·.length)).sum + l.length * y.length
  | [] => by rw [join_nil]; exact Nat.zero_le _
  | [a] => by rw [join_one]; simp
  | a :: b :: r => by
    have := join_len y (b :: r)
    rw [join_cons, sapp_len, sapp_len]
    simp only [List.map_cons, List.sum_cons, List.length_cons, Nat.add_mul] at this ⊢
    omega
theorem ok_join {y : Str} (hy : PyData.strOk y = true) : ∀ {l : List Str}, (∀ a ∈ l, PyData.strOk a = true) → PyData.strOk (Txt.join y l) = true
  | [], _ => by rw [join_nil]; decide +kernel
  | [a], h => by rw [join_one]; exact h a List.mem_cons_self
  | a :: b :: r, h => by
    rw [join_cons]
    exact ok_app (ok_app (h a List.mem_cons_self) hy) (ok_join hy fun c q => h c (List.mem_cons_of_mem _ q))
theorem sum_le {l : List Nat} {n : Nat} (h : ∀ x ∈ l, x ≤ n) : l.sum ≤ l.length * n := by
  induction l with
  | nil => simp
  | cons a r ih =>
    have h1 := h a List.mem_cons_self
    have h2 := ih fun x q => h x (List.mem_cons_of_mem _ q)
    simp only [List.sum_cons, List.length_cons, Nat.add_mul]
    omega
theorem mapM_strs : ∀ ys : List Str, (strL ys).mapM strD = some ys
  | [] => rfl
  | y :: r => by
    have := mapM_strs r
    unfold strL at this ⊢
    rw [List.map_cons, List.mapM_cons, this]
    rfl
theorem join_op {a : Str} {ys : List Str} {n : Nat} (h : ∀ y ∈ ys, y.length ≤ n) (hz : ys.length * n + ys.length * a.length ≤ 16777216) : smD .join a [.list (strL ys)] = some (.val (.str (Txt.join a ys))) := by
  have h1 : (ys.map (·.length)).sum ≤ ys.length * n := by
    have := sum_le (l := ys.map (·.length)) (n := n) fun x q => by
      obtain ⟨y, hy, rfl⟩ := List.mem_map.mp q
      exact h y hy
    rwa [List.length_map] at this
  simp only [smD, items, Option.bind_some, mapM_strs]
  rw [if_pos (by omega)]
theorem join_len2 {a : Str} {ys : List Str} {n : Nat} (h : ∀ y ∈ ys, y.length ≤ n) : (Txt.join a ys).length ≤ ys.length * n + ys.length * a.length := by
  have h1 : (ys.map (·.length)).sum ≤ ys.length * n := by
    have := sum_le (l := ys.map (·.length)) (n := n) fun x q => by
      obtain ⟨y, hy, rfl⟩ := List.mem_map.mp q
      exact h y hy
    rwa [List.length_map] at this
  have := join_len a ys
  omega
/-! ### orders, bars -/
def oT (os : List Int) : Str := Txt.join " " (os.map nS)
theorem oT_snoc {os : List Int} (x : Int) (h : os ≠ []) : oT (os ++ [x]) = oT os ++ " " ++ nS x := by
  unfold oT
  rw [List.map_append, List.map_cons, List.map_nil, join_snoc _ _ _ (by simpa using h)]
theorem oT_one (x : Int) : oT [x] = nS x := join_one _ _
theorem ok_oT (os : List Int) : PyData.strOk (oT os) = true := ok_join (by decide +kernel) fun a h => by
  obtain ⟨x, _, rfl⟩ := List.mem_map.mp h
  exact ok_nS x
def Sm10 (os : List Int) : Prop := ∀ x ∈ os, -10000000000 < x ∧ x < 10000000000
theorem len_oT {os : List Int} (h : Sm10 os) : (oT os).length ≤ os.length * 12 := by
  have := join_len2 (a := " ") (ys := os.map nS) (n := 11) fun y q => by
    obtain ⟨x, hx, rfl⟩ := List.mem_map.mp q
    exact len_nS (h x hx).1 (h x hx).2
  rw [List.length_map, show ((" " : Str)).length = 1 by decide +kernel] at this
  unfold oT
  omega
def bT (ps : List Int) (near : Option Int) : Str := match near with
  | none => oT ps
  | some i => oT (ps.take (i + 1).toNat) ++ "*" ++ oT (ps.drop (i + 1).toNat)
theorem ok_bT (ps : List Int) (near : Option Int) : PyData.strOk (bT ps near) = true := by
  cases near with
  | none => exact ok_oT _
  | some i => exact ok_app (ok_app (ok_oT _) (by decide +kernel)) (ok_oT _)
theorem len_bT {ps : List Int} {near : Option Int} (h : Sm10 ps) : (bT ps near).length ≤ ps.length * 12 + 1 := by
  cases near with
  | none => have := len_oT h; show (oT ps).length ≤ _; omega
  | some i =>
    have h1 := len_oT (os := ps.take (i + 1).toNat) fun x q => h x (List.mem_of_mem_take q)
    have h2 := len_oT (os := ps.drop (i + 1).toNat) fun x q => h x (List.mem_of_mem_drop q)
    show (oT (ps.take (i + 1).toNat) ++ "*" ++ oT (ps.drop (i + 1).toNat)).length ≤ _
    rw [sapp_len, sapp_len, show (("*" : Str)).length = 1 by decide +kernel]
    have h3 : (ps.take (i + 1).toNat).length + (ps.drop (i + 1).toNat).length = ps.length := by rw [← List.length_append, List.take_append_drop]
    omega
/-- a bar's text, as far as it is put together -/
def bPre (ps : List Int) (near : Option Int) (j : Nat) : Str := match near with
  | none => oT (ps.take j)
  | some i => if j ≤ (i + 1).toNat then oT (ps.take j) else oT (ps.take (i + 1).toNat) ++ "*" ++ oT ((ps.take j).drop (i + 1).toNat)
theorem bPre_zero (ps : List Int) (near : Option Int) : bPre ps near 0 = "" := by
  have h : oT (ps.take 0) = "" := by rw [str_nil]; exact join_nil _
  cases near with
  | none => exact h
  | some i =>
    unfold bPre
    simp only [Nat.zero_le, if_true]
    exact h
theorem bPre_all {ps : List Int} {near : Option Int} (h : nearOk ps.length (nearD near) = true) : bPre ps near ps.length = bT ps near := by
  cases near with
  | none => show oT (ps.take ps.length) = oT ps; rw [List.take_length]
  | some i =>
    simp only [nearD, nearOk, Bool.and_eq_true, decide_eq_true_eq] at h
    show (if ps.length ≤ (i + 1).toNat then _ else _) = _
    rw [if_neg (by omega), List.take_length]
    rfl
theorem take_ne {ps : List Int} {j : Nat} (h0 : 0 < j) (h : j < ps.length) : ps.take j ≠ [] := by
  intro q
  have := congrArg List.length q
  rw [List.length_take, List.length_nil] at this
  omega
theorem bPre_step {ps : List Int} {near : Option Int} {j : Nat} {x : Int} (h : nearOk ps.length (nearD near) = true) (hx : ps[j]? = some x) :
    bPre ps near (j + 1) = bPre ps near j ++ (if 0 < j then (if near = some ((j : Int) - 1) then ("*" : Str) else " ") else "") ++ nS x := by
  obtain ⟨hj, hx'⟩ := List.getElem?_eq_some_iff.mp hx
  have ht : ps.take (j + 1) = ps.take j ++ [x] := by rw [List.take_add_one, hx]; rfl
  have base : oT (ps.take (j + 1)) = oT (ps.take j) ++ (if 0 < j then (" " : Str) else "") ++ nS x := by
    by_cases h0 : 0 < j
    · rw [if_pos h0, ht, oT_snoc x (take_ne h0 hj)]
    · have : j = 0 := by omega
      subst this
      rw [if_neg h0, ht, List.take_zero, List.nil_append, oT_one, show oT [] = Str.empty from join_nil _, str_nil, sapp_nil, sapp_nil]
  cases near with
  | none =>
    show oT (ps.take (j + 1)) = oT (ps.take j) ++ _ ++ _
    rw [base]
    simp
  | some i =>
    simp only [nearD, nearOk, Bool.and_eq_true, decide_eq_true_eq] at h
    show (if j + 1 ≤ (i + 1).toNat then _ else _) = (if j ≤ (i + 1).toNat then _ else _) ++ _ ++ _
    by_cases h1 : j + 1 ≤ (i + 1).toNat
    · rw [if_pos h1, if_pos (by omega), base, if_neg (show ¬ (some i = some ((j : Int) - 1)) by intro q; cases q; omega)]
    · rw [if_neg h1]
      by_cases h2 : j ≤ (i + 1).toNat
      · have e : j = (i + 1).toNat := by omega
        rw [if_pos h2, if_pos (by omega), if_pos (by congr 1; omega), ← e, ht, List.drop_append_of_le_length (by rw [List.length_take]; omega), List.drop_eq_nil_of_le (by rw [List.length_take]; omega), List.nil_append, oT_one]
      · rw [if_neg h2, if_pos (by omega), if_neg (show ¬ (some i = some ((j : Int) - 1)) by intro q; cases q; omega), ht, List.drop_append_of_le_length (by rw [List.length_take]; omega), oT_snoc x (by
          intro q
          have := congrArg List.length q
          rw [List.length_drop, List.length_take, List.length_nil] at this
          omega)]
        simp only [sapp_assoc]
end Ev
namespace Ev
open PySem L2
def fS : D → D
  | .int i => .str (nS i)
  | d => d
theorem map_fS (os : List Int) : (I os).map fS = strL (os.map nS) := by
  unfold I strL
  rw [List.map_map, List.map_map]
  rfl
theorem map_strL {α : Type} (xs : List α) (f : α → D) (g : D → D) (t : α → Str) (h : ∀ x ∈ xs, g (f x) = .str (t x)) : (xs.map f).map g = strL (xs.map t) := by
  unfold strL
  rw [List.map_map, List.map_map]
  exact List.map_congr_left h
end Ev
namespace Ev
open PySem L2
theorem len_bPre {ps : List Int} {near : Option Int} {j : Nat} (h : Sm10 ps) : (bPre ps near j).length ≤ ps.length * 12 + 1 := by
  have hk : ∀ j, (oT (ps.take j)).length ≤ (ps.take j).length * 12 := fun j => len_oT fun x q => h x (List.mem_of_mem_take q)
  have hl : ∀ j, (ps.take j).length ≤ ps.length := fun j => by rw [List.length_take]; omega
  cases near with
  | none =>
    have h1 := hk j
    have h2 := hl j
    show (oT (ps.take j)).length ≤ _
    omega
  | some i =>
    unfold bPre
    simp only
    split
    · have h1 := hk j
      have h2 := hl j
      omega
    · have h1 := hk (i + 1).toNat
      have h2 := len_oT (os := (ps.take j).drop (i + 1).toNat) fun x q => h x (List.mem_of_mem_take (List.mem_of_mem_drop q))
      have h3 := hl j
      rw [sapp_len, sapp_len, show (("*" : Str)).length = 1 by decide +kernel]
      rw [List.length_take] at h1 h3
      rw [List.length_drop, List.length_take] at h2
      omega
end Ev
namespace Ev
open PySem L2
theorem len_nS2 {i : Int} (h0 : 0 ≤ i) (h1 : i < 100) : (nS i).length ≤ 2 := PyProof.Rows.toString_length_le h0 (k := 2) (by decide) (by omega)
theorem len_oT2 {os : List Int} (h : ∀ x ∈ os, 0 ≤ x ∧ x < 100) : (oT os).length ≤ os.length * 3 := by
  have := join_len2 (a := " ") (ys := os.map nS) (n := 2) fun y q => by
    obtain ⟨x, hx, rfl⟩ := List.mem_map.mp q
    exact len_nS2 (h x hx).1 (h x hx).2
  rw [List.length_map, show ((" " : Str)).length = 1 by decide +kernel] at this
  unfold oT
  omega
theorem len_bT2 {ps : List Int} {near : Option Int} (h : ∀ x ∈ ps, 0 ≤ x ∧ x < 100) : (bT ps near).length ≤ ps.length * 3 + 1 := by
  cases near with
  | none => have := len_oT2 h; show (oT ps).length ≤ _; omega
  | some i =>
    have h1 := len_oT2 (os := ps.take (i + 1).toNat) fun x q => h x (List.mem_of_mem_take q)
    have h2 := len_oT2 (os := ps.drop (i + 1).toNat) fun x q => h x (List.mem_of_mem_drop q)
    show (oT (ps.take (i + 1).toNat) ++ "*" ++ oT (ps.drop (i + 1).toNat)).length ≤ _
    rw [sapp_len, sapp_len, show (("*" : Str)).length = 1 by decide +kernel]
    have h3 : (ps.take (i + 1).toNat).length + (ps.drop (i + 1).toNat).length = ps.length := by rw [← List.length_append, List.take_append_drop]
    omega
theorem sh_near (near : Option Int) : PyData.canLay0 (nearD near) = true ∧ PyData.depth (nearD near) = 0 := by cases near <;> exact ⟨rfl, rfl⟩
theorem sh_bD (ps : List Int) (near : Option Int) : PyData.canLay0 (bD ps near) = true ∧ PyData.depth (bD ps near) ≤ 2 := by
  obtain ⟨h1, h2⟩ := lay_ints ps
  obtain ⟨h3, h4⟩ := sh_near near
  unfold bD
  simp only [PyData.canLay0, PyData.canLayAll0, PyData.depth, PyData.depthAll, h1, h2, h3, h4]
  exact ⟨rfl, by decide⟩
theorem sh_bDs : ∀ bs : List (List Int × Option Int), PyData.canLayAll0 (bs.map fun b => bD b.1 b.2) = true ∧ PyData.depthAll (bs.map fun b => bD b.1 b.2) ≤ 2
  | [] => ⟨rfl, by decide⟩
  | b :: r => by
    obtain ⟨h1, h2⟩ := sh_bDs r
    obtain ⟨h3, h4⟩ := sh_bD b.1 b.2
    refine ⟨by simp only [List.map_cons, PyData.canLayAll0, h1, h3]; rfl, ?_⟩
    simp only [List.map_cons, PyData.depthAll]
    omega
theorem eq_bs (bs : List (List Int × Option Int)) : eqG (.tuple (bs.map fun b => bD b.1 b.2)) (.tuple []) = some (decide (bs = [])) := by
  obtain ⟨h1, h2⟩ := sh_bDs bs
  have : SeqAt.shaped (.tuple (bs.map fun b => bD b.1 b.2)) = true := by
    unfold SeqAt.shaped
    rw [PyData.canLay0, h1, PyData.depth, Bool.true_and]
    exact decide_eq_true (by omega)
  unfold eqG
  rw [this, show SeqAt.shaped (.tuple []) = true from rfl, Bool.and_self, if_pos rfl]
  cases bs with
  | nil => rfl
  | cons b r => simp [PyData.eqv, PyData.eqvAll]
end Ev
namespace Ev
open PySem L2
theorem eq_strs {ys : List Str} (h : ∀ y ∈ ys, PyData.strOk y = true) : eqG (.list (strL ys)) (.list []) = some (decide (ys = [])) := by
  have h1 : ∀ ys : List Str, (∀ y ∈ ys, PyData.strOk y = true) → PyData.canLayAll0 (strL ys) = true ∧ PyData.depthAll (strL ys) = 0 := by
    intro ys
    induction ys with
    | nil => intro _; exact ⟨rfl, rfl⟩
    | cons y r ih =>
      intro h
      obtain ⟨h1, h2⟩ := ih fun z q => h z (List.mem_cons_of_mem _ q)
      unfold strL at h1 h2 ⊢
      refine ⟨by simp only [List.map_cons, PyData.canLayAll0, PyData.canLay0, h y List.mem_cons_self, h1]; rfl, ?_⟩
      simp only [List.map_cons, PyData.depthAll, PyData.depth, h2]
      rfl
  obtain ⟨h2, h3⟩ := h1 ys h
  have : SeqAt.shaped (.list (strL ys)) = true := by
    unfold SeqAt.shaped
    rw [PyData.canLay0, h2, PyData.depth, h3]
    rfl
  unfold eqG
  rw [this, show SeqAt.shaped (.list []) = true from rfl, Bool.and_self, if_pos rfl]
  cases ys with
  | nil => rfl
  | cons b r => simp [strL, PyData.eqv, PyData.eqvAll]
theorem strL_map {α : Type} (xs : List α) (f : α → Str) : xs.map (fun x => PyData.str (f x)) = strL (xs.map f) := by unfold strL; rw [List.map_map]; rfl
end Ev

set_option Elab.async false
set_option linter.all false
set_option maxHeartbeats 4000000
set_option maxRecDepth 100000
/-! texts read back -/
namespace Ev
open PySem L2
theorem nS_eq (i : Int) : nS i = Str.ofString (toString i) := rfl
theorem tl_nS {i : Int} (h : 0 ≤ i) : TL.tl (nS i) = TL.numL i.toNat := by
  obtain ⟨n, rfl⟩ := Int.eq_ofNat_of_zero_le h
  exact TL.tl_num n
theorem tl_nSneg {i : Int} (h : i < 0) : TL.tl (nS i) = 45 :: TL.numL (-i).toNat := by
  have e : toString i = "-" ++ toString (0 - i) := PyProof.Rows.toString_neg h
  rw [nS_eq, TL.tl_ofString, e, String.toList_append, List.map_append, ← TL.tl_ofString (toString (0 - i))]
  have := tl_nS (i := 0 - i) (by omega)
  rw [nS_eq] at this
  rw [this, show (0 - i) = -i by omega]
  rfl
theorem nS_signs (i : Int) : ∀ c ∈ TL.tl (nS i), c = 45 ∨ (48 ≤ c ∧ c ≤ 57) := fun c hc => by
  by_cases h : 0 ≤ i
  · rw [tl_nS h] at hc
    exact .inr (TL.numL_digits _ c hc)
  · rw [tl_nSneg (by omega)] at hc
    rcases List.mem_cons.mp hc with q | q
    · exact .inl q
    · exact .inr (TL.numL_digits _ c q)
theorem nS_free {i : Int} {k : Nat} (h : k ≠ 45 ∧ (k < 48 ∨ 57 < k)) : k ∉ TL.tl (nS i) := fun q => by
  have := nS_signs i k q
  omega
theorem nS_free45 {i : Int} (h : 0 ≤ i) : 45 ∉ TL.tl (nS i) := fun q => by
  rw [tl_nS h] at q
  have := TL.numL_digits _ _ q
  omega
theorem nS_ne (i : Int) : TL.tl (nS i) ≠ [] := by
  by_cases h : 0 ≤ i
  · rw [tl_nS h]; exact TL.numL_ne _
  · rw [tl_nSneg (by omega)]; simp
theorem int_nS {i : Int} (h0 : -10000000000 < i) (h1 : i < 10000000000) : PySem.intText? (nS i) = some i := by
  have hl := len_nS h0 h1
  by_cases h : 0 ≤ i
  · have e := tl_nS h
    rw [PySem.intText_digits (x := nS i) (by rw [show (nS i).cps.toList = TL.tl (nS i) from rfl, e]; exact TL.numL_digits _) (by rw [show (nS i).cps.toList = TL.tl (nS i) from rfl, e]; exact TL.numL_ne _) (by omega)]
    rw [show (nS i).cps.toList = TL.tl (nS i) from rfl, e, TL.numL_val]
    exact congrArg some (Int.toNat_of_nonneg h)
  · have e := tl_nSneg (i := i) (by omega)
    rw [PySem.intText_neg (x := nS i) e (TL.numL_digits _) (TL.numL_ne _) (by omega), TL.numL_val]
    congr 1
    omega
/-! slices, the first sign -/
theorem cut_from (z : Str) (a : Nat) : TL.tl (cutS z (some (a : Int)) none) = (TL.tl z).drop a := by
  show ((z.cps.toList.drop (HT.sIx z.length 0 (some (a : Int)))).take (HT.sIx z.length z.length none - HT.sIx z.length 0 (some (a : Int)))) = _
  rw [HT.sIx_nat, HT.sIx_none, List.take_of_length_le (by rw [List.length_drop, ← TL.len_tl z]; exact Nat.le_refl _)]
  have hl := TL.len_tl z
  rcases Nat.le_total a z.length with q | q
  · rw [Nat.min_eq_left q]
  · rw [Nat.min_eq_right q, List.drop_of_length_le (by rw [← TL.len_tl z]; exact Nat.le_refl _), List.drop_of_length_le (by rw [← TL.len_tl z]; exact q)]
theorem cut_btw (z : Str) (a b : Nat) (hb : b ≤ z.length) : TL.tl (cutS z (some (a : Int)) (some (b : Int))) = ((TL.tl z).drop a).take (b - a) := by
  show ((z.cps.toList.drop (HT.sIx z.length 0 (some (a : Int)))).take (HT.sIx z.length z.length (some (b : Int)) - HT.sIx z.length 0 (some (a : Int)))) = _
  rw [HT.sIx_nat, HT.sIx_nat, Nat.min_eq_left hb]
  have hl := TL.len_tl z
  rcases Nat.le_total a z.length with q | q
  · rw [Nat.min_eq_left q]
  · rw [Nat.min_eq_right q, show b - z.length = 0 by omega, show b - a = 0 by omega, List.take_zero, List.take_zero]
theorem cut_app {z x : Str} {p r : List Nat} {a b : Int} (hz : TL.tl z = p ++ (TL.tl x ++ r)) (ha : a = p.length) (hb : b = (p.length : Int) + x.length) : cutS z (some a) (some b) = x := by
  refine TL.ext_tl ?_
  have hl := congrArg List.length hz
  have hx := TL.len_tl x
  rw [← TL.len_tl z, List.length_append, List.length_append] at hl
  rw [ha, hb, show (p.length : Int) + x.length = ((p.length + x.length : Nat) : Int) by omega, cut_btw z _ _ (by omega), hz, List.drop_left, show p.length + x.length - p.length = (TL.tl x).length by omega, List.take_left]
theorem cut_rest {z x : Str} {p : List Nat} {a : Int} (hz : TL.tl z = p ++ TL.tl x) (ha : a = p.length) : cutS z (some a) none = x := by
  refine TL.ext_tl ?_
  rw [ha, cut_from, hz, List.drop_left]
theorem starts_one {x y : Str} {s : Nat} (hy : TL.tl y = [s]) : Txt.startswith x y = decide ((TL.tl x).head? = some s) := by
  have hl : y.length = 1 := by rw [TL.len_tl y, hy]; rfl
  have hx := TL.len_tl x
  unfold Txt.startswith
  rw [PySem.StrLaws.subAt_eq, hl, show y.cps.toList = [s] from hy, List.drop_zero]
  change (decide (0 + 1 ≤ x.length) && ((TL.tl x).take 1 == [s])) = _
  cases h : TL.tl x with
  | nil => rw [h] at hx; simp
  | cons c r =>
    rw [h] at hx
    rw [decide_eq_true (by rw [hx, List.length_cons]; omega)]
    rw [List.head?_cons, List.take_succ_cons, List.take_zero]
    by_cases q : c = s
    · subst q; simp
    · simp [q]
theorem starts_nS (i : Int) : Txt.startswith (nS i) "-" = decide (i < 0) := by
  rw [starts_one (s := 45) (by decide +kernel)]
  by_cases h : 0 ≤ i
  · rw [tl_nS h, decide_eq_false (by omega : ¬ i < 0)]
    refine decide_eq_false fun q => ?_
    cases hn : TL.numL i.toNat with
    | nil => exact TL.numL_ne _ hn
    | cons c r =>
      rw [hn] at q
      have := TL.numL_digits i.toNat c (by rw [hn]; exact List.mem_cons_self)
      cases q
      omega
  · rw [tl_nSneg (by omega), decide_eq_true (by omega : i < 0)]
    rfl
theorem digit_in {c : Nat} (h : 48 ≤ c ∧ c ≤ 57) : inS ⟨#[c]⟩ "0123456789" = true := by
  have : c = 48 ∨ c = 49 ∨ c = 50 ∨ c = 51 ∨ c = 52 ∨ c = 53 ∨ c = 54 ∨ c = 55 ∨ c = 56 ∨ c = 57 := by omega
  rcases this with rfl | rfl | rfl | rfl | rfl | rfl | rfl | rfl | rfl | rfl <;> decide +kernel
/-! parts -/
theorem oT_free {os : List Int} {k : Nat} (h : k ≠ 45 ∧ k ≠ 32 ∧ (k < 48 ∨ 57 < k)) : k ∉ TL.tl (oT os) := by
  unfold oT
  rw [TL.join_eq, TL.tl_join]
  have hS : TL.tl (" " : Str) = [32] := by decide +kernel
  rw [hS]
  have : ∀ ps : List (List Nat), (∀ p ∈ ps, k ∉ p) → k ∉ TL.joinL [32] ps := by
    intro ps
    induction ps with
    | nil => intro _; simp [TL.joinL]
    | cons p r ih =>
      intro hp
      cases r with
      | nil => simpa [TL.joinL] using hp
      | cons q r =>
        have h2 := ih fun x hx => hp x (List.mem_cons_of_mem _ hx)
        have h1 := hp p List.mem_cons_self
        intro z
        have z : k ∈ p ++ ([32] ++ TL.joinL [32] (q :: r)) := z
        rcases List.mem_append.mp z with z | z
        · exact h1 z
        · rcases List.mem_append.mp z with z | z
          · exact h.2.1 (List.mem_singleton.mp z)
          · exact h2 z
  refine this _ fun p hp => ?_
  obtain ⟨x, hx, rfl⟩ := List.mem_map.mp hp
  obtain ⟨i, _, rfl⟩ := List.mem_map.mp hx
  exact nS_free ⟨h.1, h.2.2⟩
theorem split_oT {os : List Int} (h : os ≠ []) : Txt.split (oT os) " " = os.map nS := by
  refine TL.split_join (s := 32) (S := []) (by decide +kernel) (by decide +kernel) (by simpa using h) fun p hp => ?_
  obtain ⟨i, _, rfl⟩ := List.mem_map.mp hp
  exact nS_free (by decide)
theorem oT_app {a b : List Int} (ha : a ≠ []) (hb : b ≠ []) : oT a ++ " " ++ oT b = oT (a ++ b) := by
  induction a with
  | nil => exact absurd rfl ha
  | cons x r ih =>
    cases r with
    | nil =>
      cases b with
      | nil => exact absurd rfl hb
      | cons y s =>
        show oT [x] ++ " " ++ _ = _
        rw [oT_one]
        exact (join_cons _ _ _ _).symm
    | cons y s =>
      have h1 : oT (x :: y :: s) = nS x ++ " " ++ oT (y :: s) := join_cons _ _ _ _
      have h2 : oT (x :: y :: s ++ b) = nS x ++ " " ++ oT (y :: s ++ b) := join_cons _ _ _ _
      rw [h1, h2, ← ih (by simp)]
      simp only [sapp_assoc]
/-! finding -/
theorem find_at {x y : Str} {p q r S : List Nat} {s : Nat} (hy : TL.tl y = s :: S) (hx : TL.tl x = p ++ (q ++ (s :: S ++ r))) (hq : s ∉ q) : Txt.find3 x y (p.length : Int) = ((p.length + q.length : Nat) : Int) := by
  have hf : PySem.fromIndex x.length (p.length : Int) = p.length := by
    unfold PySem.fromIndex
    rw [if_neg (by omega)]
    omega
  unfold Txt.find3
  rw [hf]
  have hne : TL.tl y ≠ [] := by rw [hy]; simp
  have hit : PySem.StrLaws.At x y x.length (p.length + q.length) := by
    refine (TL.at_iff hne _).mpr ?_
    rw [hx, hy, ← List.append_assoc, List.drop_left' (by rw [List.length_append])]
    exact TL.pre_self _ _
  have no : ∀ k, p.length ≤ k → k < p.length + q.length → ¬ PySem.StrLaws.At x y x.length k := fun k h1 h2 h3 => by
    have h4 := (TL.at_iff hne k).mp h3
    rw [hx, hy, show k = p.length + (k - p.length) by omega, ← List.drop_drop, List.drop_left] at h4
    have := TL.free_of (S := S) (q := s :: S ++ r) hq (k - p.length) (by omega)
    rw [this] at h4
    cases h4
  rcases PySem.StrLaws.occ_head_from x y p.length 1 (Nat.le_refl _) with ⟨_, h2⟩ | ⟨i, t, h1, h2, h3, h4⟩
  · exact absurd hit (h2 _ (by omega))
  · rw [h1]
    simp only
    have : i = p.length + q.length := by
      rcases Nat.lt_trichotomy i (p.length + q.length) with z | z | z
      · exact absurd h3 (no i h2 z)
      · exact z
      · exact absurd hit (h4 _ (by omega) z)
    rw [this]
end Ev
namespace Ev
open PySem L2
theorem mapM_boolG {α : Type} {G : α → D} {b : Bool} : ∀ {xs : List α}, (∀ x ∈ xs, G x = .bool b) → (xs.map G).mapM boolD = some (xs.map fun _ => b)
  | [], _ => rfl
  | x :: r, h => by
    rw [List.map_cons, List.mapM_cons, h x List.mem_cons_self, mapM_boolG fun y q => h y (List.mem_cons_of_mem _ q)]
    rfl
theorem Bc.allT {α : Type} {xs : List α} {G : α → D} {Q : Opd → Prop} (h : ∀ x ∈ xs, G x = .bool true) (q : Q (.val (.bool true))) : Bc .all [.list (xs.map G)] Q := by
  refine Bc.all (mapM_boolG h) ?_
  rw [show (xs.map fun _ => true).all id = true by simp]
  exact q
theorem Bc.anyF {α : Type} {xs : List α} {G : α → D} {Q : Opd → Prop} (h : ∀ x ∈ xs, G x = .bool false) (q : Q (.val (.bool false))) : Bc .any [.list (xs.map G)] Q := by
  refine Bc.any (mapM_boolG h) ?_
  rw [show (xs.map fun _ => false).any id = false by simp]
  exact q
mutual
theorem eqv_refl0 : ∀ d : D, d.canLay0 = true → PyData.eqv d d = true
  | .none, _ => by simp [PyData.eqv]
  | .bool b, _ => by simp [PyData.eqv]
  | .int i, _ => by simp [PyData.eqv]
  | .str z, _ => by simp [PyData.eqv]
  | .tuple ds, h => by simp only [PyData.eqv]; exact eqvs_refl0 ds (by simpa only [PyData.canLay0] using h)
  | .list ds, h => by simp only [PyData.eqv]; exact eqvs_refl0 ds (by simpa only [PyData.canLay0] using h)
  | .dict kvs, h => by simp only [PyData.canLay0] at h; cases h
theorem eqvs_refl0 : ∀ ds : List D, PyData.canLayAll0 ds = true → PyData.eqvAll ds ds = true
  | [], _ => by simp [PyData.eqvAll]
  | d :: ds, h => by
    simp only [PyData.canLayAll0, Bool.and_eq_true] at h
    simp only [PyData.eqvAll, eqv_refl0 d h.1, eqvs_refl0 ds h.2]
    rfl
end
theorem eq_refl {d : D} (h : SeqAt.shaped d = true) : eqG d d = some true := by
  unfold eqG
  rw [h, Bool.and_self, if_pos rfl]
  unfold SeqAt.shaped at h
  rw [eqv_refl0 d ((Bool.and_eq_true _ _).mp h).1]
end Ev
namespace Ev
open PySem L2
theorem join_free {y : Str} {k : Nat} (hy : k ∉ TL.tl y) : ∀ {ps : List Str}, (∀ p ∈ ps, k ∉ TL.tl p) → k ∉ TL.tl (Txt.join y ps)
  | [], _ => by rw [join_nil]; intro q; cases q
  | [a], h => by rw [join_one]; exact h a List.mem_cons_self
  | a :: b :: r, h => by
    rw [join_cons, TL.tl_append, TL.tl_append]
    intro q
    rcases List.mem_append.mp q with q | q
    · rcases List.mem_append.mp q with q | q
      · exact h a List.mem_cons_self q
      · exact hy q
    · exact join_free hy (fun p z => h p (List.mem_cons_of_mem _ z)) q
theorem nS_free0 {i : Int} {k : Nat} (h : 0 ≤ i) (hk : k < 48 ∨ 57 < k) : k ∉ TL.tl (nS i) := fun q => by
  rw [tl_nS h] at q
  have := TL.numL_digits _ _ q
  omega
theorem oT_free0 {os : List Int} {k : Nat} (h : ∀ x ∈ os, 0 ≤ x) (hk : k ≠ 32 ∧ (k < 48 ∨ 57 < k)) : k ∉ TL.tl (oT os) := by
  refine join_free (by rw [show TL.tl (" " : Str) = [32] by decide +kernel]; simpa using hk.1) fun p hp => ?_
  obtain ⟨x, hx, rfl⟩ := List.mem_map.mp hp
  exact nS_free0 (h x hx) hk.2
theorem bT_free0 {ps : List Int} {near : Option Int} {k : Nat} (h : ∀ x ∈ ps, 0 ≤ x) (hk : k ≠ 32 ∧ k ≠ 42 ∧ (k < 48 ∨ 57 < k)) : k ∉ TL.tl (bT ps near) := by
  cases near with
  | none => exact oT_free0 h ⟨hk.1, hk.2.2⟩
  | some i =>
    show k ∉ TL.tl (oT (ps.take (i + 1).toNat) ++ "*" ++ oT (ps.drop (i + 1).toNat))
    rw [TL.tl_append, TL.tl_append, show TL.tl ("*" : Str) = [42] by decide +kernel]
    intro q
    rcases List.mem_append.mp q with q | q
    · rcases List.mem_append.mp q with q | q
      · exact oT_free0 (fun x z => h x (List.mem_of_mem_take z)) ⟨hk.1, hk.2.2⟩ q
      · exact hk.2.1 (List.mem_singleton.mp q)
    · exact oT_free0 (fun x z => h x (List.mem_of_mem_drop z)) ⟨hk.1, hk.2.2⟩ q
theorem ne_of_free {x y : Str} {k : Nat} (hx : k ∉ TL.tl x) (hy : k ∈ TL.tl y) : (x == y) = false := by
  refine beq_eq_false_iff_ne.mpr fun q => ?_
  rw [q] at hx
  exact hx hy
end Ev

set_option Elab.async false
set_option linter.all false
set_option maxHeartbeats 4000000
set_option maxRecDepth 100000
/-! comprehensions of two fors, items told by lists -/
namespace Ev
open PySem L2
theorem set_sameW {α : Type} {l : List α} {i : Nat} {x : α} (h : l[i]? = some x) : l.set i x = l := by
  apply List.ext_getElem?
  intro j
  by_cases q : i = j
  · subst q
    rw [List.getElem?_set_self (List.getElem?_eq_some_iff.mp h).1, h]
  · rw [List.getElem?_set_ne q]
theorem wipe1W {e : Fm} {i : Nat} {s : Slot} (h : e[i]? = some s) (hp : Pl s) : wipeF e [i] = some (e.set i .un) := by
  simp only [wipeF, Option.bind_some, h]
  rcases hp with rfl | ⟨d, rfl⟩ <;> rfl
theorem lc2_list {α β : Type} {cf : CF} {i j : Nat} {elt : Ex} {it' : Itr} {e : Fm} (F : α → D) (L : α → List β) (G R : α → β → D) (hij : i ≠ j) (hi : e[i]? = some .un) (hj : e[j]? = some .un) : ∀ (xs : List α) (acc : List D),
    (∀ x ∈ xs, evI cf it' (e.set i (.val (F x))) = .ok ((L x).map (G x)) (e.set i (.val (F x))) ∧ ∀ y ∈ L x, tk (evE cf elt) ((e.set i (.val (F x))).set j (.val (G x y))) = .ok (R x y) ((e.set i (.val (F x))).set j (.val (G x y)))) →
    lcLoop2 (turn2 (.nm i) (evFs cf .nil) (innM [j] (.nm j) (evI cf it') (evFs cf .nil) (tk (evE cf elt)))) [i, j] (xs.map F) acc e = .ok (acc ++ xs.flatMap fun x => (L x).map (R x)) e
  | [], acc, _ => by simp [lcLoop2, M.pure]
  | x :: xs, acc, h => by
    obtain ⟨h1, h2⟩ := h x List.mem_cons_self
    have hb : bindTg (.nm i) (F x) e = some (e.set i (.val (F x))) := setV_nl hi rfl
    have hil : i < e.length := (List.getElem?_eq_some_iff.mp hi).1
    have hj1 : (e.set i (.val (F x)))[j]? = some .un := by rw [List.getElem?_set_ne hij]; exact hj
    have hw : wipeF (e.set i (.val (F x))) [j] = some (e.set i (.val (F x))) := by rw [wipe1W hj1 Pl.un, set_sameW hj1]
    have hjl : j < (e.set i (.val (F x))).length := (List.getElem?_eq_some_iff.mp hj1).1
    have hl := lc_list (cf := cf) (own := [j]) (tg := .nm j) (elt := elt) (ifs := .nil) (e0 := e.set i (.val (F x))) (fun _ => true) (G x) (R x) (L x) acc fun y hy => by
      refine ⟨(e.set i (.val (F x))).set j (.val (G x y)), setV_nl hj1 rfl, ?_, WF.nil ⟨rfl, rfl⟩, fun _ => ⟨by rw [h2 y hy]; exact ⟨rfl, rfl⟩⟩⟩
      rw [wipe1W (List.getElem?_set_self hjl) Pl.val, List.set_set, set_sameW hj1]
    rw [List.filter_eq_self.mpr fun _ _ => rfl] at hl
    have ht : turn2 (.nm i) (evFs cf .nil) (innM [j] (.nm j) (evI cf it') (evFs cf .nil) (tk (evE cf elt))) (F x) acc e = .ok (acc ++ (L x).map (R x)) (e.set i (.val (F x))) := by
      simp only [turn2, hb, evFs, M.pure, M.bind, if_true, innM, h1, hw]
      simp only [evFs, M.pure] at hl
      exact hl
    have hw2 : wipeF (e.set i (.val (F x))) [i, j] = some e := by
      have e0 : wipeF (e.set i (.val (F x))) [i, j] = (wipeF (e.set i (.val (F x))) [j]).bind fun e1 => match e1[i]? with | some (.own _ _) => none | _ => some (e1.set i .un) := rfl
      rw [e0, hw]
      show (match (e.set i (.val (F x)))[i]? with | some (.own _ _) => none | _ => some ((e.set i (.val (F x))).set i .un)) = _
      rw [List.getElem?_set_self hil]
      show some _ = _
      rw [List.set_set, set_sameW hi]
    have ih := lc2_list F L G R hij hi hj xs (acc ++ (L x).map (R x)) fun x hx => h x (List.mem_cons_of_mem _ hx)
    rw [List.map_cons]
    simp only [lcLoop2, ht, hw2, ih]
    rw [List.flatMap_cons, List.append_assoc]
theorem rwp_ok {α : Type} {r : R α} {a : α} {e : Fm} (h : rwp r (fun x e1 => x = a ∧ e1 = e) fun _ _ _ => False) : r = .ok a e := by
  cases r with
  | ok x e1 => obtain ⟨rfl, rfl⟩ := h; rfl
  | exc c d e1 => exact h.elim
  | stuck => exact h.elim
theorem WE.comp2L {α β : Type} {cf : CF} {i j : Nat} {elt : Ex} {it it' : Itr} {e : Fm} {X : XP} {Q : Opd → Fm → Prop} (xs : List α) (F : α → D) (L : α → List β) (G R : α → β → D) (hij : i ≠ j) (hi : e[i]? = some .un) (hj : e[j]? = some .un)
    (hit : WI cf it e (fun ds e1 => ds = xs.map F ∧ e1 = e) fun _ _ _ => False)
    (h : ∀ x ∈ xs, ∃ e1, SetAt e i (.val (F x)) e1 ∧ WI cf it' e1 (fun ds e2 => ds = (L x).map (G x) ∧ e2 = e1) (fun _ _ _ => False) ∧ ∀ y ∈ L x, ∃ e2, SetAt e1 j (.val (G x y)) e2 ∧ WD cf elt e2 (fun d e3 => d = R x y ∧ e3 = e2) fun _ _ _ => False)
    (hz : (xs.flatMap fun x => (L x).map (R x)).length ≤ sizeLine)
    (q : Q (.fresh (.list (xs.flatMap fun x => (L x).map (R x)))) e) : WE cf (.comp2 [i, j] [j] elt (.nm i) it .nil (.nm j) it' .nil) e Q X := by
  have hw : wipeF e [i, j] = some e := by
    have e0 : wipeF e [i, j] = (wipeF e [j]).bind fun e1 => match e1[i]? with | some (.own _ _) => none | _ => some (e1.set i .un) := rfl
    rw [e0, wipe1W hj Pl.un, set_sameW hj]
    show (match e[i]? with | some (.own _ _) => none | _ => some (e.set i .un)) = _
    rw [hi]
    show some _ = _
    rw [set_sameW hi]
  have hl := lc2_list (cf := cf) (elt := elt) (it' := it') F L G R hij hi hj xs [] fun x hx => by
    obtain ⟨e1, z1, z2, z3⟩ := h x hx
    have z4 := z1.eq
    subst z4
    refine ⟨rwp_ok z2.run, fun y hy => ?_⟩
    obtain ⟨e2, y1, y2⟩ := z3 y hy
    have y4 := y1.eq
    subst y4
    exact rwp_ok y2.run
  rw [List.nil_append] at hl
  have key : evE cf (.comp2 [i, j] [j] elt (.nm i) it .nil (.nm j) it' .nil) e = .ok (.fresh (.list (xs.flatMap fun x => (L x).map (R x)))) e := by
    show compM2 [i, j] [j] (.nm i) (evI cf it) (evFs cf .nil) (.nm j) (evI cf it') (evFs cf .nil) (tk (evE cf elt)) e = _
    simp only [compM2, M.bind, rwp_ok hit.run, hw, hl]
    rw [if_pos hz]
    have hb : backF e e [i, j] = e := by
      show (((e.set j ((e[j]?).getD .un)).set i ((e[i]?).getD .un))) = e
      rw [hj, hi]
      show (e.set j .un).set i .un = e
      rw [set_sameW hj, set_sameW hi]
    rw [hb]
  exact ⟨by rw [key]; exact q⟩
end Ev

set_option Elab.async false
set_option linter.all false
set_option maxHeartbeats 4000000
set_option maxRecDepth 100000
/-! chains of three, texts parted at a sign with a space ahead -/
namespace Ev
open PySem L2
theorem WE.chain3 {cf : CF} {e : Fm} {X : XP} {o1 o2 o3 : Cop} {a b c d : Ex} {Q : Opd → Fm → Prop} (h : WE cf a e (fun x e1 => WE cf b e1 (fun y e2 => Dp x e2 fun dx => Dp y e2 fun dy => Cm o1 dx dy fun t =>
    (t = true → WE cf c e2 (fun z e3 => Dp y e3 fun dy => Dp z e3 fun dz => Cm o2 dy dz fun t2 =>
      (t2 = true → WE cf d e3 (fun w e4 => Dp z e4 fun dz => Dp w e4 fun dw => Cm o3 dz dw fun t3 => Q (.val (.bool t3)) e4) X) ∧ (t2 = false → Q (.val (.bool false)) e3)) X) ∧ (t = false → Q (.val (.bool false)) e2)) X) X) : WE cf (.chain3 o1 o2 o3 a b c d) e Q X :=
  ⟨by
    simp only [evE]
    refine rwp_bind (rwp_imp h.run (fun x e1 h => rwp_bind (rwp_imp h.run (fun y e2 h => ?_) fun _ _ _ q => q)) fun _ _ _ q => q)
    obtain ⟨dx, h1, ⟨dy, h2, ⟨t, h3, h4⟩⟩⟩ := h.run
    refine rwp_bind ?_
    rw [h1]
    refine rwp_bind ?_
    rw [h2]
    refine rwp_bind ?_
    rw [h3]
    show rwp ((if t = true then _ else _ : M Opd) e2) Q X
    cases t with
    | false => rw [if_neg Bool.false_ne_true]; exact h4.2 rfl
    | true =>
      rw [if_pos rfl]
      refine rwp_bind (rwp_imp (h4.1 rfl).run (fun z e3 h => ?_) fun _ _ _ q => q)
      obtain ⟨dy, h5, ⟨dz, h6, ⟨t2, h7, h8⟩⟩⟩ := h.run
      refine rwp_bind ?_
      rw [h5]
      refine rwp_bind ?_
      rw [h6]
      refine rwp_bind ?_
      rw [h7]
      show rwp ((if t2 = true then _ else _ : M Opd) e3) Q X
      cases t2 with
      | false => rw [if_neg Bool.false_ne_true]; exact h8.2 rfl
      | true =>
        rw [if_pos rfl]
        refine rwp_bind (rwp_imp (h8.1 rfl).run (fun w e4 h => ?_) fun _ _ _ q => q)
        obtain ⟨dz, y5, ⟨dw, y6, ⟨t3, y7, y8⟩⟩⟩ := h.run
        refine rwp_bind ?_
        rw [y5]
        refine rwp_bind ?_
        rw [y6]
        show rwp ((M.opt (Option.map _ (cmpD o3 dz dw)) : M Opd) e4) Q X
        rw [y7]
        exact y8⟩
/-! a separator that begins with a space -/
theorem pre_sl {p : List Nat} (h1 : 47 ∉ p) (h2 : p.getLast? ≠ some 32) (q : List Nat) : ∀ i, i < p.length → TL.pre [32, 47, 32] ((p ++ q).drop i) = false := fun i hi => by
  rw [List.drop_append_of_le_length (by omega)]
  cases hd : p.drop i with
  | nil => exact absurd (congrArg List.length hd) (by rw [List.length_drop, List.length_nil]; omega)
  | cons c r =>
    cases r with
    | nil =>
      refine TL.pre_of_head _ _ fun z => h2 ?_
      have : p = p.take i ++ [c] := by rw [← hd, List.take_append_drop]
      rw [this, List.getLast?_append, z]
      rfl
    | cons d r =>
      have hm : d ∈ p := List.mem_of_mem_drop (by rw [hd]; simp : d ∈ p.drop i)
      have hne : d ≠ 47 := fun z => h1 (z ▸ hm)
      unfold TL.pre
      simp [List.take, hne]
theorem spl_join2 {S : List Nat} (hS : S ≠ []) : ∀ {parts : List (List Nat)}, parts ≠ [] → (∀ p ∈ parts, ∀ q, ∀ i, i < p.length → TL.pre S ((p ++ q).drop i) = false) → TL.spl S 0 [] (TL.joinL S parts) = parts
  | [], h, _ => absurd rfl h
  | [p], _, hp => by
    show TL.spl S 0 [] p = [p]
    rw [TL.spl_last fun i hi => by have := hp p List.mem_cons_self [] i hi; rwa [List.append_nil] at this, List.nil_append]
  | p :: q :: r, _, hp => by
    show TL.spl S 0 [] (p ++ (S ++ TL.joinL S (q :: r))) = p :: q :: r
    rw [TL.spl_part hS (hp p List.mem_cons_self _), List.nil_append, spl_join2 hS (by simp) fun z hz => hp z (List.mem_cons_of_mem _ hz)]
theorem oT_last {os : List Int} (h : os ≠ []) (h0 : ∀ x ∈ os, 0 ≤ x) : (TL.tl (oT os)).getLast? ≠ some 32 := by
  obtain ⟨a, x, rfl⟩ : ∃ a x, os = a ++ [x] := ⟨os.dropLast, os.getLast h, (List.dropLast_concat_getLast h).symm⟩
  have hx := h0 x (by simp)
  have key : ∃ p, TL.tl (oT (a ++ [x])) = p ++ TL.tl (nS x) := by
    by_cases ha : a = []
    · subst ha
      exact ⟨[], by rw [List.nil_append, List.nil_append, oT_one]⟩
    · exact ⟨_, by rw [oT_snoc x ha, TL.tl_append]⟩
  obtain ⟨p, hp⟩ := key
  intro q
  rw [hp, List.getLast?_append, List.getLast?_eq_some_getLast (nS_ne x), Option.some_or] at q
  have := List.getLast_mem (nS_ne x)
  rw [Option.some.inj q] at this
  exact nS_free0 hx (.inl (by decide)) this
theorem split_lots {ls : List (List Int)} (h : ls ≠ []) (hn : ∀ l ∈ ls, l ≠ [] ∧ ∀ x ∈ l, 0 ≤ x) : Txt.split (Txt.join " / " (ls.map oT)) " / " = ls.map oT := by
  refine TL.map_tl_inj ?_
  have ey : TL.tl (" / " : Str) = [32, 47, 32] := by decide +kernel
  rw [TL.split_spl _ _ (by rw [ey]; simp) (TL.kind_ok (by decide +kernel)), TL.join_eq, TL.tl_join, ey]
  refine spl_join2 (by simp) (by simpa using h) fun p hp => ?_
  obtain ⟨z, hz, rfl⟩ := List.mem_map.mp hp
  obtain ⟨l, hl, rfl⟩ := List.mem_map.mp hz
  exact pre_sl (oT_free0 (hn l hl).2 (by decide)) (oT_last (hn l hl).1 (hn l hl).2)
theorem ne_of_has {x y : Str} {k : Nat} (hx : k ∈ TL.tl x) (hy : k ∉ TL.tl y) : (x == y) = false := by
  refine beq_eq_false_iff_ne.mpr fun q => ?_
  rw [q] at hx
  exact hy hx
theorem mem_join {y : Str} {k : Nat} : ∀ {ps : List Str} {p : Str}, p ∈ ps → k ∈ TL.tl p → k ∈ TL.tl (Txt.join y ps)
  | [a], p, h, q => by rw [join_one]; rw [List.mem_singleton.mp h] at q; exact q
  | a :: b :: r, p, h, q => by
    rw [join_cons, TL.tl_append, TL.tl_append]
    rcases List.mem_cons.mp h with rfl | h
    · exact List.mem_append_left _ (List.mem_append_left _ q)
    · exact List.mem_append_right _ (mem_join h q)
theorem tl_join0 (ps : List Str) : TL.tl (Txt.join "" ps) = (ps.map TL.tl).flatten := by
  induction ps with
  | nil => rw [join_nil]; rfl
  | cons a r ih =>
    cases r with
    | nil => rw [join_one]; simp
    | cons b r =>
      rw [join_cons, TL.tl_append, TL.tl_append, ih, show TL.tl ("" : Str) = [] by decide +kernel, List.append_nil, List.map_cons, List.flatten_cons]
      simp
/-- neighbours in an ascending list -/
theorem zip_asc {α : Type} {R : α → α → Prop} : ∀ {l : List α}, l.Pairwise R → ∀ p ∈ l.zip (l.drop 1), R p.1 p.2
  | [], _, p, hp => by cases hp
  | [a], _, p, hp => by simp at hp
  | a :: b :: r, h, p, hp => by
    rw [List.drop_one, List.tail_cons, List.zip_cons_cons] at hp
    have h' := List.pairwise_cons.mp h
    rcases List.mem_cons.mp hp with rfl | hp
    · exact h'.1 b List.mem_cons_self
    · exact zip_asc h'.2 p (by rw [List.drop_one, List.tail_cons]; exact hp)
end Ev

set_option maxRecDepth 1000000
set_option maxRecDepth 1000000
namespace K00
open PySem L2 Ev
def topS (i : Nat) : Stmt := PySem.Challenge.pw_onejumps_k00_errors.main.body.getD i (.Pass ⟨0, 0, 0, 0⟩)
def KS : List Str := [("NotTame" : Str), ("InvalidOrder" : Str), ("InvalidPlace" : Str), ("InvalidJump" : Str), ("InvalidBar" : Str), ("InvalidSaying" : Str), ("InvalidNumber" : Str), ("InvalidPair" : Str), ("InvalidWalk" : Str), ("NotMeant" : Str), ("Unorderly" : Str), ("InvalidKind" : Str), ("InvalidThing" : Str), ("InvalidWeb" : Str), ("InvalidPrices" : Str), ("HasRound" : Str), ("InvalidName" : Str), ("UnknownName" : Str), ("NothingToUndo" : Str), ("Unreadable" : Str), ("JumpError" : Str)]
def f0 : Fn := { nm := ("_law_deck" : Str), ps := [("script" : Str), ("k" : Str)], ns := [("script" : Str), ("k" : Str), ("cell" : Str), ("stir" : Str)], lent := [false, false], kwp := [], body :=
 (.cons (.set 2 (.int 0))
 (.cons (.ite (.cmp .lt (.var 1) (.bi .len (.cons (.var 0) .nil))) (.cons (.set 2 (.idx (.var 0) (.var 1)))
 .nil) .nil)
 (.cons (.set 3 (.bin .mod (.bi .int (.cons (.bin .add (.bin .add (.var 2) (.bin .mul (.int 7919) (.var 1))) (.int 104729)) .nil)) (.int 2305843009213693951)))
 (.cons (.set 3 (.bin .mod (.bi .int (.cons (.bin .add (.bin .add (.bin .mul (.bin .mul (.var 3) (.var 3)) (.var 3)) (.bin .mul (.int 31) (.var 1))) (.int 7)) .nil)) (.int 2305843009213693951)))
 (.cons (.ite (.cmp .lt (.var 2) (.bin .pow (.int 10) (.int 18))) (.cons (.ret (.lst (.cons (.int 0) (.cons (.var 3) .nil))))
 .nil) .nil)
 (.cons (.ret (.lst (.cons (.bin .sub (.var 2) (.bin .pow (.int 10) (.int 18))) (.cons (.var 3) .nil))))
 .nil)))))) }
def f1 : Fn := { nm := ("_law_take" : Str), ps := [("deck" : Str), ("many" : Str)], ns := [("deck" : Str), ("many" : Str), ("taken" : Str)], lent := [true, false], kwp := [], body :=
 (.cons (.ite (.cmp .gt (.idx (.var 0) (.int 0)) (.int 0)) (.cons (.set 2 (.bin .mod (.bi .int (.cons (.idx (.var 0) (.int 0)) .nil)) (.var 1)))
 (.cons (.sto 0 (.int 0) (.bin .fdiv (.idx (.var 0) (.int 0)) (.var 1)))
 (.cons (.ret (.var 2))
 .nil))) .nil)
 (.cons (.sto 0 (.int 1) (.bin .mod (.bi .int (.cons (.bin .add (.bin .mul (.idx (.var 0) (.int 1)) (.int 6364136223846793005)) (.int 1442695040888963407)) .nil)) (.bin .pow (.int 2) (.int 64))))
 (.cons (.ret (.bin .mod (.bin .fdiv (.idx (.var 0) (.int 1)) (.bin .pow (.int 2) (.int 20))) (.var 1)))
 .nil))) }
def f2 : Fn := { nm := ("_law_same" : Str), ps := [("found" : Str), ("due" : Str)], ns := [("found" : Str), ("due" : Str), ("k" : Str)], lent := [false, false], kwp := [], body :=
 (.cons (.ite (.isi (.var 1) [.tuple, .list]) (.cons (.ite (.bop false (.cons (.cmp .ne (.isi (.var 0) [.tuple]) (.isi (.var 1) [.tuple])) (.cons (.cmp .ne (.isi (.var 0) [.list]) (.isi (.var 1) [.list])) .nil))) (.cons (.ret (.bl false))
 .nil) .nil)
 (.cons (.ite (.cmp .ne (.bi .len (.cons (.var 0) .nil)) (.bi .len (.cons (.var 1) .nil))) (.cons (.ret (.bl false))
 .nil) .nil)
 (.cons (.ret (.cmp .eq (.comp [2] (.var 2) (.nm 2) (.r1 (.bi .len (.cons (.var 1) .nil))) (.cons (.not (.call 2 [false, false] (.cons (.idx (.var 0) (.var 2)) (.cons (.idx (.var 1) (.var 2)) .nil)))) .nil)) (.lst .nil)))
 .nil))) .nil)
 (.cons (.ite (.cmp .is (.var 1) .non) (.cons (.ret (.cmp .is (.var 0) .non))
 .nil) .nil)
 (.cons (.ite (.isi (.var 1) [.str]) (.cons (.ret (.bop true (.cons (.isi (.var 0) [.str]) (.cons (.cmp .eq (.var 0) (.var 1)) .nil))))
 .nil) .nil)
 (.cons (.ite (.bop false (.cons (.isi (.var 1) [.bool]) (.cons (.isi (.var 0) [.bool]) .nil))) (.cons (.ret (.bop true (.cons (.isi (.var 1) [.bool]) (.cons (.isi (.var 0) [.bool]) (.cons (.cmp .eq (.var 0) (.var 1)) .nil)))))
 .nil) .nil)
 (.cons (.ret (.bop true (.cons (.isi (.var 0) [.int]) (.cons (.cmp .eq (.var 0) (.var 1)) .nil))))
 .nil))))) }
def f3 : Fn := { nm := ("_law_raise_first" : Str), ps := [("which" : Str), ("given" : Str)], ns := [("which" : Str), ("given" : Str)], lent := [false, false], kwp := [], body :=
 (.cons (.ite (.cmp .eq (.var 0) (.int 0)) (.cons (.throw ("InvalidOrder" : Str) (.var 1))
 .nil) .nil)
 (.cons (.ite (.cmp .eq (.var 0) (.int 1)) (.cons (.throw ("InvalidPlace" : Str) (.var 1))
 .nil) .nil)
 (.cons (.ite (.cmp .eq (.var 0) (.int 2)) (.cons (.throw ("InvalidJump" : Str) (.var 1))
 .nil) .nil)
 (.cons (.ite (.cmp .eq (.var 0) (.int 3)) (.cons (.throw ("InvalidBar" : Str) (.var 1))
 .nil) .nil)
 (.cons (.ite (.cmp .eq (.var 0) (.int 4)) (.cons (.throw ("InvalidSaying" : Str) (.var 1))
 .nil) .nil)
 (.cons (.ite (.cmp .eq (.var 0) (.int 5)) (.cons (.throw ("InvalidNumber" : Str) (.var 1))
 .nil) .nil)
 (.cons (.ite (.cmp .eq (.var 0) (.int 6)) (.cons (.throw ("InvalidPair" : Str) (.var 1))
 .nil) .nil)
 (.cons (.ite (.cmp .eq (.var 0) (.int 7)) (.cons (.throw ("InvalidWalk" : Str) (.var 1))
 .nil) .nil)
 (.cons (.ite (.cmp .eq (.var 0) (.int 8)) (.cons (.throw ("NotMeant" : Str) (.var 1))
 .nil) .nil)
 (.cons (.throw ("NotTame" : Str) (.var 1))
 .nil)))))))))) }
def f4 : Fn := { nm := ("_law_raise_second" : Str), ps := [("which" : Str), ("given" : Str)], ns := [("which" : Str), ("given" : Str)], lent := [false, false], kwp := [], body :=
 (.cons (.ite (.cmp .eq (.var 0) (.int 10)) (.cons (.throw ("InvalidKind" : Str) (.var 1))
 .nil) .nil)
 (.cons (.ite (.cmp .eq (.var 0) (.int 11)) (.cons (.throw ("InvalidThing" : Str) (.var 1))
 .nil) .nil)
 (.cons (.ite (.cmp .eq (.var 0) (.int 12)) (.cons (.throw ("InvalidWeb" : Str) (.var 1))
 .nil) .nil)
 (.cons (.ite (.cmp .eq (.var 0) (.int 13)) (.cons (.throw ("InvalidPrices" : Str) (.var 1))
 .nil) .nil)
 (.cons (.ite (.cmp .eq (.var 0) (.int 14)) (.cons (.throw ("HasRound" : Str) (.var 1))
 .nil) .nil)
 (.cons (.ite (.cmp .eq (.var 0) (.int 15)) (.cons (.throw ("InvalidName" : Str) (.var 1))
 .nil) .nil)
 (.cons (.ite (.cmp .eq (.var 0) (.int 16)) (.cons (.throw ("UnknownName" : Str) (.var 1))
 .nil) .nil)
 (.cons (.ite (.cmp .eq (.var 0) (.int 17)) (.cons (.throw ("NothingToUndo" : Str) (.var 1))
 .nil) .nil)
 (.cons (.ite (.cmp .eq (.var 0) (.int 18)) (.cons (.throw ("Unreadable" : Str) (.var 1))
 .nil) .nil)
 (.cons (.throw ("Unorderly" : Str) (.var 1))
 .nil)))))))))) }
def f5 : Fn := { nm := ("_law_raise_named_first" : Str), ps := [("which" : Str), ("given" : Str)], ns := [("which" : Str), ("given" : Str)], lent := [false, false], kwp := [], body :=
 (.cons (.ite (.cmp .eq (.var 0) (.int 0)) (.cons (.throwK ("InvalidOrder" : Str) (.var 1))
 .nil) .nil)
 (.cons (.ite (.cmp .eq (.var 0) (.int 1)) (.cons (.throwK ("InvalidPlace" : Str) (.var 1))
 .nil) .nil)
 (.cons (.ite (.cmp .eq (.var 0) (.int 2)) (.cons (.throwK ("InvalidJump" : Str) (.var 1))
 .nil) .nil)
 (.cons (.ite (.cmp .eq (.var 0) (.int 3)) (.cons (.throwK ("InvalidBar" : Str) (.var 1))
 .nil) .nil)
 (.cons (.ite (.cmp .eq (.var 0) (.int 4)) (.cons (.throwK ("InvalidSaying" : Str) (.var 1))
 .nil) .nil)
 (.cons (.ite (.cmp .eq (.var 0) (.int 5)) (.cons (.throwK ("InvalidNumber" : Str) (.var 1))
 .nil) .nil)
 (.cons (.ite (.cmp .eq (.var 0) (.int 6)) (.cons (.throwK ("InvalidPair" : Str) (.var 1))
 .nil) .nil)
 (.cons (.ite (.cmp .eq (.var 0) (.int 7)) (.cons (.throwK ("InvalidWalk" : Str) (.var 1))
 .nil) .nil)
 (.cons (.ite (.cmp .eq (.var 0) (.int 8)) (.cons (.throwK ("NotMeant" : Str) (.var 1))
 .nil) .nil)
 (.cons (.throwK ("NotTame" : Str) (.var 1))
 .nil)))))))))) }
def f6 : Fn := { nm := ("_law_raise_named_second" : Str), ps := [("which" : Str), ("given" : Str)], ns := [("which" : Str), ("given" : Str)], lent := [false, false], kwp := [], body :=
 (.cons (.ite (.cmp .eq (.var 0) (.int 10)) (.cons (.throwK ("InvalidKind" : Str) (.var 1))
 .nil) .nil)
 (.cons (.ite (.cmp .eq (.var 0) (.int 11)) (.cons (.throwK ("InvalidThing" : Str) (.var 1))
 .nil) .nil)
 (.cons (.ite (.cmp .eq (.var 0) (.int 12)) (.cons (.throwK ("InvalidWeb" : Str) (.var 1))
 .nil) .nil)
 (.cons (.ite (.cmp .eq (.var 0) (.int 13)) (.cons (.throwK ("InvalidPrices" : Str) (.var 1))
 .nil) .nil)
 (.cons (.ite (.cmp .eq (.var 0) (.int 14)) (.cons (.throwK ("HasRound" : Str) (.var 1))
 .nil) .nil)
 (.cons (.ite (.cmp .eq (.var 0) (.int 15)) (.cons (.throwK ("InvalidName" : Str) (.var 1))
 .nil) .nil)
 (.cons (.ite (.cmp .eq (.var 0) (.int 16)) (.cons (.throwK ("UnknownName" : Str) (.var 1))
 .nil) .nil)
 (.cons (.ite (.cmp .eq (.var 0) (.int 17)) (.cons (.throwK ("NothingToUndo" : Str) (.var 1))
 .nil) .nil)
 (.cons (.ite (.cmp .eq (.var 0) (.int 18)) (.cons (.throwK ("Unreadable" : Str) (.var 1))
 .nil) .nil)
 (.cons (.throwK ("Unorderly" : Str) (.var 1))
 .nil)))))))))) }
def f7 : Fn := { nm := ("_law_raised" : Str), ps := [("which" : Str), ("given" : Str), ("named" : Str)], ns := [("which" : Str), ("given" : Str), ("named" : Str)], lent := [false, false, false], kwp := [], body :=
 (.cons (.ite (.bop true (.cons (.cmp .lt (.var 0) (.int 10)) (.cons (.var 2) .nil))) (.cons (.expr (.call 5 [false, false] (.cons (.var 0) (.cons (.var 1) .nil))))
 .nil) (.cons (.ite (.cmp .lt (.var 0) (.int 10)) (.cons (.expr (.call 3 [false, false] (.cons (.var 0) (.cons (.var 1) .nil))))
 .nil) (.cons (.ite (.var 2) (.cons (.expr (.call 6 [false, false] (.cons (.var 0) (.cons (.var 1) .nil))))
 .nil) (.cons (.expr (.call 4 [false, false] (.cons (.var 0) (.cons (.var 1) .nil))))
 .nil))
 .nil))
 .nil))
 .nil) }
def f8 : Fn := { nm := ("_law_kinds" : Str), ps := [("e" : Str)], ns := [("e" : Str), ("found" : Str)], lent := [false], kwp := [], body :=
 (.cons (.set 1 (.lst (.cons (.isx KS (.var 0) ("InvalidOrder" : Str)) (.cons (.isx KS (.var 0) ("InvalidPlace" : Str)) (.cons (.isx KS (.var 0) ("InvalidJump" : Str)) .nil)))))
 (.cons (.set 1 (.bin .add (.var 1) (.lst (.cons (.isx KS (.var 0) ("InvalidBar" : Str)) (.cons (.isx KS (.var 0) ("InvalidSaying" : Str)) (.cons (.isx KS (.var 0) ("InvalidNumber" : Str)) .nil))))))
 (.cons (.set 1 (.bin .add (.var 1) (.lst (.cons (.isx KS (.var 0) ("InvalidPair" : Str)) (.cons (.isx KS (.var 0) ("InvalidWalk" : Str)) (.cons (.isx KS (.var 0) ("NotMeant" : Str)) .nil))))))
 (.cons (.set 1 (.bin .add (.var 1) (.lst (.cons (.isx KS (.var 0) ("NotTame" : Str)) (.cons (.isx KS (.var 0) ("InvalidKind" : Str)) (.cons (.isx KS (.var 0) ("InvalidThing" : Str)) .nil))))))
 (.cons (.set 1 (.bin .add (.var 1) (.lst (.cons (.isx KS (.var 0) ("InvalidWeb" : Str)) (.cons (.isx KS (.var 0) ("InvalidPrices" : Str)) (.cons (.isx KS (.var 0) ("HasRound" : Str)) .nil))))))
 (.cons (.set 1 (.bin .add (.var 1) (.lst (.cons (.isx KS (.var 0) ("InvalidName" : Str)) (.cons (.isx KS (.var 0) ("UnknownName" : Str)) (.cons (.isx KS (.var 0) ("NothingToUndo" : Str)) .nil))))))
 (.cons (.ret (.bin .add (.var 1) (.lst (.cons (.isx KS (.var 0) ("Unreadable" : Str)) (.cons (.isx KS (.var 0) ("Unorderly" : Str)) .nil)))))
 .nil))))))) }
def f9 : Fn := { nm := ("_law_given" : Str), ps := [("deck" : Str)], ns := [("deck" : Str), ("far" : Str), ("some" : Str)], lent := [true], kwp := [], body :=
 (.cons (.set 1 (.bin .sub (.call 1 [true, false] (.cons (.var 0) (.cons (.bin .pow (.int 10) (.int 30)) .nil))) (.bin .pow (.int 10) (.int 29))))
 (.cons (.set 2 (.lst (.cons (.var 1) (.cons (.call 1 [true, false] (.cons (.var 0) (.cons (.int 9) .nil))) (.cons (.str ("" : Str)) (.cons (.str ("a b" : Str)) (.cons .non (.cons (.bl true) (.cons (.bl false) (.cons (.tup .nil) (.cons (.tup (.cons (.var 1) (.cons (.int 1) .nil))) (.cons (.lst (.cons (.var 1) (.cons (.str ("x" : Str)) .nil))) (.cons (.tup (.cons (.tup (.cons (.int 1) (.cons (.int 2) .nil))) (.cons (.tup (.cons (.str ("a" : Str)) (.cons (.tup .nil) .nil))) .nil))) (.cons (.lst .nil) .nil))))))))))))))
 (.cons (.set 2 (.bin .add (.var 2) (.lst (.cons (.neg (.int 1)) (.cons (.int 0) .nil)))))
 (.cons (.ret (.idx (.var 2) (.call 1 [true, false] (.cons (.var 0) (.cons (.int 14) .nil)))))
 .nil)))) }
def f10 : Fn := { nm := ("_law_right" : Str), ps := [("which" : Str), ("given" : Str), ("named" : Str)], ns := [("which" : Str), ("given" : Str), ("named" : Str), ("caught" : Str), ("e" : Str), ("k" : Str)], lent := [false, false, false], kwp := [], body :=
 (.cons (.set 3 .non)
 (.cons (.tryN (.cons (.expr (.call 7 [false, false, false] (.cons (.var 0) (.cons (.var 1) (.cons (.var 2) .nil)))))
 .nil) KS [(("JumpError" : Str), 4, 3, .keep)])
 (.cons (.ite (.bop false (.cons (.cmp .is (.var 3) .non) (.cons (.not (.isx KS (.var 3) ("ValueError" : Str))) .nil))) (.cons (.ret (.bl false))
 .nil) .nil)
 (.cons (.ret (.bop true (.cons (.cmp .eq (.call 8 [false] (.cons (.var 3) .nil)) (.comp [5] (.cmp .eq (.var 5) (.var 0)) (.nm 5) (.r1 (.int 20)) .nil)) (.cons (.call 2 [false, false] (.cons (.ev KS (.var 3)) (.cons (.var 1) .nil))) .nil))))
 .nil)))) }
def f11 : Fn := { nm := ("_law_base_right" : Str), ps := [("given" : Str)], ns := [("given" : Str), ("caught" : Str), ("e" : Str)], lent := [false], kwp := [], body :=
 (.cons (.set 1 .non)
 (.cons (.tryN (.cons (.throwK ("JumpError" : Str) (.var 0))
 .nil) KS [(("JumpError" : Str), 2, 1, .keep)])
 (.cons (.ite (.bop false (.cons (.not (.isx KS (.var 1) ("ValueError" : Str))) (.cons (.cmp .isin (.bl true) (.call 8 [false] (.cons (.var 1) .nil))) .nil))) (.cons (.ret (.bl false))
 .nil) .nil)
 (.cons (.ret (.bop true (.cons (.call 2 [false, false] (.cons (.ev KS (.var 1)) (.cons (.var 0) .nil))) (.cons (.call 2 [false, false] (.cons (.mkv ("JumpError" : Str) (.var 0)) (.cons (.var 0) .nil))) .nil))))
 .nil)))) }
def f12 : Fn := { nm := ("law" : Str), ps := [("script" : Str)], ns := [("script" : Str), ("first" : Str), ("second" : Str), ("k" : Str), ("deck" : Str), ("which" : Str), ("named" : Str), ("given" : Str), ("other" : Str), ("e" : Str)], lent := [false], kwp := [], body :=
 (.cons (.par [1, 2] (.cons .non (.cons .non .nil)))
 (.cons (.for_ (.nm 3) (.r1 (.bi .max2 (.cons (.int 1) (.cons (.bi .min2 (.cons (.bi .len (.cons (.var 0) .nil)) (.cons (.int 40) .nil))) .nil)))) (.cons (.set 4 (.call 0 [false, false] (.cons (.var 0) (.cons (.var 3) .nil))))
 (.cons (.par [5, 6] (.cons (.call 1 [true, false] (.cons (.var 4) (.cons (.int 20) .nil))) (.cons (.cmp .eq (.call 1 [true, false] (.cons (.var 4) (.cons (.int 2) .nil))) (.int 1)) .nil)))
 (.cons (.par [7, 8] (.cons (.call 9 [true] (.cons (.var 4) .nil)) (.cons (.call 9 [true] (.cons (.var 4) .nil)) .nil)))
 (.cons (.ite (.bop false (.cons (.not (.call 10 [false, false, false] (.cons (.var 5) (.cons (.var 7) (.cons (.var 6) .nil))))) (.cons (.not (.call 10 [false, false, false] (.cons (.var 5) (.cons (.var 8) (.cons (.not (.var 6)) .nil))))) (.cons (.not (.call 11 [false] (.cons (.var 8) .nil))) .nil)))) (.cons (.ret (.bl false))
 .nil) .nil)
 (.cons (.tryN (.cons (.expr (.call 7 [false, false, false] (.cons (.var 5) (.cons (.var 7) (.cons (.var 6) .nil)))))
 .nil) KS [(("JumpError" : Str), 9, 1, .keep)])
 (.cons (.tryN (.cons (.expr (.call 7 [false, false, false] (.cons (.var 5) (.cons (.var 8) (.cons (.var 6) .nil)))))
 .nil) KS [(("JumpError" : Str), 9, 2, .keep)])
 (.cons (.ite (.bop false (.cons (.not (.call 2 [false, false] (.cons (.ev KS (.var 1)) (.cons (.var 7) .nil)))) (.cons (.not (.call 2 [false, false] (.cons (.ev KS (.var 2)) (.cons (.var 8) .nil)))) .nil))) (.cons (.ret (.bl false))
 .nil) .nil)
 .nil))))))))
 (.cons (.for_ (.nm 5) (.r1 (.int 20)) (.cons (.ite (.bop false (.cons (.not (.call 10 [false, false, false] (.cons (.var 5) (.cons (.var 5) (.cons (.bl false) .nil))))) (.cons (.not (.call 10 [false, false, false] (.cons (.var 5) (.cons (.str ("a" : Str)) (.cons (.bl true) .nil))))) .nil))) (.cons (.ret (.bl false))
 .nil) .nil)
 .nil))
 (.cons (.ret (.bl true))
 .nil)))) }
def tab : List Fn := [f0, f1, f2, f3, f4, f5, f6, f7, f8, f9, f10, f11, f12]
def cons : List (Str × D) := []
def T : Tb := ⟨tab, cons, false, false, [("NotTame" : Str), ("InvalidOrder" : Str), ("InvalidPlace" : Str), ("InvalidJump" : Str), ("InvalidBar" : Str), ("InvalidSaying" : Str), ("InvalidNumber" : Str), ("InvalidPair" : Str), ("InvalidWalk" : Str), ("NotMeant" : Str), ("Unorderly" : Str), ("InvalidKind" : Str), ("InvalidThing" : Str), ("InvalidWeb" : Str), ("InvalidPrices" : Str), ("HasRound" : Str), ("InvalidName" : Str), ("UnknownName" : Str), ("NothingToUndo" : Str), ("Unreadable" : Str), ("JumpError" : Str)], [], [], [("InvalidOrder" : Str), ("InvalidPlace" : Str), ("InvalidJump" : Str), ("InvalidBar" : Str), ("InvalidSaying" : Str), ("InvalidNumber" : Str), ("InvalidPair" : Str), ("InvalidWalk" : Str), ("NotMeant" : Str), ("NotTame" : Str), ("InvalidKind" : Str), ("InvalidThing" : Str), ("InvalidWeb" : Str), ("InvalidPrices" : Str), ("HasRound" : Str), ("InvalidName" : Str), ("UnknownName" : Str), ("NothingToUndo" : Str), ("Unreadable" : Str), ("Unorderly" : Str), ("ValueError" : Str)]⟩
def iSt : Stmt := match topS 1 with | .ClassDef _ _ _ (s :: _) _ _ _ _ _ _ _ => s | _ => .Pass ⟨0, 0, 0, 0⟩
theorem SIi : FnScope NI NI (defScope iSt) := ⟨rfl, rfl, rfl, by decide +kernel, rfl, by decide +kernel, by decide +kernel⟩
theorem S0 : FnScope f0.ns f0.ps (defScope (topS 23)) := ⟨rfl, rfl, rfl, by decide +kernel, rfl, by decide +kernel, by decide +kernel⟩
theorem C0 : chkSs T f0.ns (defScope (topS 23)) f0.body (defBody (topS 23)) = true := by decide +kernel
theorem S1 : FnScope f1.ns f1.ps (defScope (topS 24)) := ⟨rfl, rfl, rfl, by decide +kernel, rfl, by decide +kernel, by decide +kernel⟩
theorem C1 : chkSs T f1.ns (defScope (topS 24)) f1.body (defBody (topS 24)) = true := by decide +kernel
theorem S2 : FnScope f2.ns f2.ps (defScope (topS 25)) := ⟨rfl, rfl, rfl, by decide +kernel, rfl, by decide +kernel, by decide +kernel⟩
theorem C2 : chkSs T f2.ns (defScope (topS 25)) f2.body (defBody (topS 25)) = true := by decide +kernel
theorem S3 : FnScope f3.ns f3.ps (defScope (topS 26)) := ⟨rfl, rfl, rfl, by decide +kernel, rfl, by decide +kernel, by decide +kernel⟩
theorem C3 : chkSs T f3.ns (defScope (topS 26)) f3.body (defBody (topS 26)) = true := by decide +kernel
theorem S4 : FnScope f4.ns f4.ps (defScope (topS 27)) := ⟨rfl, rfl, rfl, by decide +kernel, rfl, by decide +kernel, by decide +kernel⟩
theorem C4 : chkSs T f4.ns (defScope (topS 27)) f4.body (defBody (topS 27)) = true := by decide +kernel
theorem S5 : FnScope f5.ns f5.ps (defScope (topS 28)) := ⟨rfl, rfl, rfl, by decide +kernel, rfl, by decide +kernel, by decide +kernel⟩
theorem C5 : chkSs T f5.ns (defScope (topS 28)) f5.body (defBody (topS 28)) = true := by decide +kernel
theorem S6 : FnScope f6.ns f6.ps (defScope (topS 29)) := ⟨rfl, rfl, rfl, by decide +kernel, rfl, by decide +kernel, by decide +kernel⟩
theorem C6 : chkSs T f6.ns (defScope (topS 29)) f6.body (defBody (topS 29)) = true := by decide +kernel
theorem S7 : FnScope f7.ns f7.ps (defScope (topS 30)) := ⟨rfl, rfl, rfl, by decide +kernel, rfl, by decide +kernel, by decide +kernel⟩
theorem C7 : chkSs T f7.ns (defScope (topS 30)) f7.body (defBody (topS 30)) = true := by decide +kernel
theorem S8 : FnScope f8.ns f8.ps (defScope (topS 31)) := ⟨rfl, rfl, rfl, by decide +kernel, rfl, by decide +kernel, by decide +kernel⟩
theorem C8 : chkSs T f8.ns (defScope (topS 31)) f8.body (defBody (topS 31)) = true := by decide +kernel
theorem S9 : FnScope f9.ns f9.ps (defScope (topS 32)) := ⟨rfl, rfl, rfl, by decide +kernel, rfl, by decide +kernel, by decide +kernel⟩
theorem C9 : chkSs T f9.ns (defScope (topS 32)) f9.body (defBody (topS 32)) = true := by decide +kernel
theorem S10 : FnScope f10.ns f10.ps (defScope (topS 33)) := ⟨rfl, rfl, rfl, by decide +kernel, rfl, by decide +kernel, by decide +kernel⟩
theorem C10 : chkSs T f10.ns (defScope (topS 33)) f10.body (defBody (topS 33)) = true := by decide +kernel
theorem S11 : FnScope f11.ns f11.ps (defScope (topS 34)) := ⟨rfl, rfl, rfl, by decide +kernel, rfl, by decide +kernel, by decide +kernel⟩
theorem C11 : chkSs T f11.ns (defScope (topS 34)) f11.body (defBody (topS 34)) = true := by decide +kernel
theorem S12 : FnScope f12.ns f12.ps (defScope (topS 35)) := ⟨rfl, rfl, rfl, by decide +kernel, rfl, by decide +kernel, by decide +kernel⟩
theorem C12 : chkSs T f12.ns (defScope (topS 35)) f12.body (defBody (topS 35)) = true := by decide +kernel
end K00

set_option maxRecDepth 100000
set_option maxHeartbeats 4000000
-- STEPS
local macro_rules
  | `(tactic| decreasing_trivial_pre_omega) => `(tactic| repeat (first
    | refine Ev.WSs.cons ?_
    | refine Ev.WSs.nil ?_
    | (show Ev.WS ..; first
      | refine Ev.WS.set ?_
      | refine Ev.WS.unp ?_
      | refine Ev.WS.par ?_
      | refine Ev.WS.aug rfl ?_
      | refine Ev.WS.sto ?_
      | refine Ev.WS.mut rfl ?_
      | refine Ev.WS.expr ?_
      | refine Ev.WS.ret ?_
      | refine Ev.WS.retN ?_
      | refine Ev.WS.ite ?_
      | refine Ev.WS.for_ ?_
      | refine Ev.WS.brk ?_
      | refine Ev.WS.cnt ?_
      | refine Ev.WS.pass ?_
      | refine Ev.WS.throw ?_
      | refine Ev.WS.throwK ?_
      | refine Ev.WS.tryN ?_)
    | refine Ev.WK.of ?_
    | refine Ev.WD.of ?_
    | refine Ev.WT.of ?_
    | (show Ev.WE ..; first
      | refine Ev.WE.varV rfl ?_
      | refine Ev.WE.varO rfl ?_
      | refine Ev.WE.int ?_
      | refine Ev.WE.bin ?_
      | refine Ev.WE.cmp ?_
      | refine Ev.WE.call ?_
      | refine Ev.WE.idx ?_
      | refine Ev.WE.str ?_
      | refine Ev.WE.non ?_
      | refine Ev.WE.bl ?_
      | refine Ev.WE.gc ?_
      | refine Ev.WE.tup ?_
      | refine Ev.WE.lst ?_
      | refine Ev.WE.ite ?_
      | refine Ev.WE.bop ?_
      | refine Ev.WE.not ?_
      | refine Ev.WE.neg ?_
      | refine Ev.WE.chain ?_
      | refine Ev.WE.slc ?_
      | refine Ev.WE.rev ?_
      | refine Ev.WE.bi ?_
      | refine Ev.WE.isi ?_
      | refine Ev.WE.sm ?_
      | refine Ev.WE.callK ?_
      | refine Ev.WE.callV rfl rfl ?_
      | refine Ev.WE.fnc ?_
      | refine Ev.WE.comp ?_
      | refine Ev.WE.compT ?_
      | refine Ev.WE.lrg ?_
      | refine Ev.WE.rgx ?_
      | refine Ev.WE.dget ?_
      | refine Ev.WE.kdx ?_
      | refine Ev.WE.meth ?_
      | refine Ev.WE.ev ?_
      | refine Ev.WE.isx ?_
      | refine Ev.WE.mkv ?_
      | refine Ev.WE.pop rfl ?_)
    | refine Ev.WB.one ?_
    | refine Ev.WB.more ?_
    | refine Ev.WO.no ?_
    | refine Ev.WO.some ?_
    | refine Ev.WTs.cons ?_
    | refine Ev.WTs.nil ?_
    | refine Ev.WAs.cons ?_
    | refine Ev.WAs.nil ?_
    | refine Ev.WXs.cons ?_
    | refine Ev.WXs.nil ?_
    | refine Ev.WF.nil ?_
    | refine Ev.WF.cons ?_
    | (show Ev.Dp ..; first
      | refine Ev.Dp.val ?_
      | refine Ev.Dp.fresh ?_
      | refine Ev.Dp.own rfl ?_
      | refine Ev.Dp.vslot rfl ?_)
    | (show Ev.Tk ..; first
      | refine Ev.Tk.val ?_
      | refine Ev.Tk.fresh ?_
      | refine Ev.Tk.own rfl ?_
      | refine Ev.Tk.vslot rfl ?_)
    | (show Ev.Tx ..; first
      | refine Ev.Tx.val ?_
      | refine Ev.Tx.fresh ?_
      | refine Ev.Tx.own rfl ?_
      | refine Ev.Tx.vslot rfl ?_)
    | refine Ev.Dps.nil ?_
    | refine Ev.Dps.cons ?_
    | (show Ev.Tr ..; first
      | refine Ev.Tr.bool ?_
      | refine Ev.Tr.int ?_
      | refine Ev.Tr.none ?_
      | refine Ev.Tr.list ?_
      | refine Ev.Tr.tuple ?_)
    | (show Ev.Bn ..; first
      | refine Ev.Bn.addI ?_
      | refine Ev.Bn.subI ?_
      | refine Ev.Bn.mulI (by first | exact Ev.mulOk_r (by omega) (by omega) | exact Ev.mulOk_l (by omega) (by omega) | decide) ?_
      | refine Ev.Bn.modI (by omega) ?_
      | refine Ev.Bn.fdivI (by omega) (by first | decide | exact Ev.lg9 _ (by omega) (by omega)) ?_
      | refine Ev.Bn.powE (by decide) (by first | decide | exact Ev.lg10 _ (by omega) (by omega)) (by first | (simp only [Int.reduceToNat, Int.reducePow]; rfl) | rfl) ?_)
    | (show Ev.Cm ..; first
      | refine Ev.Cm.lt ?_
      | refine Ev.Cm.le ?_
      | refine Ev.Cm.gt ?_
      | refine Ev.Cm.ge ?_
      | refine Ev.Cm.eqI ?_
      | refine Ev.Cm.neI ?_
      | refine Ev.Cm.isN ?_
      | refine Ev.Cm.isnotN ?_
      | refine Ev.Cm.isB ?_
      | refine Ev.Cm.eqSt (by decide +kernel) ?_
      | refine Ev.Cm.eqSf (by decide +kernel) ?_)
    | (show Ev.Bc ..; first
      | refine Ev.Bc.lenL ?_
      | refine Ev.Bc.lenT ?_
      | refine Ev.Bc.int ?_
      | refine Ev.Bc.intB ?_
      | refine Ev.Bc.tupL ?_
      | refine Ev.Bc.tupT ?_
      | refine Ev.Bc.listL ?_
      | refine Ev.Bc.listT ?_
      | refine Ev.Bc.max2 ?_
      | refine Ev.Bc.min2 ?_
      | refine Ev.Bc.abs ?_)
    | refine Ev.Op.some ?_
    | refine Ev.Ix.of rfl ?_
    | (show Ev.Pt ..; first
      | refine Ev.Pt.val ?_
      | refine Ev.Pt.fresh ?_
      | refine Ev.Pt.own rfl ?_
      | refine Ev.Pt.vslot rfl ?_)
    | refine Ev.Pts.cons ?_
    | refine Ev.Pts.nil ?_
    | refine Ev.Vs.nil ?_
    | refine Ev.Vs.cons ?_
    | refine Ev.Bt.nm ?_
    | refine Ev.Bt.tp ?_
    | (show Ev.WI ..; first
      | refine Ev.WI.seq ?_
      | refine Ev.WI.r1 ?_
      | refine Ev.WI.r2 ?_
      | refine Ev.WI.rd ?_
      | refine Ev.WI.zip ?_
      | refine Ev.WI.enm ?_)
    | (show Ev.It0 ..; first
      | refine Ev.It0.list ?_
      | refine Ev.It0.tuple ?_
      | refine Ev.It0.r1 (by omega) (by omega) ?_
      | refine Ev.It0.r2 (by omega) (by omega) (by omega) (by omega) ?_)
    | (show Ev.Rt ..; first
      | refine Ev.Rt.val ?_
      | refine Ev.Rt.fresh ?_
      | refine Ev.Rt.own rfl ?_
      | refine Ev.Rt.vslot rfl ?_)
    | refine Ev.Le.of rfl ?_
    | refine Ev.PL.nil ?_
    | refine Ev.PL.cons rfl ?_
    | refine Ev.Cl.of rfl (by simp) ?_
    | refine And.intro (rfl : Ev.isFnD _ = false) ?_
    | refine And.intro (rfl : Ev.rcv _ = _) ?_
    | refine Ev.ite_t rfl ?_
    | refine Ev.ite_f rfl ?_
    | refine Ev.ite_t2 rfl ?_
    | refine Ev.ite_f2 rfl ?_
    | refine Ev.ite_t (decide_eq_true (by omega)) ?_
    | refine Ev.ite_f (decide_eq_false (by omega)) ?_
    | refine Ev.ite_t2 (decide_eq_true (by omega)) ?_
    | refine Ev.ite_f2 (decide_eq_false (by omega)) ?_
    | refine And.intro (Or.inl (rfl : ([] : List Nat) = [])) ?_
    | refine And.intro (Ev.le_szl (by simp)) ?_
    | refine Exists.intro _ (And.intro rfl ?_)
    | refine Exists.intro _ (And.intro inferInstance ?_)
    | refine Exists.intro _ (Exists.intro _ (And.intro rfl ?_))
    | refine Exists.intro _ (Exists.intro _ (And.intro rfl (And.intro inferInstance (And.intro inferInstance ?_))))
    | refine Exists.intro _ (Exists.intro _ (Exists.intro _ (Exists.intro _ (And.intro rfl (And.intro Ev.sd3_0 (And.intro inferInstance ?_))))))
    | refine Exists.intro _ (Exists.intro _ (Exists.intro _ (Exists.intro _ (And.intro rfl (And.intro Ev.sd3_1 (And.intro inferInstance ?_))))))
    | refine Exists.intro _ (Exists.intro _ (Exists.intro _ (Exists.intro _ (And.intro rfl (And.intro Ev.sd3_2 (And.intro inferInstance ?_))))))
    | refine Exists.intro _ (Exists.intro _ (Exists.intro _ (Exists.intro _ (And.intro rfl (And.intro Ev.sd2_0 (And.intro inferInstance ?_))))))
    | refine Exists.intro _ (Exists.intro _ (Exists.intro _ (Exists.intro _ (And.intro rfl (And.intro Ev.sd2_1 (And.intro inferInstance ?_))))))
    | refine Exists.intro _ (Exists.intro _ (Exists.intro _ (Exists.intro _ (And.intro rfl (And.intro rfl (And.intro inferInstance ?_))))))
    | refine Exists.intro _ (Exists.intro _ (Exists.intro _ (Exists.intro _ (And.intro rfl (And.intro (Ev.mu_append (by assumption)) (And.intro inferInstance ?_))))))))
-- END STEPS
namespace K00
open PySem L2 Ev
theorem wok {r : CR} {d : D} (h : WC r (fun fr dd ls => fr = false ∧ dd = d ∧ ls = []) NX) : r = .ok false d [] := by
  obtain ⟨_, _, _, e, rfl, rfl, rfl⟩ := h.get
  exact e
/-- a deck -/
def Dk (d : D) : Prop := ∃ a b : Int, d = .list [.int a, .int b] ∧ 0 ≤ a ∧ 0 ≤ b ∧ b < 18446744073709551616
theorem Dk.own {d : D} (h : Dk d) : isOwnable d = true := by
  obtain ⟨a, b, rfl, _⟩ := h
  rfl
theorem take_ok (k : Nat) (w : D) (m : Int) (h : Dk w) (hm : 0 < m) (hm2 : m ≤ 1000000000000000000000000000000) : ∃ v w', run tab (k + 1) 1 [w, .int m] = .ok false (.int v) [w'] ∧ (0 ≤ v ∧ v < m ∧ Dk w') := by
  obtain ⟨a, b, rfl, ha, hb, hb2⟩ := h
  have key : WC (run tab (k + 1) 1 [.list [.int a, .int b], .int m]) (fun fr dd ls => ∃ v w', fr = false ∧ dd = .int v ∧ ls = [w'] ∧ (0 ≤ v ∧ v < m ∧ Dk w')) NX := by
    refine WC.defn (fn := f1) (e := [.own true (.list [.int a, .int b]), .val (.int m), .un]) rfl ⟨rfl, rfl, rfl⟩ rfl rfl rfl ?_
    have hl := lg9 m (by omega) (by omega)
    decreasing_trivial_pre_omega
    refine ⟨fun c => ?_, fun c => ?_⟩
    · have c := of_decide_eq_true c
      decreasing_trivial_pre_omega
      exact ⟨_, _, rfl, rfl, rfl, Int.emod_nonneg _ (by omega), Int.emod_lt_of_pos _ hm, a / m, b, rfl, Int.ediv_nonneg ha (by omega), hb, hb2⟩
    · have c := of_decide_eq_false c
      decreasing_trivial_pre_omega
      exact ⟨_, _, rfl, rfl, rfl, Int.emod_nonneg _ (by omega), Int.emod_lt_of_pos _ hm, a, _, rfl, ha, Int.emod_nonneg _ (by decide), Int.emod_lt_of_pos _ (by decide)⟩
  obtain ⟨_, _, _, e, v, w', rfl, rfl, rfl, q⟩ := key.get
  exact ⟨v, w', e, q⟩
theorem deck_ok (k : Nat) (ns : List Int) (i : Nat) (hi : i < 64) : ∃ w, run tab (k + 1) 0 [.list (I ns), .int i] = .ok true w [] ∧ Dk w := by
  have key : WC (run tab (k + 1) 0 [.list (I ns), .int i]) (fun fr dd ls => fr = true ∧ ls = [] ∧ Dk dd) NX := by
    refine WC.defn (fn := f0) (e := [.val (.list (I ns)), .val (.int i), .un, .un]) rfl ⟨rfl, rfl, rfl⟩ rfl rfl rfl ?_
    have hI : ((I ns).length : Int) = ns.length := by rw [I_len]
    by_cases h : (i : Int) < ns.length
    · obtain ⟨x, hx⟩ : ∃ x, ns[i]? = some x := ⟨ns[i]'(by omega), List.getElem?_eq_getElem _⟩
      decreasing_trivial_pre_omega
      refine Ix.of (atI_ok (by omega) (d := .int x) (by rw [Int.toNat_natCast]; exact I_get hx)) ?_
      decreasing_trivial_pre_omega
      refine ⟨fun c => ?_, fun c => ?_⟩
      · decreasing_trivial_pre_omega
        exact ⟨rfl, rfl, 0, _, rfl, by decide, Int.emod_nonneg _ (by decide), Int.lt_trans (Int.emod_lt_of_pos _ (by decide)) (by decide)⟩
      · have c := of_decide_eq_false c
        decreasing_trivial_pre_omega
        exact ⟨rfl, rfl, _, _, rfl, by omega, Int.emod_nonneg _ (by decide), Int.lt_trans (Int.emod_lt_of_pos _ (by decide)) (by decide)⟩
    · decreasing_trivial_pre_omega
      exact ⟨rfl, rfl, 0, _, rfl, by decide, Int.emod_nonneg _ (by decide), Int.lt_trans (Int.emod_lt_of_pos _ (by decide)) (by decide)⟩
  obtain ⟨_, w, _, e, rfl, rfl, h⟩ := key.get
  exact ⟨w, e, h⟩
end K00

set_option maxRecDepth 100000
set_option maxHeartbeats 4000000
namespace K00
open PySem L2 Ev
/-- a value that is like itself -/
def gd : Nat → D → Prop
  | _, .none => True
  | _, .int _ => True
  | _, .bool _ => True
  | _, .str s => PyData.strOk s = true
  | n + 1, .tuple ds => ds.length ≤ 1000 ∧ ∀ x ∈ ds, gd n x
  | n + 1, .list ds => ds.length ≤ 1000 ∧ ∀ x ∈ ds, gd n x
  | _, _ => False
theorem same_ok (n : Nat) : ∀ (d : D) (k : Nat), gd n d → run tab (k + n + 1) 2 [d, d] = .ok false (.bool true) [] := by
  have leaf : ∀ (d : D) (k : Nat), (d = .none ∨ (∃ i, d = .int i) ∨ (∃ b, d = .bool b) ∨ ∃ s, d = .str s ∧ PyData.strOk s = true) → run tab (k + 1) 2 [d, d] = .ok false (.bool true) [] := by
    intro d k h
    refine wok (WC.defn (fn := f2) (e := [.val d, .val d, .un]) rfl ⟨rfl, rfl, rfl⟩ rfl rfl rfl ?_)
    rcases h with rfl | ⟨i, rfl⟩ | ⟨b, rfl⟩ | ⟨s, rfl, hs⟩
    · decreasing_trivial_pre_omega
      exact ⟨rfl, rfl, rfl⟩
    · decreasing_trivial_pre_omega
      exact ⟨rfl, by rw [decide_eq_true rfl], rfl⟩
    · decreasing_trivial_pre_omega
      refine Cm.eq (eqG_bool b b) ?_
      rw [beq_self_eq_true]
      decreasing_trivial_pre_omega
      exact ⟨rfl, rfl, rfl⟩
    · decreasing_trivial_pre_omega
      refine Cm.eq (eqG_str s s hs hs) ?_
      rw [beq_self_eq_true]
      decreasing_trivial_pre_omega
      exact ⟨rfl, rfl, rfl⟩
  have seq : ∀ (q : List D → D) (hq : q = .tuple ∨ q = .list) (ds : List D) (k : Nat), ds.length ≤ 1000 → (∀ x ∈ ds, run tab k 2 [x, x] = .ok false (.bool true) []) → run tab (k + 1) 2 [q ds, q ds] = .ok false (.bool true) [] := by
    intro q hq ds k hl hx
    refine wok (WC.defn (fn := f2) (e := [.val (q ds), .val (q ds), .un]) rfl ⟨rfl, rfl, rfl⟩ rfl rfl rfl ?_)
    rcases hq with rfl | rfl <;> (
      decreasing_trivial_pre_omega
      refine Cm.of (b := false) rfl ?_
      decreasing_trivial_pre_omega
      refine Cm.of (b := false) rfl ?_
      decreasing_trivial_pre_omega
      rw [decide_eq_true rfl]
      refine ⟨fun c => absurd c (by decide), fun _ => ?_⟩
      decreasing_trivial_pre_omega
      refine Cp.filterL (s := .un) rfl Pl.un (fun _ : Nat => false) (fun i : Nat => PyData.int (0 + (i : Nat))) (fun i : Nat => PyData.int (0 + (i : Nat))) ?_ ?_
      · intro i hi
        have hi := List.mem_range.mp hi
        have hi : i < ds.length := by omega
        have hg : ds[i]? = some (ds[i]'hi) := List.getElem?_eq_getElem hi
        have hm := hx _ (List.getElem_mem hi)
        generalize ds[i]'hi = x at hg hm
        rw [show (0 : Int) + (i : Nat) = ((i : Nat) : Int) by omega]
        decreasing_trivial_pre_omega
        refine ⟨?_, fun c => by cases c⟩
        decreasing_trivial_pre_omega
        refine Ix.of (atT_ok (by omega) (by rw [Int.toNat_natCast]; exact hg)) ?_
        decreasing_trivial_pre_omega
        refine Ix.of (atT_ok (by omega) (by rw [Int.toNat_natCast]; exact hg)) ?_
        decreasing_trivial_pre_omega
        refine WC.eq hm ?_
        decreasing_trivial_pre_omega
        exact ⟨rfl, rfl⟩
      · rw [List.filter_eq_nil_iff.mpr (fun _ _ q => by cases q)]
        decreasing_trivial_pre_omega
        refine Cm.eq (b := true) rfl ?_
        decreasing_trivial_pre_omega
        exact ⟨rfl, rfl, rfl⟩)
  induction n with
  | zero =>
    intro d k h
    refine leaf d k ?_
    cases d with
    | none => exact .inl rfl
    | int i => exact .inr (.inl ⟨i, rfl⟩)
    | bool b => exact .inr (.inr (.inl ⟨b, rfl⟩))
    | str s => exact .inr (.inr (.inr ⟨s, rfl, h⟩))
    | _ => exact h.elim
  | succ n ih =>
    intro d k h
    cases d with
    | none => exact leaf _ _ (.inl rfl)
    | int i => exact leaf _ _ (.inr (.inl ⟨i, rfl⟩))
    | bool b => exact leaf _ _ (.inr (.inr (.inl ⟨b, rfl⟩)))
    | str s => exact leaf _ _ (.inr (.inr (.inr ⟨s, rfl, h⟩)))
    | tuple ds => exact seq _ (.inl rfl) ds (k + n + 1) h.1 fun x q => ih x k (h.2 x q)
    | list ds => exact seq _ (.inr rfl) ds (k + n + 1) h.1 fun x q => ih x k (h.2 x q)
    | _ => exact h.elim
theorem szN {n : Nat} (h : n ≤ 16777216) : n ≤ sizeLine := by rw [sizeLine_eq]; exact h
/-- the classes, by their numbers -/
def clsL : List Str := ["InvalidOrder", "InvalidPlace", "InvalidJump", "InvalidBar", "InvalidSaying", "InvalidNumber", "InvalidPair", "InvalidWalk", "NotMeant", "NotTame", "InvalidKind", "InvalidThing", "InvalidWeb", "InvalidPrices", "HasRound", "InvalidName", "UnknownName", "NothingToUndo", "Unreadable", "Unorderly"]
def cls (w : Nat) : Str := (clsL[w]?).getD ""
theorem cases20 {P : Nat → Prop} (h : P 0 ∧ P 1 ∧ P 2 ∧ P 3 ∧ P 4 ∧ P 5 ∧ P 6 ∧ P 7 ∧ P 8 ∧ P 9 ∧ P 10 ∧ P 11 ∧ P 12 ∧ P 13 ∧ P 14 ∧ P 15 ∧ P 16 ∧ P 17 ∧ P 18 ∧ P 19) {w : Nat} (hw : w < 20) : P w := by
  obtain ⟨h0, h1, h2, h3, h4, h5, h6, h7, h8, h9, h10, h11, h12, h13, h14, h15, h16, h17, h18, h19⟩ := h
  have : w = 0 ∨ w = 1 ∨ w = 2 ∨ w = 3 ∨ w = 4 ∨ w = 5 ∨ w = 6 ∨ w = 7 ∨ w = 8 ∨ w = 9 ∨ w = 10 ∨ w = 11 ∨ w = 12 ∨ w = 13 ∨ w = 14 ∨ w = 15 ∨ w = 16 ∨ w = 17 ∨ w = 18 ∨ w = 19 := by omega
  rcases this with rfl | rfl | rfl | rfl | rfl | rfl | rfl | rfl | rfl | rfl | rfl | rfl | rfl | rfl | rfl | rfl | rfl | rfl | rfl | rfl <;> assumption
theorem raised_ok (k : Nat) (w : Nat) (hw : w < 20) (g : D) (named : Bool) : run tab (k + 2) 7 [.int w, g, .bool named] = .exc (cls w) g := by
  refine cases20 (P := fun w => run tab (k + 2) 7 [.int w, g, .bool named] = .exc (cls w) g) ?_ hw
  cases named
  · refine ⟨?_, ?_, ?_, ?_, ?_, ?_, ?_, ?_, ?_, ?_, ?_, ?_, ?_, ?_, ?_, ?_, ?_, ?_, ?_, ?_⟩ <;> kernel_rfl
  · refine ⟨?_, ?_, ?_, ?_, ?_, ?_, ?_, ?_, ?_, ?_, ?_, ?_, ?_, ?_, ?_, ?_, ?_, ?_, ?_, ?_⟩ <;> kernel_rfl
def kindsD (cn : Str) : List D := clsL.map fun c => .bool (isxB c cn)
theorem kinds_ok (k : Nat) (cn : Str) (hc : KS.contains cn = true) (g : D) : run tab (k + 1) 8 [errD cn g] = .ok true (.list (kindsD cn)) [] := by
  have key : WC (run tab (k + 1) 8 [errD cn g]) (fun fr dd ls => fr = true ∧ dd = .list (kindsD cn) ∧ ls = []) NX := by
    refine WC.defn (fn := f8) (e := [.val (errD cn g), .un]) rfl ⟨rfl, rfl, rfl⟩ rfl rfl rfl ?_
    decreasing_trivial_pre_omega
    repeat (first | (refine And.intro hc ?_; decreasing_trivial_pre_omega) | (refine Bn.addL (szN (by simp)) ?_; decreasing_trivial_pre_omega))
    exact ⟨rfl, rfl, rfl⟩
  obtain ⟨_, _, _, e, rfl, rfl, rfl⟩ := key.get
  exact e
theorem kinds_eq (w : Nat) (hw : w < 20) : eqG (.list (kindsD (cls w))) (.list ((List.range 20).map fun i : Nat => PyData.bool (decide ((0 : Int) + (i : Nat) = w)))) = some true := by
  refine cases20 (P := fun w => eqG (.list (kindsD (cls w))) (.list ((List.range 20).map fun i : Nat => PyData.bool (decide ((0 : Int) + (i : Nat) = w)))) = some true) ?_ hw
  refine ⟨?_, ?_, ?_, ?_, ?_, ?_, ?_, ?_, ?_, ?_, ?_, ?_, ?_, ?_, ?_, ?_, ?_, ?_, ?_, ?_⟩ <;> decide +kernel
theorem cls_in (w : Nat) (hw : w < 20) : KS.contains (cls w) = true ∧ catches "JumpError" (cls w) = true := by
  refine cases20 (P := fun w => KS.contains (cls w) = true ∧ catches "JumpError" (cls w) = true) ?_ hw
  decide +kernel
theorem right_ok (k n : Nat) (w : Nat) (hw : w < 20) (g : D) (hg : gd n g) (named : Bool) (hn : n ≤ 10) : run tab (k + 14) 10 [.int w, g, .bool named] = .ok false (.bool true) [] := by
  obtain ⟨c1, c2⟩ := cls_in w hw
  have hr := raised_ok (k + 11) w hw g named
  have hk := kinds_ok (k + 12) (cls w) c1 g
  have hs := same_ok n g (k + 12 - n) hg
  rw [show k + 12 - n + n + 1 = k + 13 by omega] at hs
  refine wok (WC.defn (fn := f10) (e := [.val (.int w), .val g, .val (.bool named), .un, .un, .un]) rfl ⟨rfl, rfl, rfl⟩ rfl rfl rfl ?_)
  decreasing_trivial_pre_omega
  refine WC.exc hr ?_
  refine ⟨⟨rfl, .inl rfl⟩, c1, Hit.yes (e2 := [.val (.int w), .val g, .val (.bool named), .val .none, .un, .un]) c2 (by simp) rfl ?_⟩
  have e0 : actD .keep (cls w) g = errD (cls w) g := rfl
  have iv : isxB "ValueError" (cls w) = true := rfl
  rw [e0]
  decreasing_trivial_pre_omega
  refine ⟨c1, ?_⟩
  rw [iv]
  decreasing_trivial_pre_omega
  refine WC.eq hk ?_
  decreasing_trivial_pre_omega
  refine Cp.mapL (s := .un) (xs := List.range 20) rfl Pl.un (fun i : Nat => PyData.int (0 + (i : Nat))) (fun i : Nat => PyData.bool (decide ((0 : Int) + (i : Nat) = w))) ?_ ?_
  · intro i hi
    decreasing_trivial_pre_omega
    exact ⟨rfl, rfl⟩
  · decreasing_trivial_pre_omega
    refine Cm.eq (kinds_eq w hw) ?_
    decreasing_trivial_pre_omega
    refine ⟨c1, ?_⟩
    decreasing_trivial_pre_omega
    refine WC.eq hs ?_
    decreasing_trivial_pre_omega
    exact ⟨rfl, rfl, rfl⟩
theorem base_ok (k n : Nat) (g : D) (hg : gd n g) (hn : n ≤ 10) : run tab (k + 14) 11 [g] = .ok false (.bool true) [] := by
  have c1 : KS.contains ("JumpError" : Str) = true := by decide +kernel
  have c2 : catches "JumpError" "JumpError" = true := by decide +kernel
  have hk := kinds_ok (k + 12) "JumpError" c1 g
  have hs := same_ok n g (k + 12 - n) hg
  rw [show k + 12 - n + n + 1 = k + 13 by omega] at hs
  refine wok (WC.defn (fn := f11) (e := [.val g, .un, .un]) rfl ⟨rfl, rfl, rfl⟩ rfl rfl rfl ?_)
  decreasing_trivial_pre_omega
  refine ⟨c1, Hit.yes (e2 := [.val g, .val .none, .un]) c2 (by simp) rfl ?_⟩
  have e0 : actD .keep "JumpError" g = errD "JumpError" g := rfl
  have iv : isxB "ValueError" "JumpError" = true := rfl
  rw [e0]
  decreasing_trivial_pre_omega
  refine ⟨c1, ?_⟩
  rw [iv]
  decreasing_trivial_pre_omega
  refine WC.eq hk ?_
  decreasing_trivial_pre_omega
  refine Cm.of (b := false) (by decide +kernel) ?_
  decreasing_trivial_pre_omega
  refine ⟨c1, ?_⟩
  decreasing_trivial_pre_omega
  refine WC.eq hs ?_
  decreasing_trivial_pre_omega
  refine WC.eq hs ?_
  decreasing_trivial_pre_omega
  exact ⟨rfl, rfl, rfl⟩
end K00

set_option maxRecDepth 100000
set_option maxHeartbeats 4000000
namespace K00
open PySem L2 Ev
/-- the values that are drawn -/
def gvs (far x : Int) : List D := [.int far, .int x, .str "", .str "a b", .none, .bool true, .bool false, .tuple [], .tuple [.int far, .int 1], .list [.int far, .str "x"], .tuple [.tuple [.int 1, .int 2], .tuple [.str "a", .tuple []]], .list [], .int (-1), .int 0]
theorem gd_int (n : Nat) (i : Int) : gd n (.int i) := by cases n <;> trivial
theorem gvs_gd (far x : Int) : ∀ d ∈ gvs far x, gd 5 d := by
  intro d hd
  have ha : PyData.strOk ("a" : Str) = true := by decide +kernel
  have hx : PyData.strOk ("x" : Str) = true := by decide +kernel
  simp only [gvs, List.mem_cons, List.not_mem_nil, or_false] at hd
  rcases hd with rfl | rfl | rfl | rfl | rfl | rfl | rfl | rfl | rfl | rfl | rfl | rfl | rfl | rfl
  · trivial
  · trivial
  · exact (show PyData.strOk ("" : Str) = true by decide +kernel)
  · exact (show PyData.strOk ("a b" : Str) = true by decide +kernel)
  · trivial
  · trivial
  · trivial
  · exact ⟨by decide, fun _ q => nomatch q⟩
  · refine ⟨by simp, fun y q => ?_⟩
    simp only [List.mem_cons, List.not_mem_nil, or_false] at q
    rcases q with rfl | rfl <;> trivial
  · refine ⟨by simp, fun y q => ?_⟩
    simp only [List.mem_cons, List.not_mem_nil, or_false] at q
    rcases q with rfl | rfl
    · trivial
    · exact hx
  · refine ⟨by simp, fun y q => ?_⟩
    simp only [List.mem_cons, List.not_mem_nil, or_false] at q
    rcases q with rfl | rfl
    · refine ⟨by simp, fun y q => ?_⟩
      simp only [List.mem_cons, List.not_mem_nil, or_false] at q
      rcases q with rfl | rfl <;> trivial
    · refine ⟨by simp, fun y q => ?_⟩
      simp only [List.mem_cons, List.not_mem_nil, or_false] at q
      rcases q with rfl | rfl
      · exact ha
      · exact ⟨by decide, fun _ q => nomatch q⟩
  · exact ⟨by decide, fun _ q => nomatch q⟩
  · trivial
  · trivial
theorem given_ok (k : Nat) (w : D) (h : Dk w) : ∃ g w', run tab (k + 2) 9 [w] = .ok false g [w'] ∧ (gd 5 g ∧ Dk w') := by
  have key : WC (run tab (k + 2) 9 [w]) (fun fr dd ls => ∃ g w', fr = false ∧ dd = g ∧ ls = [w'] ∧ (gd 5 g ∧ Dk w')) NX := by
    refine WC.defn (fn := f9) (e := [.own true w, .un, .un]) rfl ⟨rfl, rfl, by simp [h.own, f9]⟩ rfl rfl rfl ?_
    decreasing_trivial_pre_omega
    refine WC.ex2 (take_ok _ w _ h (by decide) (by decide)) fun v1 w1 ⟨a1, a2, a3⟩ => ?_
    decreasing_trivial_pre_omega
    refine WC.ex2 (take_ok _ w1 _ a3 (by decide) (by decide)) fun v2 w2 ⟨b1, b2, b3⟩ => ?_
    decreasing_trivial_pre_omega
    refine Bn.addL (szN (by simp)) ?_
    decreasing_trivial_pre_omega
    refine WC.ex2 (take_ok _ w2 _ b3 (by decide) (by decide)) fun v3 w3 ⟨c1, c2, c3⟩ => ?_
    decreasing_trivial_pre_omega
    obtain ⟨d, hd, hm⟩ : ∃ d, (gvs (v1 - 100000000000000000000000000000) v2)[v3.toNat]? = some d ∧ d ∈ gvs (v1 - 100000000000000000000000000000) v2 := by
      have hl : v3.toNat < (gvs (v1 - 100000000000000000000000000000) v2).length := by
        show v3.toNat < 14
        omega
      exact ⟨_, List.getElem?_eq_getElem hl, List.getElem_mem hl⟩
    refine Ix.of (show atI (gvs (v1 - 100000000000000000000000000000) v2) v3 = some d from atI_ok (by omega) hd) ?_
    decreasing_trivial_pre_omega
    exact ⟨_, _, rfl, rfl, rfl, gvs_gd _ _ d hm, c3⟩
  obtain ⟨_, _, _, e, g, w', rfl, e2, rfl, q⟩ := key.get
  subst e2
  exact ⟨_, w', e, q⟩
theorem law_fin : ∀ ns : List Int, ns.length ≤ 63 → (∀ z ∈ ns, Builtin.Int.intBits z ≤ 1048576) → ∃ ls, run tab 60 12 [.list (ns.map PyData.int)] = .ok false (.bool true) ls := by
  intro ns hn _
  have key : WC (run tab 60 12 [.list (I ns)]) (fun fr dd ls => fr = false ∧ dd = .bool true) NX := by
    refine WC.defn (k := 59) (fn := f12) (e := [.val (.list (I ns)), .un, .un, .un, .un, .un, .un, .un, .un, .un]) rfl ⟨rfl, rfl, rfl⟩ rfl rfl rfl ?_
    have hI : ((I ns).length : Int) = ns.length := by rw [I_len]
    decreasing_trivial_pre_omega
    generalize hM : (if (1 : Int) < (if (40 : Int) < ((I ns).length : Int) then 40 else ((I ns).length : Int)) then (if (40 : Int) < ((I ns).length : Int) then 40 else ((I ns).length : Int)) else 1).toNat = M
    have hM6 : M ≤ 40 := by
      rw [← hM]
      split <;> split <;> omega
    refine Lp.of (fun j e => ∃ s1 s2 s3 s4 s5 s6 s7 s8 : Slot, e = [.val (.list (I ns)), s1, s2, s3, s4, s5, s6, s7, s8, .un] ∧ NLs s1 ∧ NLs s2 ∧ NLs s3 ∧ NLs s4 ∧ NLs s5 ∧ NLs s6 ∧ NLs s7 ∧ NLs s8) ⟨_, _, _, _, _, _, _, _, rfl, inferInstance, inferInstance, inferInstance, inferInstance, inferInstance, inferInstance, inferInstance, inferInstance⟩ ?_ ?_
    · intro j x hx e ⟨s1, s2, s3, s4, s5, s6, s7, s8, he, h1, h2, h3, h4, h5, h6, h7, h8⟩
      subst he
      obtain ⟨hj, rfl⟩ := rng_get hx
      rw [show (0 : Int) + (j : Nat) = (j : Int) by omega]
      decreasing_trivial_pre_omega
      refine WC.ex1 (deck_ok _ ns j (by omega)) fun w hw => ?_
      decreasing_trivial_pre_omega
      refine WC.ex2 (take_ok _ w 20 hw (by decide) (by decide)) fun v1 w1 ⟨a1, a2, a3⟩ => ?_
      decreasing_trivial_pre_omega
      refine WC.ex2 (take_ok _ w1 2 a3 (by decide) (by decide)) fun v2 w2 ⟨b1, b2, b3⟩ => ?_
      obtain ⟨c, hc⟩ : ∃ c : Nat, v1 = (c : Int) := ⟨v1.toNat, by omega⟩
      subst hc
      have hc : c < 20 := by omega
      obtain ⟨k1, k2⟩ := cls_in c hc
      decreasing_trivial_pre_omega
      refine WC.ex2 (given_ok _ w2 b3) fun g1 w3 ⟨c1, c3⟩ => ?_
      decreasing_trivial_pre_omega
      refine WC.ex2 (given_ok _ w3 c3) fun g2 w4 ⟨d1, d3⟩ => ?_
      decreasing_trivial_pre_omega
      refine WC.eq (right_ok 45 5 c hc g1 c1 _ (by decide)) ?_
      decreasing_trivial_pre_omega
      refine WC.eq (right_ok 45 5 c hc g2 d1 _ (by decide)) ?_
      decreasing_trivial_pre_omega
      refine WC.eq (base_ok 45 5 g2 d1 (by decide)) ?_
      decreasing_trivial_pre_omega
      have hs1 := same_ok 5 g1 53 c1
      have hs2 := same_ok 5 g2 53 d1
      refine WC.exc (raised_ok 57 c hc g1 _) ?_
      refine ⟨⟨rfl, .inl rfl⟩, k1, Hit.yes (e2 := [.val (.list (I ns)), s1, s2, .val (.int j), .own false w4, .val (.int c), .val (.bool (decide (v2 = 1))), .val g1, .val g2, .un]) k2 (by simp) rfl ?_⟩
      rw [show actD .keep (cls c) g1 = errD (cls c) g1 from rfl]
      decreasing_trivial_pre_omega
      refine WC.exc (raised_ok 57 c hc g2 _) ?_
      refine ⟨⟨rfl, .inl rfl⟩, k1, Hit.yes (e2 := [.val (.list (I ns)), .val (errD (cls c) g1), s2, .val (.int j), .own false w4, .val (.int c), .val (.bool (decide (v2 = 1))), .val g1, .val g2, .un]) k2 (by simp) rfl ?_⟩
      rw [show actD .keep (cls c) g2 = errD (cls c) g2 from rfl]
      decreasing_trivial_pre_omega
      refine ⟨k1, ?_⟩
      decreasing_trivial_pre_omega
      refine WC.eq hs1 ?_
      decreasing_trivial_pre_omega
      refine ⟨k1, ?_⟩
      decreasing_trivial_pre_omega
      refine WC.eq hs2 ?_
      decreasing_trivial_pre_omega
      exact ⟨_, _, _, _, _, _, _, _, rfl, inferInstance, inferInstance, inferInstance, inferInstance, inferInstance, inferInstance, inferInstance, inferInstance⟩
    · intro e ⟨s1, s2, s3, s4, s5, s6, s7, s8, he, h1, h2, h3, h4, h5, h6, h7, h8⟩
      subst he
      decreasing_trivial_pre_omega
      refine Lp.of (fun j e => ∃ s5 : Slot, e = [.val (.list (I ns)), s1, s2, s3, s4, s5, s6, s7, s8, .un] ∧ NLs s5) ⟨_, rfl, h5⟩ ?_ ?_
      · intro j x hx e ⟨s5, he, h5⟩
        subst he
        obtain ⟨hj, rfl⟩ := rng_get hx
        rw [show (0 : Int) + (j : Nat) = (j : Int) by omega]
        have hj : j < 20 := hj
        decreasing_trivial_pre_omega
        refine WC.eq (right_ok 45 5 j hj (.int j) (gd_int _ _) false (by decide)) ?_
        decreasing_trivial_pre_omega
        refine WC.eq (right_ok 45 5 j hj (.str "a") (show PyData.strOk ("a" : Str) = true by decide +kernel) true (by decide)) ?_
        decreasing_trivial_pre_omega
        exact inferInstance
      · intro e ⟨s5, he, h5⟩
        subst he
        decreasing_trivial_pre_omega
        exact ⟨rfl, rfl⟩
  obtain ⟨_, _, ls, e, rfl, rfl⟩ := key.get
  exact ⟨ls, e⟩
end K00

namespace K00
open PySem L2 Ev
theorem all_mk {l : PySem.W.OpenLaw} {w : World} {K K2 : PySem.W.Frag} {h : Heap} {mg : Str → Option Value} {fa : Addr} (X : K.In h) (nr : Near K K2) (G : h.Ns mainGlobals mg) (hfa : mg "law" = some (.ref fa))
    {p0 : Addr} {oc0 : Value} {od0 an0 : Option Addr} {sl0 : Array (Option Value)} {kV0 dc0 pm0 cd0 ct0 : Value}
    {p1 : Addr} {oc1 : Value} {od1 an1 : Option Addr} {sl1 : Array (Option Value)} {kV1 dc1 pm1 cd1 ct1 : Value}
    {p2 : Addr} {oc2 : Value} {od2 an2 : Option Addr} {sl2 : Array (Option Value)} {kV2 dc2 pm2 cd2 ct2 : Value}
    {p3 : Addr} {oc3 : Value} {od3 an3 : Option Addr} {sl3 : Array (Option Value)} {kV3 dc3 pm3 cd3 ct3 : Value}
    {p4 : Addr} {oc4 : Value} {od4 an4 : Option Addr} {sl4 : Array (Option Value)} {kV4 dc4 pm4 cd4 ct4 : Value}
    {p5 : Addr} {oc5 : Value} {od5 an5 : Option Addr} {sl5 : Array (Option Value)} {kV5 dc5 pm5 cd5 ct5 : Value}
    {p6 : Addr} {oc6 : Value} {od6 an6 : Option Addr} {sl6 : Array (Option Value)} {kV6 dc6 pm6 cd6 ct6 : Value}
    {p7 : Addr} {oc7 : Value} {od7 an7 : Option Addr} {sl7 : Array (Option Value)} {kV7 dc7 pm7 cd7 ct7 : Value}
    {p8 : Addr} {oc8 : Value} {od8 an8 : Option Addr} {sl8 : Array (Option Value)} {kV8 dc8 pm8 cd8 ct8 : Value}
    {p9 : Addr} {oc9 : Value} {od9 an9 : Option Addr} {sl9 : Array (Option Value)} {kV9 dc9 pm9 cd9 ct9 : Value}
    {p10 : Addr} {oc10 : Value} {od10 an10 : Option Addr} {sl10 : Array (Option Value)} {kV10 dc10 pm10 cd10 ct10 : Value}
    {p11 : Addr} {oc11 : Value} {od11 an11 : Option Addr} {sl11 : Array (Option Value)} {kV11 dc11 pm11 cd11 ct11 : Value}
    {p12 : Addr} {oc12 : Value} {od12 an12 : Option Addr} {sl12 : Array (Option Value)} {kV12 dc12 pm12 cd12 ct12 : Value}
    (a0 : PySem.W.nsIn K mainGlobals "_law_deck" = some (some (.ref p0))) (l0 : K.lookup p0 = some ⟨oc0, od0, .func (PySem.W.fnOf "_law_deck" "_law_deck" (defArgs (topS 23)) (defBody (topS 23)) (defScope (topS 23)) .none kV0 dc0 pm0 an0 cd0 ct0), sl0⟩) (c0 : PySem.W.codeIn K cd0 "_law_deck" = true)
    (a1 : PySem.W.nsIn K mainGlobals "_law_take" = some (some (.ref p1))) (l1 : K.lookup p1 = some ⟨oc1, od1, .func (PySem.W.fnOf "_law_take" "_law_take" (defArgs (topS 24)) (defBody (topS 24)) (defScope (topS 24)) .none kV1 dc1 pm1 an1 cd1 ct1), sl1⟩) (c1 : PySem.W.codeIn K cd1 "_law_take" = true)
    (a2 : PySem.W.nsIn K mainGlobals "_law_same" = some (some (.ref p2))) (l2 : K.lookup p2 = some ⟨oc2, od2, .func (PySem.W.fnOf "_law_same" "_law_same" (defArgs (topS 25)) (defBody (topS 25)) (defScope (topS 25)) .none kV2 dc2 pm2 an2 cd2 ct2), sl2⟩) (c2 : PySem.W.codeIn K cd2 "_law_same" = true)
    (a3 : PySem.W.nsIn K mainGlobals "_law_raise_first" = some (some (.ref p3))) (l3 : K.lookup p3 = some ⟨oc3, od3, .func (PySem.W.fnOf "_law_raise_first" "_law_raise_first" (defArgs (topS 26)) (defBody (topS 26)) (defScope (topS 26)) .none kV3 dc3 pm3 an3 cd3 ct3), sl3⟩) (c3 : PySem.W.codeIn K cd3 "_law_raise_first" = true)
    (a4 : PySem.W.nsIn K mainGlobals "_law_raise_second" = some (some (.ref p4))) (l4 : K.lookup p4 = some ⟨oc4, od4, .func (PySem.W.fnOf "_law_raise_second" "_law_raise_second" (defArgs (topS 27)) (defBody (topS 27)) (defScope (topS 27)) .none kV4 dc4 pm4 an4 cd4 ct4), sl4⟩) (c4 : PySem.W.codeIn K cd4 "_law_raise_second" = true)
    (a5 : PySem.W.nsIn K mainGlobals "_law_raise_named_first" = some (some (.ref p5))) (l5 : K.lookup p5 = some ⟨oc5, od5, .func (PySem.W.fnOf "_law_raise_named_first" "_law_raise_named_first" (defArgs (topS 28)) (defBody (topS 28)) (defScope (topS 28)) .none kV5 dc5 pm5 an5 cd5 ct5), sl5⟩) (c5 : PySem.W.codeIn K cd5 "_law_raise_named_first" = true)
    (a6 : PySem.W.nsIn K mainGlobals "_law_raise_named_second" = some (some (.ref p6))) (l6 : K.lookup p6 = some ⟨oc6, od6, .func (PySem.W.fnOf "_law_raise_named_second" "_law_raise_named_second" (defArgs (topS 29)) (defBody (topS 29)) (defScope (topS 29)) .none kV6 dc6 pm6 an6 cd6 ct6), sl6⟩) (c6 : PySem.W.codeIn K cd6 "_law_raise_named_second" = true)
    (a7 : PySem.W.nsIn K mainGlobals "_law_raised" = some (some (.ref p7))) (l7 : K.lookup p7 = some ⟨oc7, od7, .func (PySem.W.fnOf "_law_raised" "_law_raised" (defArgs (topS 30)) (defBody (topS 30)) (defScope (topS 30)) .none kV7 dc7 pm7 an7 cd7 ct7), sl7⟩) (c7 : PySem.W.codeIn K cd7 "_law_raised" = true)
    (a8 : PySem.W.nsIn K mainGlobals "_law_kinds" = some (some (.ref p8))) (l8 : K.lookup p8 = some ⟨oc8, od8, .func (PySem.W.fnOf "_law_kinds" "_law_kinds" (defArgs (topS 31)) (defBody (topS 31)) (defScope (topS 31)) .none kV8 dc8 pm8 an8 cd8 ct8), sl8⟩) (c8 : PySem.W.codeIn K cd8 "_law_kinds" = true)
    (a9 : PySem.W.nsIn K mainGlobals "_law_given" = some (some (.ref p9))) (l9 : K.lookup p9 = some ⟨oc9, od9, .func (PySem.W.fnOf "_law_given" "_law_given" (defArgs (topS 32)) (defBody (topS 32)) (defScope (topS 32)) .none kV9 dc9 pm9 an9 cd9 ct9), sl9⟩) (c9 : PySem.W.codeIn K cd9 "_law_given" = true)
    (a10 : PySem.W.nsIn K mainGlobals "_law_right" = some (some (.ref p10))) (l10 : K.lookup p10 = some ⟨oc10, od10, .func (PySem.W.fnOf "_law_right" "_law_right" (defArgs (topS 33)) (defBody (topS 33)) (defScope (topS 33)) .none kV10 dc10 pm10 an10 cd10 ct10), sl10⟩) (c10 : PySem.W.codeIn K cd10 "_law_right" = true)
    (a11 : PySem.W.nsIn K mainGlobals "_law_base_right" = some (some (.ref p11))) (l11 : K.lookup p11 = some ⟨oc11, od11, .func (PySem.W.fnOf "_law_base_right" "_law_base_right" (defArgs (topS 34)) (defBody (topS 34)) (defScope (topS 34)) .none kV11 dc11 pm11 an11 cd11 ct11), sl11⟩) (c11 : PySem.W.codeIn K cd11 "_law_base_right" = true)
    (a12 : PySem.W.nsIn K mainGlobals "law" = some (some (.ref p12))) (l12 : K.lookup p12 = some ⟨oc12, od12, .func (PySem.W.fnOf "law" "law" (defArgs (topS 35)) (defBody (topS 35)) (defScope (topS 35)) .none kV12 dc12 pm12 an12 cd12 ct12), sl12⟩) (c12 : PySem.W.codeIn K cd12 "law" = true)
    (z0 : PySem.W.nsIn K mainGlobals "abs" = some none)
    (z1 : PySem.W.nsIn K mainGlobals "all" = some none)
    (z2 : PySem.W.nsIn K mainGlobals "any" = some none)
    (z3 : PySem.W.nsIn K mainGlobals "bool" = some none)
    (z4 : PySem.W.nsIn K mainGlobals "dict" = some none)
    (z5 : PySem.W.nsIn K mainGlobals "enumerate" = some none)
    (z6 : PySem.W.nsIn K mainGlobals "int" = some none)
    (z7 : PySem.W.nsIn K mainGlobals "isinstance" = some none)
    (z8 : PySem.W.nsIn K mainGlobals "len" = some none)
    (z9 : PySem.W.nsIn K mainGlobals "list" = some none)
    (z10 : PySem.W.nsIn K mainGlobals "max" = some none)
    (z11 : PySem.W.nsIn K mainGlobals "min" = some none)
    (z12 : PySem.W.nsIn K mainGlobals "range" = some none)
    (z13 : PySem.W.nsIn K mainGlobals "sorted" = some none)
    (z14 : PySem.W.nsIn K mainGlobals "str" = some none)
    (z15 : PySem.W.nsIn K mainGlobals "sum" = some none)
    (z16 : PySem.W.nsIn K mainGlobals "tuple" = some none)
    (z17 : PySem.W.nsIn K mainGlobals "zip" = some none)
    {fI : Addr} {ocI : Value} {odI anI : Option Addr} {slI : Array (Option Value)} {kVI dcI pmI cdI ctI : Value}
    {eC0 : Addr} {en0 eq0 : Str} {eN0 : Addr} {eb0 em0 : List Value} {es0 : List Str} {eu0 : List Value} {ea0 : Bool} {eo0 : Option Bool} {ed0 : Option Addr} {ek0 el0 ep0 et0 ev0 : Option Value}
    {eC1 : Addr} {en1 eq1 : Str} {eN1 : Addr} {eb1 em1 : List Value} {es1 : List Str} {eu1 : List Value} {ea1 : Bool} {eo1 : Option Bool} {ed1 : Option Addr} {ek1 el1 ep1 et1 ev1 : Option Value}
    {eC2 : Addr} {en2 eq2 : Str} {eN2 : Addr} {eb2 em2 : List Value} {es2 : List Str} {eu2 : List Value} {ea2 : Bool} {eo2 : Option Bool} {ed2 : Option Addr} {ek2 el2 ep2 et2 ev2 : Option Value}
    {eC3 : Addr} {en3 eq3 : Str} {eN3 : Addr} {eb3 em3 : List Value} {es3 : List Str} {eu3 : List Value} {ea3 : Bool} {eo3 : Option Bool} {ed3 : Option Addr} {ek3 el3 ep3 et3 ev3 : Option Value}
    {eC4 : Addr} {en4 eq4 : Str} {eN4 : Addr} {eb4 em4 : List Value} {es4 : List Str} {eu4 : List Value} {ea4 : Bool} {eo4 : Option Bool} {ed4 : Option Addr} {ek4 el4 ep4 et4 ev4 : Option Value}
    {eC5 : Addr} {en5 eq5 : Str} {eN5 : Addr} {eb5 em5 : List Value} {es5 : List Str} {eu5 : List Value} {ea5 : Bool} {eo5 : Option Bool} {ed5 : Option Addr} {ek5 el5 ep5 et5 ev5 : Option Value}
    {eC6 : Addr} {en6 eq6 : Str} {eN6 : Addr} {eb6 em6 : List Value} {es6 : List Str} {eu6 : List Value} {ea6 : Bool} {eo6 : Option Bool} {ed6 : Option Addr} {ek6 el6 ep6 et6 ev6 : Option Value}
    {eC7 : Addr} {en7 eq7 : Str} {eN7 : Addr} {eb7 em7 : List Value} {es7 : List Str} {eu7 : List Value} {ea7 : Bool} {eo7 : Option Bool} {ed7 : Option Addr} {ek7 el7 ep7 et7 ev7 : Option Value}
    {eC8 : Addr} {en8 eq8 : Str} {eN8 : Addr} {eb8 em8 : List Value} {es8 : List Str} {eu8 : List Value} {ea8 : Bool} {eo8 : Option Bool} {ed8 : Option Addr} {ek8 el8 ep8 et8 ev8 : Option Value}
    {eC9 : Addr} {en9 eq9 : Str} {eN9 : Addr} {eb9 em9 : List Value} {es9 : List Str} {eu9 : List Value} {ea9 : Bool} {eo9 : Option Bool} {ed9 : Option Addr} {ek9 el9 ep9 et9 ev9 : Option Value}
    {eC10 : Addr} {en10 eq10 : Str} {eN10 : Addr} {eb10 em10 : List Value} {es10 : List Str} {eu10 : List Value} {ea10 : Bool} {eo10 : Option Bool} {ed10 : Option Addr} {ek10 el10 ep10 et10 ev10 : Option Value}
    {eC11 : Addr} {en11 eq11 : Str} {eN11 : Addr} {eb11 em11 : List Value} {es11 : List Str} {eu11 : List Value} {ea11 : Bool} {eo11 : Option Bool} {ed11 : Option Addr} {ek11 el11 ep11 et11 ev11 : Option Value}
    {eC12 : Addr} {en12 eq12 : Str} {eN12 : Addr} {eb12 em12 : List Value} {es12 : List Str} {eu12 : List Value} {ea12 : Bool} {eo12 : Option Bool} {ed12 : Option Addr} {ek12 el12 ep12 et12 ev12 : Option Value}
    {eC13 : Addr} {en13 eq13 : Str} {eN13 : Addr} {eb13 em13 : List Value} {es13 : List Str} {eu13 : List Value} {ea13 : Bool} {eo13 : Option Bool} {ed13 : Option Addr} {ek13 el13 ep13 et13 ev13 : Option Value}
    {eC14 : Addr} {en14 eq14 : Str} {eN14 : Addr} {eb14 em14 : List Value} {es14 : List Str} {eu14 : List Value} {ea14 : Bool} {eo14 : Option Bool} {ed14 : Option Addr} {ek14 el14 ep14 et14 ev14 : Option Value}
    {eC15 : Addr} {en15 eq15 : Str} {eN15 : Addr} {eb15 em15 : List Value} {es15 : List Str} {eu15 : List Value} {ea15 : Bool} {eo15 : Option Bool} {ed15 : Option Addr} {ek15 el15 ep15 et15 ev15 : Option Value}
    {eC16 : Addr} {en16 eq16 : Str} {eN16 : Addr} {eb16 em16 : List Value} {es16 : List Str} {eu16 : List Value} {ea16 : Bool} {eo16 : Option Bool} {ed16 : Option Addr} {ek16 el16 ep16 et16 ev16 : Option Value}
    {eC17 : Addr} {en17 eq17 : Str} {eN17 : Addr} {eb17 em17 : List Value} {es17 : List Str} {eu17 : List Value} {ea17 : Bool} {eo17 : Option Bool} {ed17 : Option Addr} {ek17 el17 ep17 et17 ev17 : Option Value}
    {eC18 : Addr} {en18 eq18 : Str} {eN18 : Addr} {eb18 em18 : List Value} {es18 : List Str} {eu18 : List Value} {ea18 : Bool} {eo18 : Option Bool} {ed18 : Option Addr} {ek18 el18 ep18 et18 ev18 : Option Value}
    {eC19 : Addr} {en19 eq19 : Str} {eN19 : Addr} {eb19 em19 : List Value} {es19 : List Str} {eu19 : List Value} {ea19 : Bool} {eo19 : Option Bool} {ed19 : Option Addr} {ek19 el19 ep19 et19 ev19 : Option Value}
    {eC20 : Addr} {en20 eq20 : Str} {eN20 : Addr} {eb20 em20 : List Value} {es20 : List Str} {eu20 : List Value} {ea20 : Bool} {eo20 : Option Bool} {ed20 : Option Addr} {ek20 el20 ep20 et20 ev20 : Option Value}
    (aI : PySem.W.nsIn K mainGlobals "ValueError" = some none)
    (xg0 : PySem.W.nsIn K mainGlobals "NotTame" = some (some (.ref eC0)))
    (xl0 : K.lookup eC0 = some (excClassObj en0 eq0 eC0 eN0 eb0 em0 true es0 eu0 ea0 eo0 ed0 ek0 el0 ep0 et0 ev0 "ValueError.__new__"))
    (xr0 : PySem.HandSPX.refsVE em0 = true)
    (xs0 : PySem.W.findIn K (.ref eC0) "__setattr__" = some (some (.builtin "object.__setattr__")))
    (xa0 : PySem.W.findIn K (.ref eC0) "__getattribute__" = some (some (.builtin "BaseException.__getattribute__")))
    (xt0 : PySem.W.findIn K (.ref eC0) "__getattr__" = some none)
    (xv0 : PySem.W.findIn K (.ref eC0) "value" = some none)
    (xi0 : PySem.W.findIn K (.ref eC0) "__init__" = some (some (.ref fI)))
    (xk0 : PySem.W.keepIn K (.ref eC0) = true) (xb0 : PySem.W.subIn K (.ref eC0) (.type "BaseException") = some true) (xy0 : PySem.W.typeIn K (.ref eC0) = some (.type "type")) (xd0 : PySem.W.hasDictIn K eC0 = true) (xc0 : PySem.W.isClsIn K eC0 = true)
    (xg1 : PySem.W.nsIn K mainGlobals "InvalidOrder" = some (some (.ref eC1)))
    (xl1 : K.lookup eC1 = some (excClassObj en1 eq1 eC1 eN1 eb1 em1 true es1 eu1 ea1 eo1 ed1 ek1 el1 ep1 et1 ev1 "ValueError.__new__"))
    (xr1 : PySem.HandSPX.refsVE em1 = true)
    (xs1 : PySem.W.findIn K (.ref eC1) "__setattr__" = some (some (.builtin "object.__setattr__")))
    (xa1 : PySem.W.findIn K (.ref eC1) "__getattribute__" = some (some (.builtin "BaseException.__getattribute__")))
    (xt1 : PySem.W.findIn K (.ref eC1) "__getattr__" = some none)
    (xv1 : PySem.W.findIn K (.ref eC1) "value" = some none)
    (xi1 : PySem.W.findIn K (.ref eC1) "__init__" = some (some (.ref fI)))
    (xk1 : PySem.W.keepIn K (.ref eC1) = true) (xb1 : PySem.W.subIn K (.ref eC1) (.type "BaseException") = some true) (xy1 : PySem.W.typeIn K (.ref eC1) = some (.type "type")) (xd1 : PySem.W.hasDictIn K eC1 = true) (xc1 : PySem.W.isClsIn K eC1 = true)
    (xg2 : PySem.W.nsIn K mainGlobals "InvalidPlace" = some (some (.ref eC2)))
    (xl2 : K.lookup eC2 = some (excClassObj en2 eq2 eC2 eN2 eb2 em2 true es2 eu2 ea2 eo2 ed2 ek2 el2 ep2 et2 ev2 "ValueError.__new__"))
    (xr2 : PySem.HandSPX.refsVE em2 = true)
    (xs2 : PySem.W.findIn K (.ref eC2) "__setattr__" = some (some (.builtin "object.__setattr__")))
    (xa2 : PySem.W.findIn K (.ref eC2) "__getattribute__" = some (some (.builtin "BaseException.__getattribute__")))
    (xt2 : PySem.W.findIn K (.ref eC2) "__getattr__" = some none)
    (xv2 : PySem.W.findIn K (.ref eC2) "value" = some none)
    (xi2 : PySem.W.findIn K (.ref eC2) "__init__" = some (some (.ref fI)))
    (xk2 : PySem.W.keepIn K (.ref eC2) = true) (xb2 : PySem.W.subIn K (.ref eC2) (.type "BaseException") = some true) (xy2 : PySem.W.typeIn K (.ref eC2) = some (.type "type")) (xd2 : PySem.W.hasDictIn K eC2 = true) (xc2 : PySem.W.isClsIn K eC2 = true)
    (xg3 : PySem.W.nsIn K mainGlobals "InvalidJump" = some (some (.ref eC3)))
    (xl3 : K.lookup eC3 = some (excClassObj en3 eq3 eC3 eN3 eb3 em3 true es3 eu3 ea3 eo3 ed3 ek3 el3 ep3 et3 ev3 "ValueError.__new__"))
    (xr3 : PySem.HandSPX.refsVE em3 = true)
    (xs3 : PySem.W.findIn K (.ref eC3) "__setattr__" = some (some (.builtin "object.__setattr__")))
    (xa3 : PySem.W.findIn K (.ref eC3) "__getattribute__" = some (some (.builtin "BaseException.__getattribute__")))
    (xt3 : PySem.W.findIn K (.ref eC3) "__getattr__" = some none)
    (xv3 : PySem.W.findIn K (.ref eC3) "value" = some none)
    (xi3 : PySem.W.findIn K (.ref eC3) "__init__" = some (some (.ref fI)))
    (xk3 : PySem.W.keepIn K (.ref eC3) = true) (xb3 : PySem.W.subIn K (.ref eC3) (.type "BaseException") = some true) (xy3 : PySem.W.typeIn K (.ref eC3) = some (.type "type")) (xd3 : PySem.W.hasDictIn K eC3 = true) (xc3 : PySem.W.isClsIn K eC3 = true)
    (xg4 : PySem.W.nsIn K mainGlobals "InvalidBar" = some (some (.ref eC4)))
    (xl4 : K.lookup eC4 = some (excClassObj en4 eq4 eC4 eN4 eb4 em4 true es4 eu4 ea4 eo4 ed4 ek4 el4 ep4 et4 ev4 "ValueError.__new__"))
    (xr4 : PySem.HandSPX.refsVE em4 = true)
    (xs4 : PySem.W.findIn K (.ref eC4) "__setattr__" = some (some (.builtin "object.__setattr__")))
    (xa4 : PySem.W.findIn K (.ref eC4) "__getattribute__" = some (some (.builtin "BaseException.__getattribute__")))
    (xt4 : PySem.W.findIn K (.ref eC4) "__getattr__" = some none)
    (xv4 : PySem.W.findIn K (.ref eC4) "value" = some none)
    (xi4 : PySem.W.findIn K (.ref eC4) "__init__" = some (some (.ref fI)))
    (xk4 : PySem.W.keepIn K (.ref eC4) = true) (xb4 : PySem.W.subIn K (.ref eC4) (.type "BaseException") = some true) (xy4 : PySem.W.typeIn K (.ref eC4) = some (.type "type")) (xd4 : PySem.W.hasDictIn K eC4 = true) (xc4 : PySem.W.isClsIn K eC4 = true)
    (xg5 : PySem.W.nsIn K mainGlobals "InvalidSaying" = some (some (.ref eC5)))
    (xl5 : K.lookup eC5 = some (excClassObj en5 eq5 eC5 eN5 eb5 em5 true es5 eu5 ea5 eo5 ed5 ek5 el5 ep5 et5 ev5 "ValueError.__new__"))
    (xr5 : PySem.HandSPX.refsVE em5 = true)
    (xs5 : PySem.W.findIn K (.ref eC5) "__setattr__" = some (some (.builtin "object.__setattr__")))
    (xa5 : PySem.W.findIn K (.ref eC5) "__getattribute__" = some (some (.builtin "BaseException.__getattribute__")))
    (xt5 : PySem.W.findIn K (.ref eC5) "__getattr__" = some none)
    (xv5 : PySem.W.findIn K (.ref eC5) "value" = some none)
    (xi5 : PySem.W.findIn K (.ref eC5) "__init__" = some (some (.ref fI)))
    (xk5 : PySem.W.keepIn K (.ref eC5) = true) (xb5 : PySem.W.subIn K (.ref eC5) (.type "BaseException") = some true) (xy5 : PySem.W.typeIn K (.ref eC5) = some (.type "type")) (xd5 : PySem.W.hasDictIn K eC5 = true) (xc5 : PySem.W.isClsIn K eC5 = true)
    (xg6 : PySem.W.nsIn K mainGlobals "InvalidNumber" = some (some (.ref eC6)))
    (xl6 : K.lookup eC6 = some (excClassObj en6 eq6 eC6 eN6 eb6 em6 true es6 eu6 ea6 eo6 ed6 ek6 el6 ep6 et6 ev6 "ValueError.__new__"))
    (xr6 : PySem.HandSPX.refsVE em6 = true)
    (xs6 : PySem.W.findIn K (.ref eC6) "__setattr__" = some (some (.builtin "object.__setattr__")))
    (xa6 : PySem.W.findIn K (.ref eC6) "__getattribute__" = some (some (.builtin "BaseException.__getattribute__")))
    (xt6 : PySem.W.findIn K (.ref eC6) "__getattr__" = some none)
    (xv6 : PySem.W.findIn K (.ref eC6) "value" = some none)
    (xi6 : PySem.W.findIn K (.ref eC6) "__init__" = some (some (.ref fI)))
    (xk6 : PySem.W.keepIn K (.ref eC6) = true) (xb6 : PySem.W.subIn K (.ref eC6) (.type "BaseException") = some true) (xy6 : PySem.W.typeIn K (.ref eC6) = some (.type "type")) (xd6 : PySem.W.hasDictIn K eC6 = true) (xc6 : PySem.W.isClsIn K eC6 = true)
    (xg7 : PySem.W.nsIn K mainGlobals "InvalidPair" = some (some (.ref eC7)))
    (xl7 : K.lookup eC7 = some (excClassObj en7 eq7 eC7 eN7 eb7 em7 true es7 eu7 ea7 eo7 ed7 ek7 el7 ep7 et7 ev7 "ValueError.__new__"))
    (xr7 : PySem.HandSPX.refsVE em7 = true)
    (xs7 : PySem.W.findIn K (.ref eC7) "__setattr__" = some (some (.builtin "object.__setattr__")))
    (xa7 : PySem.W.findIn K (.ref eC7) "__getattribute__" = some (some (.builtin "BaseException.__getattribute__")))
    (xt7 : PySem.W.findIn K (.ref eC7) "__getattr__" = some none)
    (xv7 : PySem.W.findIn K (.ref eC7) "value" = some none)
    (xi7 : PySem.W.findIn K (.ref eC7) "__init__" = some (some (.ref fI)))
    (xk7 : PySem.W.keepIn K (.ref eC7) = true) (xb7 : PySem.W.subIn K (.ref eC7) (.type "BaseException") = some true) (xy7 : PySem.W.typeIn K (.ref eC7) = some (.type "type")) (xd7 : PySem.W.hasDictIn K eC7 = true) (xc7 : PySem.W.isClsIn K eC7 = true)
    (xg8 : PySem.W.nsIn K mainGlobals "InvalidWalk" = some (some (.ref eC8)))
    (xl8 : K.lookup eC8 = some (excClassObj en8 eq8 eC8 eN8 eb8 em8 true es8 eu8 ea8 eo8 ed8 ek8 el8 ep8 et8 ev8 "ValueError.__new__"))
    (xr8 : PySem.HandSPX.refsVE em8 = true)
    (xs8 : PySem.W.findIn K (.ref eC8) "__setattr__" = some (some (.builtin "object.__setattr__")))
    (xa8 : PySem.W.findIn K (.ref eC8) "__getattribute__" = some (some (.builtin "BaseException.__getattribute__")))
    (xt8 : PySem.W.findIn K (.ref eC8) "__getattr__" = some none)
    (xv8 : PySem.W.findIn K (.ref eC8) "value" = some none)
    (xi8 : PySem.W.findIn K (.ref eC8) "__init__" = some (some (.ref fI)))
    (xk8 : PySem.W.keepIn K (.ref eC8) = true) (xb8 : PySem.W.subIn K (.ref eC8) (.type "BaseException") = some true) (xy8 : PySem.W.typeIn K (.ref eC8) = some (.type "type")) (xd8 : PySem.W.hasDictIn K eC8 = true) (xc8 : PySem.W.isClsIn K eC8 = true)
    (xg9 : PySem.W.nsIn K mainGlobals "NotMeant" = some (some (.ref eC9)))
    (xl9 : K.lookup eC9 = some (excClassObj en9 eq9 eC9 eN9 eb9 em9 true es9 eu9 ea9 eo9 ed9 ek9 el9 ep9 et9 ev9 "ValueError.__new__"))
    (xr9 : PySem.HandSPX.refsVE em9 = true)
    (xs9 : PySem.W.findIn K (.ref eC9) "__setattr__" = some (some (.builtin "object.__setattr__")))
    (xa9 : PySem.W.findIn K (.ref eC9) "__getattribute__" = some (some (.builtin "BaseException.__getattribute__")))
    (xt9 : PySem.W.findIn K (.ref eC9) "__getattr__" = some none)
    (xv9 : PySem.W.findIn K (.ref eC9) "value" = some none)
    (xi9 : PySem.W.findIn K (.ref eC9) "__init__" = some (some (.ref fI)))
    (xk9 : PySem.W.keepIn K (.ref eC9) = true) (xb9 : PySem.W.subIn K (.ref eC9) (.type "BaseException") = some true) (xy9 : PySem.W.typeIn K (.ref eC9) = some (.type "type")) (xd9 : PySem.W.hasDictIn K eC9 = true) (xc9 : PySem.W.isClsIn K eC9 = true)
    (xg10 : PySem.W.nsIn K mainGlobals "Unorderly" = some (some (.ref eC10)))
    (xl10 : K.lookup eC10 = some (excClassObj en10 eq10 eC10 eN10 eb10 em10 true es10 eu10 ea10 eo10 ed10 ek10 el10 ep10 et10 ev10 "ValueError.__new__"))
    (xr10 : PySem.HandSPX.refsVE em10 = true)
    (xs10 : PySem.W.findIn K (.ref eC10) "__setattr__" = some (some (.builtin "object.__setattr__")))
    (xa10 : PySem.W.findIn K (.ref eC10) "__getattribute__" = some (some (.builtin "BaseException.__getattribute__")))
    (xt10 : PySem.W.findIn K (.ref eC10) "__getattr__" = some none)
    (xv10 : PySem.W.findIn K (.ref eC10) "value" = some none)
    (xi10 : PySem.W.findIn K (.ref eC10) "__init__" = some (some (.ref fI)))
    (xk10 : PySem.W.keepIn K (.ref eC10) = true) (xb10 : PySem.W.subIn K (.ref eC10) (.type "BaseException") = some true) (xy10 : PySem.W.typeIn K (.ref eC10) = some (.type "type")) (xd10 : PySem.W.hasDictIn K eC10 = true) (xc10 : PySem.W.isClsIn K eC10 = true)
    (xg11 : PySem.W.nsIn K mainGlobals "InvalidKind" = some (some (.ref eC11)))
    (xl11 : K.lookup eC11 = some (excClassObj en11 eq11 eC11 eN11 eb11 em11 true es11 eu11 ea11 eo11 ed11 ek11 el11 ep11 et11 ev11 "ValueError.__new__"))
    (xr11 : PySem.HandSPX.refsVE em11 = true)
    (xs11 : PySem.W.findIn K (.ref eC11) "__setattr__" = some (some (.builtin "object.__setattr__")))
    (xa11 : PySem.W.findIn K (.ref eC11) "__getattribute__" = some (some (.builtin "BaseException.__getattribute__")))
    (xt11 : PySem.W.findIn K (.ref eC11) "__getattr__" = some none)
    (xv11 : PySem.W.findIn K (.ref eC11) "value" = some none)
    (xi11 : PySem.W.findIn K (.ref eC11) "__init__" = some (some (.ref fI)))
    (xk11 : PySem.W.keepIn K (.ref eC11) = true) (xb11 : PySem.W.subIn K (.ref eC11) (.type "BaseException") = some true) (xy11 : PySem.W.typeIn K (.ref eC11) = some (.type "type")) (xd11 : PySem.W.hasDictIn K eC11 = true) (xc11 : PySem.W.isClsIn K eC11 = true)
    (xg12 : PySem.W.nsIn K mainGlobals "InvalidThing" = some (some (.ref eC12)))
    (xl12 : K.lookup eC12 = some (excClassObj en12 eq12 eC12 eN12 eb12 em12 true es12 eu12 ea12 eo12 ed12 ek12 el12 ep12 et12 ev12 "ValueError.__new__"))
    (xr12 : PySem.HandSPX.refsVE em12 = true)
    (xs12 : PySem.W.findIn K (.ref eC12) "__setattr__" = some (some (.builtin "object.__setattr__")))
    (xa12 : PySem.W.findIn K (.ref eC12) "__getattribute__" = some (some (.builtin "BaseException.__getattribute__")))
    (xt12 : PySem.W.findIn K (.ref eC12) "__getattr__" = some none)
    (xv12 : PySem.W.findIn K (.ref eC12) "value" = some none)
    (xi12 : PySem.W.findIn K (.ref eC12) "__init__" = some (some (.ref fI)))
    (xk12 : PySem.W.keepIn K (.ref eC12) = true) (xb12 : PySem.W.subIn K (.ref eC12) (.type "BaseException") = some true) (xy12 : PySem.W.typeIn K (.ref eC12) = some (.type "type")) (xd12 : PySem.W.hasDictIn K eC12 = true) (xc12 : PySem.W.isClsIn K eC12 = true)
    (xg13 : PySem.W.nsIn K mainGlobals "InvalidWeb" = some (some (.ref eC13)))
    (xl13 : K.lookup eC13 = some (excClassObj en13 eq13 eC13 eN13 eb13 em13 true es13 eu13 ea13 eo13 ed13 ek13 el13 ep13 et13 ev13 "ValueError.__new__"))
    (xr13 : PySem.HandSPX.refsVE em13 = true)
    (xs13 : PySem.W.findIn K (.ref eC13) "__setattr__" = some (some (.builtin "object.__setattr__")))
    (xa13 : PySem.W.findIn K (.ref eC13) "__getattribute__" = some (some (.builtin "BaseException.__getattribute__")))
    (xt13 : PySem.W.findIn K (.ref eC13) "__getattr__" = some none)
    (xv13 : PySem.W.findIn K (.ref eC13) "value" = some none)
    (xi13 : PySem.W.findIn K (.ref eC13) "__init__" = some (some (.ref fI)))
    (xk13 : PySem.W.keepIn K (.ref eC13) = true) (xb13 : PySem.W.subIn K (.ref eC13) (.type "BaseException") = some true) (xy13 : PySem.W.typeIn K (.ref eC13) = some (.type "type")) (xd13 : PySem.W.hasDictIn K eC13 = true) (xc13 : PySem.W.isClsIn K eC13 = true)
    (xg14 : PySem.W.nsIn K mainGlobals "InvalidPrices" = some (some (.ref eC14)))
    (xl14 : K.lookup eC14 = some (excClassObj en14 eq14 eC14 eN14 eb14 em14 true es14 eu14 ea14 eo14 ed14 ek14 el14 ep14 et14 ev14 "ValueError.__new__"))
    (xr14 : PySem.HandSPX.refsVE em14 = true)
    (xs14 : PySem.W.findIn K (.ref eC14) "__setattr__" = some (some (.builtin "object.__setattr__")))
    (xa14 : PySem.W.findIn K (.ref eC14) "__getattribute__" = some (some (.builtin "BaseException.__getattribute__")))
    (xt14 : PySem.W.findIn K (.ref eC14) "__getattr__" = some none)
    (xv14 : PySem.W.findIn K (.ref eC14) "value" = some none)
    (xi14 : PySem.W.findIn K (.ref eC14) "__init__" = some (some (.ref fI)))
    (xk14 : PySem.W.keepIn K (.ref eC14) = true) (xb14 : PySem.W.subIn K (.ref eC14) (.type "BaseException") = some true) (xy14 : PySem.W.typeIn K (.ref eC14) = some (.type "type")) (xd14 : PySem.W.hasDictIn K eC14 = true) (xc14 : PySem.W.isClsIn K eC14 = true)
    (xg15 : PySem.W.nsIn K mainGlobals "HasRound" = some (some (.ref eC15)))
    (xl15 : K.lookup eC15 = some (excClassObj en15 eq15 eC15 eN15 eb15 em15 true es15 eu15 ea15 eo15 ed15 ek15 el15 ep15 et15 ev15 "ValueError.__new__"))
    (xr15 : PySem.HandSPX.refsVE em15 = true)
    (xs15 : PySem.W.findIn K (.ref eC15) "__setattr__" = some (some (.builtin "object.__setattr__")))
    (xa15 : PySem.W.findIn K (.ref eC15) "__getattribute__" = some (some (.builtin "BaseException.__getattribute__")))
    (xt15 : PySem.W.findIn K (.ref eC15) "__getattr__" = some none)
    (xv15 : PySem.W.findIn K (.ref eC15) "value" = some none)
    (xi15 : PySem.W.findIn K (.ref eC15) "__init__" = some (some (.ref fI)))
    (xk15 : PySem.W.keepIn K (.ref eC15) = true) (xb15 : PySem.W.subIn K (.ref eC15) (.type "BaseException") = some true) (xy15 : PySem.W.typeIn K (.ref eC15) = some (.type "type")) (xd15 : PySem.W.hasDictIn K eC15 = true) (xc15 : PySem.W.isClsIn K eC15 = true)
    (xg16 : PySem.W.nsIn K mainGlobals "InvalidName" = some (some (.ref eC16)))
    (xl16 : K.lookup eC16 = some (excClassObj en16 eq16 eC16 eN16 eb16 em16 true es16 eu16 ea16 eo16 ed16 ek16 el16 ep16 et16 ev16 "ValueError.__new__"))
    (xr16 : PySem.HandSPX.refsVE em16 = true)
    (xs16 : PySem.W.findIn K (.ref eC16) "__setattr__" = some (some (.builtin "object.__setattr__")))
    (xa16 : PySem.W.findIn K (.ref eC16) "__getattribute__" = some (some (.builtin "BaseException.__getattribute__")))
    (xt16 : PySem.W.findIn K (.ref eC16) "__getattr__" = some none)
    (xv16 : PySem.W.findIn K (.ref eC16) "value" = some none)
    (xi16 : PySem.W.findIn K (.ref eC16) "__init__" = some (some (.ref fI)))
    (xk16 : PySem.W.keepIn K (.ref eC16) = true) (xb16 : PySem.W.subIn K (.ref eC16) (.type "BaseException") = some true) (xy16 : PySem.W.typeIn K (.ref eC16) = some (.type "type")) (xd16 : PySem.W.hasDictIn K eC16 = true) (xc16 : PySem.W.isClsIn K eC16 = true)
    (xg17 : PySem.W.nsIn K mainGlobals "UnknownName" = some (some (.ref eC17)))
    (xl17 : K.lookup eC17 = some (excClassObj en17 eq17 eC17 eN17 eb17 em17 true es17 eu17 ea17 eo17 ed17 ek17 el17 ep17 et17 ev17 "ValueError.__new__"))
    (xr17 : PySem.HandSPX.refsVE em17 = true)
    (xs17 : PySem.W.findIn K (.ref eC17) "__setattr__" = some (some (.builtin "object.__setattr__")))
    (xa17 : PySem.W.findIn K (.ref eC17) "__getattribute__" = some (some (.builtin "BaseException.__getattribute__")))
    (xt17 : PySem.W.findIn K (.ref eC17) "__getattr__" = some none)
    (xv17 : PySem.W.findIn K (.ref eC17) "value" = some none)
    (xi17 : PySem.W.findIn K (.ref eC17) "__init__" = some (some (.ref fI)))
    (xk17 : PySem.W.keepIn K (.ref eC17) = true) (xb17 : PySem.W.subIn K (.ref eC17) (.type "BaseException") = some true) (xy17 : PySem.W.typeIn K (.ref eC17) = some (.type "type")) (xd17 : PySem.W.hasDictIn K eC17 = true) (xc17 : PySem.W.isClsIn K eC17 = true)
    (xg18 : PySem.W.nsIn K mainGlobals "NothingToUndo" = some (some (.ref eC18)))
    (xl18 : K.lookup eC18 = some (excClassObj en18 eq18 eC18 eN18 eb18 em18 true es18 eu18 ea18 eo18 ed18 ek18 el18 ep18 et18 ev18 "ValueError.__new__"))
    (xr18 : PySem.HandSPX.refsVE em18 = true)
    (xs18 : PySem.W.findIn K (.ref eC18) "__setattr__" = some (some (.builtin "object.__setattr__")))
    (xa18 : PySem.W.findIn K (.ref eC18) "__getattribute__" = some (some (.builtin "BaseException.__getattribute__")))
    (xt18 : PySem.W.findIn K (.ref eC18) "__getattr__" = some none)
    (xv18 : PySem.W.findIn K (.ref eC18) "value" = some none)
    (xi18 : PySem.W.findIn K (.ref eC18) "__init__" = some (some (.ref fI)))
    (xk18 : PySem.W.keepIn K (.ref eC18) = true) (xb18 : PySem.W.subIn K (.ref eC18) (.type "BaseException") = some true) (xy18 : PySem.W.typeIn K (.ref eC18) = some (.type "type")) (xd18 : PySem.W.hasDictIn K eC18 = true) (xc18 : PySem.W.isClsIn K eC18 = true)
    (xg19 : PySem.W.nsIn K mainGlobals "Unreadable" = some (some (.ref eC19)))
    (xl19 : K.lookup eC19 = some (excClassObj en19 eq19 eC19 eN19 eb19 em19 true es19 eu19 ea19 eo19 ed19 ek19 el19 ep19 et19 ev19 "ValueError.__new__"))
    (xr19 : PySem.HandSPX.refsVE em19 = true)
    (xs19 : PySem.W.findIn K (.ref eC19) "__setattr__" = some (some (.builtin "object.__setattr__")))
    (xa19 : PySem.W.findIn K (.ref eC19) "__getattribute__" = some (some (.builtin "BaseException.__getattribute__")))
    (xt19 : PySem.W.findIn K (.ref eC19) "__getattr__" = some none)
    (xv19 : PySem.W.findIn K (.ref eC19) "value" = some none)
    (xi19 : PySem.W.findIn K (.ref eC19) "__init__" = some (some (.ref fI)))
    (xk19 : PySem.W.keepIn K (.ref eC19) = true) (xb19 : PySem.W.subIn K (.ref eC19) (.type "BaseException") = some true) (xy19 : PySem.W.typeIn K (.ref eC19) = some (.type "type")) (xd19 : PySem.W.hasDictIn K eC19 = true) (xc19 : PySem.W.isClsIn K eC19 = true)
    (xg20 : PySem.W.nsIn K mainGlobals "JumpError" = some (some (.ref eC20)))
    (xl20 : K.lookup eC20 = some (excClassObj en20 eq20 eC20 eN20 eb20 em20 true es20 eu20 ea20 eo20 ed20 ek20 el20 ep20 et20 ev20 "ValueError.__new__"))
    (xr20 : PySem.HandSPX.refsVE em20 = true)
    (xs20 : PySem.W.findIn K (.ref eC20) "__setattr__" = some (some (.builtin "object.__setattr__")))
    (xa20 : PySem.W.findIn K (.ref eC20) "__getattribute__" = some (some (.builtin "BaseException.__getattribute__")))
    (xt20 : PySem.W.findIn K (.ref eC20) "__getattr__" = some none)
    (xv20 : PySem.W.findIn K (.ref eC20) "value" = some none)
    (xi20 : PySem.W.findIn K (.ref eC20) "__init__" = some (some (.ref fI)))
    (xk20 : PySem.W.keepIn K (.ref eC20) = true) (xb20 : PySem.W.subIn K (.ref eC20) (.type "BaseException") = some true) (xy20 : PySem.W.typeIn K (.ref eC20) = some (.type "type")) (xd20 : PySem.W.hasDictIn K eC20 = true) (xc20 : PySem.W.isClsIn K eC20 = true)
    (tI : PySem.W.typeIn K (.ref fI) = some (.type "function"))
    (lI : K.lookup fI = some ⟨ocI, odI, .func (PySem.W.fnOf "__init__" "JumpError.__init__" (defArgs iSt) (defBody iSt) (defScope iSt) .none kVI dcI pmI anI cdI ctI), slI⟩) (cI : PySem.W.codeIn K cdI "JumpError.__init__" = true)
    (xpp : subAll K [((("NotTame" : Str) : Str), eC0), ((("InvalidOrder" : Str) : Str), eC1), ((("InvalidPlace" : Str) : Str), eC2), ((("InvalidJump" : Str) : Str), eC3), ((("InvalidBar" : Str) : Str), eC4), ((("InvalidSaying" : Str) : Str), eC5), ((("InvalidNumber" : Str) : Str), eC6), ((("InvalidPair" : Str) : Str), eC7), ((("InvalidWalk" : Str) : Str), eC8), ((("NotMeant" : Str) : Str), eC9), ((("Unorderly" : Str) : Str), eC10), ((("InvalidKind" : Str) : Str), eC11), ((("InvalidThing" : Str) : Str), eC12), ((("InvalidWeb" : Str) : Str), eC13), ((("InvalidPrices" : Str) : Str), eC14), ((("HasRound" : Str) : Str), eC15), ((("InvalidName" : Str) : Str), eC16), ((("UnknownName" : Str) : Str), eC17), ((("NothingToUndo" : Str) : Str), eC18), ((("Unreadable" : Str) : Str), eC19), ((("JumpError" : Str) : Str), eC20)] [((("NotTame" : Str) : Str), eC0), ((("InvalidOrder" : Str) : Str), eC1), ((("InvalidPlace" : Str) : Str), eC2), ((("InvalidJump" : Str) : Str), eC3), ((("InvalidBar" : Str) : Str), eC4), ((("InvalidSaying" : Str) : Str), eC5), ((("InvalidNumber" : Str) : Str), eC6), ((("InvalidPair" : Str) : Str), eC7), ((("InvalidWalk" : Str) : Str), eC8), ((("NotMeant" : Str) : Str), eC9), ((("Unorderly" : Str) : Str), eC10), ((("InvalidKind" : Str) : Str), eC11), ((("InvalidThing" : Str) : Str), eC12), ((("InvalidWeb" : Str) : Str), eC13), ((("InvalidPrices" : Str) : Str), eC14), ((("HasRound" : Str) : Str), eC15), ((("InvalidName" : Str) : Str), eC16), ((("UnknownName" : Str) : Str), eC17), ((("NothingToUndo" : Str) : Str), eC18), ((("Unreadable" : Str) : Str), eC19), ((("JumpError" : Str) : Str), eC20)] = true)
    (xkk : kitAll K [((("NotTame" : Str) : Str), eC0), ((("InvalidOrder" : Str) : Str), eC1), ((("InvalidPlace" : Str) : Str), eC2), ((("InvalidJump" : Str) : Str), eC3), ((("InvalidBar" : Str) : Str), eC4), ((("InvalidSaying" : Str) : Str), eC5), ((("InvalidNumber" : Str) : Str), eC6), ((("InvalidPair" : Str) : Str), eC7), ((("InvalidWalk" : Str) : Str), eC8), ((("NotMeant" : Str) : Str), eC9), ((("Unorderly" : Str) : Str), eC10), ((("InvalidKind" : Str) : Str), eC11), ((("InvalidThing" : Str) : Str), eC12), ((("InvalidWeb" : Str) : Str), eC13), ((("InvalidPrices" : Str) : Str), eC14), ((("HasRound" : Str) : Str), eC15), ((("InvalidName" : Str) : Str), eC16), ((("UnknownName" : Str) : Str), eC17), ((("NothingToUndo" : Str) : Str), eC18), ((("Unreadable" : Str) : Str), eC19), ((("JumpError" : Str) : Str), eC20)] [((("InvalidOrder" : Str) : Str), Value.ref eC1), ((("InvalidPlace" : Str) : Str), Value.ref eC2), ((("InvalidJump" : Str) : Str), Value.ref eC3), ((("InvalidBar" : Str) : Str), Value.ref eC4), ((("InvalidSaying" : Str) : Str), Value.ref eC5), ((("InvalidNumber" : Str) : Str), Value.ref eC6), ((("InvalidPair" : Str) : Str), Value.ref eC7), ((("InvalidWalk" : Str) : Str), Value.ref eC8), ((("NotMeant" : Str) : Str), Value.ref eC9), ((("NotTame" : Str) : Str), Value.ref eC0), ((("InvalidKind" : Str) : Str), Value.ref eC11), ((("InvalidThing" : Str) : Str), Value.ref eC12), ((("InvalidWeb" : Str) : Str), Value.ref eC13), ((("InvalidPrices" : Str) : Str), Value.ref eC14), ((("HasRound" : Str) : Str), Value.ref eC15), ((("InvalidName" : Str) : Str), Value.ref eC16), ((("UnknownName" : Str) : Str), Value.ref eC17), ((("NothingToUndo" : Str) : Str), Value.ref eC18), ((("Unreadable" : Str) : Str), Value.ref eC19), ((("Unorderly" : Str) : Str), Value.ref eC10), ((("ValueError" : Str) : Str), Value.type "ValueError")] = true)
    : ∃ fd : FuncData, (∀ (s : Shared) (v : Value), BindsTo s fd ⟨[v], []⟩ [("script", v)]) ∧ ∀ base : Heap, K2.In base → base.Ns mainGlobals mg → FnOk l.prog w K2 mg base (L2.CX l.prog w) (60 + 2) fa fd ["script"] (spEv K2 mg (run tab 60) 12 f12) := by
  have e := hfa.symm.trans (PySem.W.mg_of X G a12)
  cases e
  have F0 := nr.fn (st := topS 23) l0 c0
  have D0 : Def T K2 mg f0 (topS 23) p0 _ := ⟨⟨_, F0⟩, PySem.W.mg_of X G a0, F0.binds (ps := f0.ps) (fun _ _ _ _ _ _ us hl => match us, hl with | [_, _], _ => rfl), (fun q hq => by cases hq), S0, C0, rfl⟩
  have F1 := nr.fn (st := topS 24) l1 c1
  have D1 : Def T K2 mg f1 (topS 24) p1 _ := ⟨⟨_, F1⟩, PySem.W.mg_of X G a1, F1.binds (ps := f1.ps) (fun _ _ _ _ _ _ us hl => match us, hl with | [_, _], _ => rfl), (fun q hq => by cases hq), S1, C1, rfl⟩
  have F2 := nr.fn (st := topS 25) l2 c2
  have D2 : Def T K2 mg f2 (topS 25) p2 _ := ⟨⟨_, F2⟩, PySem.W.mg_of X G a2, F2.binds (ps := f2.ps) (fun _ _ _ _ _ _ us hl => match us, hl with | [_, _], _ => rfl), (fun q hq => by cases hq), S2, C2, rfl⟩
  have F3 := nr.fn (st := topS 26) l3 c3
  have D3 : Def T K2 mg f3 (topS 26) p3 _ := ⟨⟨_, F3⟩, PySem.W.mg_of X G a3, F3.binds (ps := f3.ps) (fun _ _ _ _ _ _ us hl => match us, hl with | [_, _], _ => rfl), (fun q hq => by cases hq), S3, C3, rfl⟩
  have F4 := nr.fn (st := topS 27) l4 c4
  have D4 : Def T K2 mg f4 (topS 27) p4 _ := ⟨⟨_, F4⟩, PySem.W.mg_of X G a4, F4.binds (ps := f4.ps) (fun _ _ _ _ _ _ us hl => match us, hl with | [_, _], _ => rfl), (fun q hq => by cases hq), S4, C4, rfl⟩
  have F5 := nr.fn (st := topS 28) l5 c5
  have D5 : Def T K2 mg f5 (topS 28) p5 _ := ⟨⟨_, F5⟩, PySem.W.mg_of X G a5, F5.binds (ps := f5.ps) (fun _ _ _ _ _ _ us hl => match us, hl with | [_, _], _ => rfl), (fun q hq => by cases hq), S5, C5, rfl⟩
  have F6 := nr.fn (st := topS 29) l6 c6
  have D6 : Def T K2 mg f6 (topS 29) p6 _ := ⟨⟨_, F6⟩, PySem.W.mg_of X G a6, F6.binds (ps := f6.ps) (fun _ _ _ _ _ _ us hl => match us, hl with | [_, _], _ => rfl), (fun q hq => by cases hq), S6, C6, rfl⟩
  have F7 := nr.fn (st := topS 30) l7 c7
  have D7 : Def T K2 mg f7 (topS 30) p7 _ := ⟨⟨_, F7⟩, PySem.W.mg_of X G a7, F7.binds (ps := f7.ps) (fun _ _ _ _ _ _ us hl => match us, hl with | [_, _, _], _ => rfl), (fun q hq => by cases hq), S7, C7, rfl⟩
  have F8 := nr.fn (st := topS 31) l8 c8
  have D8 : Def T K2 mg f8 (topS 31) p8 _ := ⟨⟨_, F8⟩, PySem.W.mg_of X G a8, F8.binds (ps := f8.ps) (fun _ _ _ _ _ _ us hl => match us, hl with | [_], _ => rfl), (fun q hq => by cases hq), S8, C8, rfl⟩
  have F9 := nr.fn (st := topS 32) l9 c9
  have D9 : Def T K2 mg f9 (topS 32) p9 _ := ⟨⟨_, F9⟩, PySem.W.mg_of X G a9, F9.binds (ps := f9.ps) (fun _ _ _ _ _ _ us hl => match us, hl with | [_], _ => rfl), (fun q hq => by cases hq), S9, C9, rfl⟩
  have F10 := nr.fn (st := topS 33) l10 c10
  have D10 : Def T K2 mg f10 (topS 33) p10 _ := ⟨⟨_, F10⟩, PySem.W.mg_of X G a10, F10.binds (ps := f10.ps) (fun _ _ _ _ _ _ us hl => match us, hl with | [_, _, _], _ => rfl), (fun q hq => by cases hq), S10, C10, rfl⟩
  have F11 := nr.fn (st := topS 34) l11 c11
  have D11 : Def T K2 mg f11 (topS 34) p11 _ := ⟨⟨_, F11⟩, PySem.W.mg_of X G a11, F11.binds (ps := f11.ps) (fun _ _ _ _ _ _ us hl => match us, hl with | [_], _ => rfl), (fun q hq => by cases hq), S11, C11, rfl⟩
  have F12 := nr.fn (st := topS 35) l12 c12
  have D12 : Def T K2 mg f12 (topS 35) fa _ := ⟨⟨_, F12⟩, PySem.W.mg_of X G a12, F12.binds (ps := f12.ps) (fun _ _ _ _ _ _ us hl => match us, hl with | [_], _ => rfl), (fun q hq => by cases hq), S12, C12, rfl⟩
  have FI := nr.fn (st := iSt) lI cI
  have OI := fun (P : Program) (w : World) (base : Heap) => init_ok (P := P) (w := w) (base := base) (mg := mg) FI SIi (hB := rfl) (fun env => rfl) (by decide +kernel) (by decide +kernel) (by decide +kernel) (PySem.W.mg_none_of X G aI) ve_init
  have BI := FI.binds (ps := NI) (fun _ _ _ _ _ _ us hl => match us, hl with | [_, _], _ => rfl)
  have TI := nr.type tI (by decide)
  have ER : ∀ cn, T.errs.contains cn = true → ∃ (fI : Addr) (fd : FuncData) (Cl : Addr), ErrC K2 mg fI cn Cl ∧ PySem.W.typeIn K2 (.ref fI) = some (.type "function") ∧ (∀ (P : Program) (w : World) (base : Heap), FnOk P w K2 mg base (L2.CX P w) 1 fI fd NI (spI K2)) ∧ Binds K2 fd NI [] ∧ (∀ (s : Shared) (a u : Value), BindsTo s fd ⟨[a], [(("value" : Str), u)]⟩ (NI.zip [a, u])) := by
    intro cn h
    have h : cn ∈ T.errs := by simpa using h
    simp only [T, List.mem_cons, List.not_mem_nil, or_false] at h
    rcases h with rfl | rfl | rfl | rfl | rfl | rfl | rfl | rfl | rfl | rfl | rfl | rfl | rfl | rfl | rfl | rfl | rfl | rfl | rfl | rfl | rfl
    · exact ⟨fI, _, eC0, err_mk nr (PySem.W.mg_of X G xg0) xl0 xr0 xs0 xa0 xt0 xv0 xi0 xg0 xk0 xb0 xy0 xd0, TI, OI, BI, fun s a u => .of_eq rfl⟩
    · exact ⟨fI, _, eC1, err_mk nr (PySem.W.mg_of X G xg1) xl1 xr1 xs1 xa1 xt1 xv1 xi1 xg1 xk1 xb1 xy1 xd1, TI, OI, BI, fun s a u => .of_eq rfl⟩
    · exact ⟨fI, _, eC2, err_mk nr (PySem.W.mg_of X G xg2) xl2 xr2 xs2 xa2 xt2 xv2 xi2 xg2 xk2 xb2 xy2 xd2, TI, OI, BI, fun s a u => .of_eq rfl⟩
    · exact ⟨fI, _, eC3, err_mk nr (PySem.W.mg_of X G xg3) xl3 xr3 xs3 xa3 xt3 xv3 xi3 xg3 xk3 xb3 xy3 xd3, TI, OI, BI, fun s a u => .of_eq rfl⟩
    · exact ⟨fI, _, eC4, err_mk nr (PySem.W.mg_of X G xg4) xl4 xr4 xs4 xa4 xt4 xv4 xi4 xg4 xk4 xb4 xy4 xd4, TI, OI, BI, fun s a u => .of_eq rfl⟩
    · exact ⟨fI, _, eC5, err_mk nr (PySem.W.mg_of X G xg5) xl5 xr5 xs5 xa5 xt5 xv5 xi5 xg5 xk5 xb5 xy5 xd5, TI, OI, BI, fun s a u => .of_eq rfl⟩
    · exact ⟨fI, _, eC6, err_mk nr (PySem.W.mg_of X G xg6) xl6 xr6 xs6 xa6 xt6 xv6 xi6 xg6 xk6 xb6 xy6 xd6, TI, OI, BI, fun s a u => .of_eq rfl⟩
    · exact ⟨fI, _, eC7, err_mk nr (PySem.W.mg_of X G xg7) xl7 xr7 xs7 xa7 xt7 xv7 xi7 xg7 xk7 xb7 xy7 xd7, TI, OI, BI, fun s a u => .of_eq rfl⟩
    · exact ⟨fI, _, eC8, err_mk nr (PySem.W.mg_of X G xg8) xl8 xr8 xs8 xa8 xt8 xv8 xi8 xg8 xk8 xb8 xy8 xd8, TI, OI, BI, fun s a u => .of_eq rfl⟩
    · exact ⟨fI, _, eC9, err_mk nr (PySem.W.mg_of X G xg9) xl9 xr9 xs9 xa9 xt9 xv9 xi9 xg9 xk9 xb9 xy9 xd9, TI, OI, BI, fun s a u => .of_eq rfl⟩
    · exact ⟨fI, _, eC10, err_mk nr (PySem.W.mg_of X G xg10) xl10 xr10 xs10 xa10 xt10 xv10 xi10 xg10 xk10 xb10 xy10 xd10, TI, OI, BI, fun s a u => .of_eq rfl⟩
    · exact ⟨fI, _, eC11, err_mk nr (PySem.W.mg_of X G xg11) xl11 xr11 xs11 xa11 xt11 xv11 xi11 xg11 xk11 xb11 xy11 xd11, TI, OI, BI, fun s a u => .of_eq rfl⟩
    · exact ⟨fI, _, eC12, err_mk nr (PySem.W.mg_of X G xg12) xl12 xr12 xs12 xa12 xt12 xv12 xi12 xg12 xk12 xb12 xy12 xd12, TI, OI, BI, fun s a u => .of_eq rfl⟩
    · exact ⟨fI, _, eC13, err_mk nr (PySem.W.mg_of X G xg13) xl13 xr13 xs13 xa13 xt13 xv13 xi13 xg13 xk13 xb13 xy13 xd13, TI, OI, BI, fun s a u => .of_eq rfl⟩
    · exact ⟨fI, _, eC14, err_mk nr (PySem.W.mg_of X G xg14) xl14 xr14 xs14 xa14 xt14 xv14 xi14 xg14 xk14 xb14 xy14 xd14, TI, OI, BI, fun s a u => .of_eq rfl⟩
    · exact ⟨fI, _, eC15, err_mk nr (PySem.W.mg_of X G xg15) xl15 xr15 xs15 xa15 xt15 xv15 xi15 xg15 xk15 xb15 xy15 xd15, TI, OI, BI, fun s a u => .of_eq rfl⟩
    · exact ⟨fI, _, eC16, err_mk nr (PySem.W.mg_of X G xg16) xl16 xr16 xs16 xa16 xt16 xv16 xi16 xg16 xk16 xb16 xy16 xd16, TI, OI, BI, fun s a u => .of_eq rfl⟩
    · exact ⟨fI, _, eC17, err_mk nr (PySem.W.mg_of X G xg17) xl17 xr17 xs17 xa17 xt17 xv17 xi17 xg17 xk17 xb17 xy17 xd17, TI, OI, BI, fun s a u => .of_eq rfl⟩
    · exact ⟨fI, _, eC18, err_mk nr (PySem.W.mg_of X G xg18) xl18 xr18 xs18 xa18 xt18 xv18 xi18 xg18 xk18 xb18 xy18 xd18, TI, OI, BI, fun s a u => .of_eq rfl⟩
    · exact ⟨fI, _, eC19, err_mk nr (PySem.W.mg_of X G xg19) xl19 xr19 xs19 xa19 xt19 xv19 xi19 xg19 xk19 xb19 xy19 xd19, TI, OI, BI, fun s a u => .of_eq rfl⟩
    · exact ⟨fI, _, eC20, err_mk nr (PySem.W.mg_of X G xg20) xl20 xr20 xs20 xa20 xt20 xv20 xi20 xg20 xk20 xb20 xy20 xd20, TI, OI, BI, fun s a u => .of_eq rfl⟩
  have LM : ∀ cn, T.errs.contains cn = true → ∃ p ∈ ([((("NotTame" : Str) : Str), eC0), ((("InvalidOrder" : Str) : Str), eC1), ((("InvalidPlace" : Str) : Str), eC2), ((("InvalidJump" : Str) : Str), eC3), ((("InvalidBar" : Str) : Str), eC4), ((("InvalidSaying" : Str) : Str), eC5), ((("InvalidNumber" : Str) : Str), eC6), ((("InvalidPair" : Str) : Str), eC7), ((("InvalidWalk" : Str) : Str), eC8), ((("NotMeant" : Str) : Str), eC9), ((("Unorderly" : Str) : Str), eC10), ((("InvalidKind" : Str) : Str), eC11), ((("InvalidThing" : Str) : Str), eC12), ((("InvalidWeb" : Str) : Str), eC13), ((("InvalidPrices" : Str) : Str), eC14), ((("HasRound" : Str) : Str), eC15), ((("InvalidName" : Str) : Str), eC16), ((("UnknownName" : Str) : Str), eC17), ((("NothingToUndo" : Str) : Str), eC18), ((("Unreadable" : Str) : Str), eC19), ((("JumpError" : Str) : Str), eC20)] : List (Str × Addr)), p.1 = cn ∧ mg cn = some (.ref p.2) ∧ PySem.W.nsIn K2 mainGlobals cn = some (some (.ref p.2)) := by
    intro cn h
    have h : cn ∈ T.errs := by simpa using h
    simp only [T, List.mem_cons, List.not_mem_nil, or_false] at h
    rcases h with rfl | rfl | rfl | rfl | rfl | rfl | rfl | rfl | rfl | rfl | rfl | rfl | rfl | rfl | rfl | rfl | rfl | rfl | rfl | rfl | rfl
    · exact ⟨(_, eC0), List.mem_of_getElem? (i := 0) rfl, rfl, PySem.W.mg_of X G xg0, nr.ns xg0⟩
    · exact ⟨(_, eC1), List.mem_of_getElem? (i := 1) rfl, rfl, PySem.W.mg_of X G xg1, nr.ns xg1⟩
    · exact ⟨(_, eC2), List.mem_of_getElem? (i := 2) rfl, rfl, PySem.W.mg_of X G xg2, nr.ns xg2⟩
    · exact ⟨(_, eC3), List.mem_of_getElem? (i := 3) rfl, rfl, PySem.W.mg_of X G xg3, nr.ns xg3⟩
    · exact ⟨(_, eC4), List.mem_of_getElem? (i := 4) rfl, rfl, PySem.W.mg_of X G xg4, nr.ns xg4⟩
    · exact ⟨(_, eC5), List.mem_of_getElem? (i := 5) rfl, rfl, PySem.W.mg_of X G xg5, nr.ns xg5⟩
    · exact ⟨(_, eC6), List.mem_of_getElem? (i := 6) rfl, rfl, PySem.W.mg_of X G xg6, nr.ns xg6⟩
    · exact ⟨(_, eC7), List.mem_of_getElem? (i := 7) rfl, rfl, PySem.W.mg_of X G xg7, nr.ns xg7⟩
    · exact ⟨(_, eC8), List.mem_of_getElem? (i := 8) rfl, rfl, PySem.W.mg_of X G xg8, nr.ns xg8⟩
    · exact ⟨(_, eC9), List.mem_of_getElem? (i := 9) rfl, rfl, PySem.W.mg_of X G xg9, nr.ns xg9⟩
    · exact ⟨(_, eC10), List.mem_of_getElem? (i := 10) rfl, rfl, PySem.W.mg_of X G xg10, nr.ns xg10⟩
    · exact ⟨(_, eC11), List.mem_of_getElem? (i := 11) rfl, rfl, PySem.W.mg_of X G xg11, nr.ns xg11⟩
    · exact ⟨(_, eC12), List.mem_of_getElem? (i := 12) rfl, rfl, PySem.W.mg_of X G xg12, nr.ns xg12⟩
    · exact ⟨(_, eC13), List.mem_of_getElem? (i := 13) rfl, rfl, PySem.W.mg_of X G xg13, nr.ns xg13⟩
    · exact ⟨(_, eC14), List.mem_of_getElem? (i := 14) rfl, rfl, PySem.W.mg_of X G xg14, nr.ns xg14⟩
    · exact ⟨(_, eC15), List.mem_of_getElem? (i := 15) rfl, rfl, PySem.W.mg_of X G xg15, nr.ns xg15⟩
    · exact ⟨(_, eC16), List.mem_of_getElem? (i := 16) rfl, rfl, PySem.W.mg_of X G xg16, nr.ns xg16⟩
    · exact ⟨(_, eC17), List.mem_of_getElem? (i := 17) rfl, rfl, PySem.W.mg_of X G xg17, nr.ns xg17⟩
    · exact ⟨(_, eC18), List.mem_of_getElem? (i := 18) rfl, rfl, PySem.W.mg_of X G xg18, nr.ns xg18⟩
    · exact ⟨(_, eC19), List.mem_of_getElem? (i := 19) rfl, rfl, PySem.W.mg_of X G xg19, nr.ns xg19⟩
    · exact ⟨(_, eC20), List.mem_of_getElem? (i := 20) rfl, rfl, PySem.W.mg_of X G xg20, nr.ns xg20⟩
  have EX : ∀ cn c, T.errs.contains cn = true → T.errs.contains c = true → ∃ Cn Cc : Addr, mg cn = some (.ref Cn) ∧ mg c = some (.ref Cc) ∧ PySem.W.exmOne K2 (.ref Cn) (.ref Cc) = some (catches c cn) := by
    intro cn c h h2
    obtain ⟨p, hp, rfl, p2, _⟩ := LM cn h
    obtain ⟨q, hq, rfl, q2, _⟩ := LM c h2
    exact ⟨p.2, q.2, p2, q2, sub_all nr xpp hp hq⟩
  have IS : ∀ c, T.isx.contains c = true → ∃ cv : Value, NmC mg c cv ∧ ∀ cn, T.errs.contains cn = true → ∃ Cl, PySem.W.nsIn K2 mainGlobals cn = some (some (.ref Cl)) ∧ KitC K2 Cl ∧ PySem.W.kitOne K2 (.ref Cl) cv = some (isxB c cn) := by
    intro c h
    have IM : ∃ q ∈ ([((("InvalidOrder" : Str) : Str), Value.ref eC1), ((("InvalidPlace" : Str) : Str), Value.ref eC2), ((("InvalidJump" : Str) : Str), Value.ref eC3), ((("InvalidBar" : Str) : Str), Value.ref eC4), ((("InvalidSaying" : Str) : Str), Value.ref eC5), ((("InvalidNumber" : Str) : Str), Value.ref eC6), ((("InvalidPair" : Str) : Str), Value.ref eC7), ((("InvalidWalk" : Str) : Str), Value.ref eC8), ((("NotMeant" : Str) : Str), Value.ref eC9), ((("NotTame" : Str) : Str), Value.ref eC0), ((("InvalidKind" : Str) : Str), Value.ref eC11), ((("InvalidThing" : Str) : Str), Value.ref eC12), ((("InvalidWeb" : Str) : Str), Value.ref eC13), ((("InvalidPrices" : Str) : Str), Value.ref eC14), ((("HasRound" : Str) : Str), Value.ref eC15), ((("InvalidName" : Str) : Str), Value.ref eC16), ((("UnknownName" : Str) : Str), Value.ref eC17), ((("NothingToUndo" : Str) : Str), Value.ref eC18), ((("Unreadable" : Str) : Str), Value.ref eC19), ((("Unorderly" : Str) : Str), Value.ref eC10), ((("ValueError" : Str) : Str), Value.type "ValueError")] : List (Str × Value)), q.1 = c ∧ NmC mg c q.2 := by
      have h : c ∈ T.isx := by simpa using h
      simp only [T, List.mem_cons, List.not_mem_nil, or_false] at h
      rcases h with rfl | rfl | rfl | rfl | rfl | rfl | rfl | rfl | rfl | rfl | rfl | rfl | rfl | rfl | rfl | rfl | rfl | rfl | rfl | rfl | rfl
      · exact ⟨(_, Value.ref eC1), List.mem_of_getElem? (i := 0) rfl, rfl, .inl ⟨_, PySem.W.mg_of X G xg1, rfl⟩⟩
      · exact ⟨(_, Value.ref eC2), List.mem_of_getElem? (i := 1) rfl, rfl, .inl ⟨_, PySem.W.mg_of X G xg2, rfl⟩⟩
      · exact ⟨(_, Value.ref eC3), List.mem_of_getElem? (i := 2) rfl, rfl, .inl ⟨_, PySem.W.mg_of X G xg3, rfl⟩⟩
      · exact ⟨(_, Value.ref eC4), List.mem_of_getElem? (i := 3) rfl, rfl, .inl ⟨_, PySem.W.mg_of X G xg4, rfl⟩⟩
      · exact ⟨(_, Value.ref eC5), List.mem_of_getElem? (i := 4) rfl, rfl, .inl ⟨_, PySem.W.mg_of X G xg5, rfl⟩⟩
      · exact ⟨(_, Value.ref eC6), List.mem_of_getElem? (i := 5) rfl, rfl, .inl ⟨_, PySem.W.mg_of X G xg6, rfl⟩⟩
      · exact ⟨(_, Value.ref eC7), List.mem_of_getElem? (i := 6) rfl, rfl, .inl ⟨_, PySem.W.mg_of X G xg7, rfl⟩⟩
      · exact ⟨(_, Value.ref eC8), List.mem_of_getElem? (i := 7) rfl, rfl, .inl ⟨_, PySem.W.mg_of X G xg8, rfl⟩⟩
      · exact ⟨(_, Value.ref eC9), List.mem_of_getElem? (i := 8) rfl, rfl, .inl ⟨_, PySem.W.mg_of X G xg9, rfl⟩⟩
      · exact ⟨(_, Value.ref eC0), List.mem_of_getElem? (i := 9) rfl, rfl, .inl ⟨_, PySem.W.mg_of X G xg0, rfl⟩⟩
      · exact ⟨(_, Value.ref eC11), List.mem_of_getElem? (i := 10) rfl, rfl, .inl ⟨_, PySem.W.mg_of X G xg11, rfl⟩⟩
      · exact ⟨(_, Value.ref eC12), List.mem_of_getElem? (i := 11) rfl, rfl, .inl ⟨_, PySem.W.mg_of X G xg12, rfl⟩⟩
      · exact ⟨(_, Value.ref eC13), List.mem_of_getElem? (i := 12) rfl, rfl, .inl ⟨_, PySem.W.mg_of X G xg13, rfl⟩⟩
      · exact ⟨(_, Value.ref eC14), List.mem_of_getElem? (i := 13) rfl, rfl, .inl ⟨_, PySem.W.mg_of X G xg14, rfl⟩⟩
      · exact ⟨(_, Value.ref eC15), List.mem_of_getElem? (i := 14) rfl, rfl, .inl ⟨_, PySem.W.mg_of X G xg15, rfl⟩⟩
      · exact ⟨(_, Value.ref eC16), List.mem_of_getElem? (i := 15) rfl, rfl, .inl ⟨_, PySem.W.mg_of X G xg16, rfl⟩⟩
      · exact ⟨(_, Value.ref eC17), List.mem_of_getElem? (i := 16) rfl, rfl, .inl ⟨_, PySem.W.mg_of X G xg17, rfl⟩⟩
      · exact ⟨(_, Value.ref eC18), List.mem_of_getElem? (i := 17) rfl, rfl, .inl ⟨_, PySem.W.mg_of X G xg18, rfl⟩⟩
      · exact ⟨(_, Value.ref eC19), List.mem_of_getElem? (i := 18) rfl, rfl, .inl ⟨_, PySem.W.mg_of X G xg19, rfl⟩⟩
      · exact ⟨(_, Value.ref eC10), List.mem_of_getElem? (i := 19) rfl, rfl, .inl ⟨_, PySem.W.mg_of X G xg10, rfl⟩⟩
      · exact ⟨(_, Value.type "ValueError"), List.mem_of_getElem? (i := 20) rfl, rfl, .inr ⟨rfl, PySem.W.mg_none_of X G aI, rfl⟩⟩
    obtain ⟨q, hq, rfl, hn⟩ := IM
    refine ⟨q.2, hn, fun cn h2 => ?_⟩
    obtain ⟨p, hp, rfl, _, kn⟩ := LM cn h2
    exact ⟨p.2, kn, (kit_all nr xkk hp hq).1, (kit_all nr xkk hp hq).2⟩
  have X0 : Txt T w K2 mg := by
    refine ⟨?_, ?_, (fun h => by cases h), (fun n h => by cases h), (fun p hp => by cases hp), (fun h => by cases h), ER, IS, EX, ?_⟩
    · intro n hn
      simp only [List.mem_cons, List.not_mem_nil, or_false] at hn
      rcases hn with rfl | rfl | rfl | rfl | rfl | rfl | rfl | rfl | rfl | rfl | rfl | rfl | rfl | rfl | rfl | rfl | rfl | rfl
      · exact PySem.W.mg_none_of X G z8
      · exact PySem.W.mg_none_of X G z6
      · exact PySem.W.mg_none_of X G z9
      · exact PySem.W.mg_none_of X G z16
      · exact PySem.W.mg_none_of X G z1
      · exact PySem.W.mg_none_of X G z2
      · exact PySem.W.mg_none_of X G z15
      · exact PySem.W.mg_none_of X G z11
      · exact PySem.W.mg_none_of X G z10
      · exact PySem.W.mg_none_of X G z0
      · exact PySem.W.mg_none_of X G z13
      · exact PySem.W.mg_none_of X G z12
      · exact PySem.W.mg_none_of X G z17
      · exact PySem.W.mg_none_of X G z5
      · exact PySem.W.mg_none_of X G z7
      · exact PySem.W.mg_none_of X G z3
      · exact PySem.W.mg_none_of X G z14
      · exact PySem.W.mg_none_of X G z4
    · intro p hp
      cases hp
    · intro i fn hi
      cases i with
      | zero => cases hi; exact ⟨_, _, _, D0⟩
      | succ i =>
      cases i with
      | zero => cases hi; exact ⟨_, _, _, D1⟩
      | succ i =>
      cases i with
      | zero => cases hi; exact ⟨_, _, _, D2⟩
      | succ i =>
      cases i with
      | zero => cases hi; exact ⟨_, _, _, D3⟩
      | succ i =>
      cases i with
      | zero => cases hi; exact ⟨_, _, _, D4⟩
      | succ i =>
      cases i with
      | zero => cases hi; exact ⟨_, _, _, D5⟩
      | succ i =>
      cases i with
      | zero => cases hi; exact ⟨_, _, _, D6⟩
      | succ i =>
      cases i with
      | zero => cases hi; exact ⟨_, _, _, D7⟩
      | succ i =>
      cases i with
      | zero => cases hi; exact ⟨_, _, _, D8⟩
      | succ i =>
      cases i with
      | zero => cases hi; exact ⟨_, _, _, D9⟩
      | succ i =>
      cases i with
      | zero => cases hi; exact ⟨_, _, _, D10⟩
      | succ i =>
      cases i with
      | zero => cases hi; exact ⟨_, _, _, D11⟩
      | succ i =>
      cases i with
      | zero => cases hi; exact ⟨_, _, _, D12⟩
      | succ i =>
      cases hi
  exact ⟨_, fun s v => .of_eq rfl, fun base _ _ => tab_ok X0 60 12 f12 _ _ _ rfl D12⟩
end K00
open PySem PySem.W PyProof.Rows in
set_option maxHeartbeats 0 in
theorem PySem.Challenge.cw_onejumps_k00_errors_holds : PySem.Challenge.rw_onejumps_k00_errors.Holds := by
  w_on; o_law; k_head; (case hw => w_witness2)
  k_fill
  refine Ev.walk_ev (l := PySem.Challenge.rw_onejumps_k00_errors) (n := 63) (k := 60) (i := 12) (fn := K00.f12) (tab := K00.tab) rfl (by decide) rfl ⟨rfl, by decide, by decide⟩ ⟨rfl, rfl⟩ (fun w h Y => PySem.W.kIn_of Y) ?F K00.law_fin
  case F =>
    intro w mg fa h KX G hmg K2 nr
    refine' K00.all_mk KX nr G hmg ?a0 ?l0 ?c0 ?a1 ?l1 ?c1 ?a2 ?l2 ?c2 ?a3 ?l3 ?c3 ?a4 ?l4 ?c4 ?a5 ?l5 ?c5 ?a6 ?l6 ?c6 ?a7 ?l7 ?c7 ?a8 ?l8 ?c8 ?a9 ?l9 ?c9 ?a10 ?l10 ?c10 ?a11 ?l11 ?c11 ?a12 ?l12 ?c12 ?z0 ?z1 ?z2 ?z3 ?z4 ?z5 ?z6 ?z7 ?z8 ?z9 ?z10 ?z11 ?z12 ?z13 ?z14 ?z15 ?z16 ?z17 ?aI ?xg0 ?xl0 ?xr0 ?xs0 ?xa0 ?xt0 ?xv0 ?xi0 ?xk0 ?xb0 ?xy0 ?xd0 ?xc0 ?xg1 ?xl1 ?xr1 ?xs1 ?xa1 ?xt1 ?xv1 ?xi1 ?xk1 ?xb1 ?xy1 ?xd1 ?xc1 ?xg2 ?xl2 ?xr2 ?xs2 ?xa2 ?xt2 ?xv2 ?xi2 ?xk2 ?xb2 ?xy2 ?xd2 ?xc2 ?xg3 ?xl3 ?xr3 ?xs3 ?xa3 ?xt3 ?xv3 ?xi3 ?xk3 ?xb3 ?xy3 ?xd3 ?xc3 ?xg4 ?xl4 ?xr4 ?xs4 ?xa4 ?xt4 ?xv4 ?xi4 ?xk4 ?xb4 ?xy4 ?xd4 ?xc4 ?xg5 ?xl5 ?xr5 ?xs5 ?xa5 ?xt5 ?xv5 ?xi5 ?xk5 ?xb5 ?xy5 ?xd5 ?xc5 ?xg6 ?xl6 ?xr6 ?xs6 ?xa6 ?xt6 ?xv6 ?xi6 ?xk6 ?xb6 ?xy6 ?xd6 ?xc6 ?xg7 ?xl7 ?xr7 ?xs7 ?xa7 ?xt7 ?xv7 ?xi7 ?xk7 ?xb7 ?xy7 ?xd7 ?xc7 ?xg8 ?xl8 ?xr8 ?xs8 ?xa8 ?xt8 ?xv8 ?xi8 ?xk8 ?xb8 ?xy8 ?xd8 ?xc8 ?xg9 ?xl9 ?xr9 ?xs9 ?xa9 ?xt9 ?xv9 ?xi9 ?xk9 ?xb9 ?xy9 ?xd9 ?xc9 ?xg10 ?xl10 ?xr10 ?xs10 ?xa10 ?xt10 ?xv10 ?xi10 ?xk10 ?xb10 ?xy10 ?xd10 ?xc10 ?xg11 ?xl11 ?xr11 ?xs11 ?xa11 ?xt11 ?xv11 ?xi11 ?xk11 ?xb11 ?xy11 ?xd11 ?xc11 ?xg12 ?xl12 ?xr12 ?xs12 ?xa12 ?xt12 ?xv12 ?xi12 ?xk12 ?xb12 ?xy12 ?xd12 ?xc12 ?xg13 ?xl13 ?xr13 ?xs13 ?xa13 ?xt13 ?xv13 ?xi13 ?xk13 ?xb13 ?xy13 ?xd13 ?xc13 ?xg14 ?xl14 ?xr14 ?xs14 ?xa14 ?xt14 ?xv14 ?xi14 ?xk14 ?xb14 ?xy14 ?xd14 ?xc14 ?xg15 ?xl15 ?xr15 ?xs15 ?xa15 ?xt15 ?xv15 ?xi15 ?xk15 ?xb15 ?xy15 ?xd15 ?xc15 ?xg16 ?xl16 ?xr16 ?xs16 ?xa16 ?xt16 ?xv16 ?xi16 ?xk16 ?xb16 ?xy16 ?xd16 ?xc16 ?xg17 ?xl17 ?xr17 ?xs17 ?xa17 ?xt17 ?xv17 ?xi17 ?xk17 ?xb17 ?xy17 ?xd17 ?xc17 ?xg18 ?xl18 ?xr18 ?xs18 ?xa18 ?xt18 ?xv18 ?xi18 ?xk18 ?xb18 ?xy18 ?xd18 ?xc18 ?xg19 ?xl19 ?xr19 ?xs19 ?xa19 ?xt19 ?xv19 ?xi19 ?xk19 ?xb19 ?xy19 ?xd19 ?xc19 ?xg20 ?xl20 ?xr20 ?xs20 ?xa20 ?xt20 ?xv20 ?xi20 ?xk20 ?xb20 ?xy20 ?xd20 ?xc20 ?tI ?lI ?cI ?xpp ?xkk
    (case a0 => k_is)
    (case l0 => k_is)
    (case c0 => k_is)
    (case a1 => k_is)
    (case l1 => k_is)
    (case c1 => k_is)
    (case a2 => k_is)
    (case l2 => k_is)
    (case c2 => k_is)
    (case a3 => k_is)
    (case l3 => k_is)
    (case c3 => k_is)
    (case a4 => k_is)
    (case l4 => k_is)
    (case c4 => k_is)
    (case a5 => k_is)
    (case l5 => k_is)
    (case c5 => k_is)
    (case a6 => k_is)
    (case l6 => k_is)
    (case c6 => k_is)
    (case a7 => k_is)
    (case l7 => k_is)
    (case c7 => k_is)
    (case a8 => k_is)
    (case l8 => k_is)
    (case c8 => k_is)
    (case a9 => k_is)
    (case l9 => k_is)
    (case c9 => k_is)
    (case a10 => k_is)
    (case l10 => k_is)
    (case c10 => k_is)
    (case a11 => k_is)
    (case l11 => k_is)
    (case c11 => k_is)
    (case a12 => k_is)
    (case l12 => k_is)
    (case c12 => k_is)
    (case z0 => k_is)
    (case z1 => k_is)
    (case z2 => k_is)
    (case z3 => k_is)
    (case z4 => k_is)
    (case z5 => k_is)
    (case z6 => k_is)
    (case z7 => k_is)
    (case z8 => k_is)
    (case z9 => k_is)
    (case z10 => k_is)
    (case z11 => k_is)
    (case z12 => k_is)
    (case z13 => k_is)
    (case z14 => k_is)
    (case z15 => k_is)
    (case z16 => k_is)
    (case z17 => k_is)
    (case aI => k_is)
    (case xg0 => k_is)
    (case xl0 => k_is)
    (case xr0 => decide +kernel)
    (case xs0 => k_is)
    (case xa0 => k_is)
    (case xt0 => k_is)
    (case xv0 => k_is)
    (case xi0 => k_is)
    (case xk0 => k_is)
    (case xb0 => k_is)
    (case xy0 => k_is)
    (case xd0 => k_is)
    (case xc0 => k_is)
    (case xg1 => k_is)
    (case xl1 => k_is)
    (case xr1 => decide +kernel)
    (case xs1 => k_is)
    (case xa1 => k_is)
    (case xt1 => k_is)
    (case xv1 => k_is)
    (case xi1 => k_is)
    (case xk1 => k_is)
    (case xb1 => k_is)
    (case xy1 => k_is)
    (case xd1 => k_is)
    (case xc1 => k_is)
    (case xg2 => k_is)
    (case xl2 => k_is)
    (case xr2 => decide +kernel)
    (case xs2 => k_is)
    (case xa2 => k_is)
    (case xt2 => k_is)
    (case xv2 => k_is)
    (case xi2 => k_is)
    (case xk2 => k_is)
    (case xb2 => k_is)
    (case xy2 => k_is)
    (case xd2 => k_is)
    (case xc2 => k_is)
    (case xg3 => k_is)
    (case xl3 => k_is)
    (case xr3 => decide +kernel)
    (case xs3 => k_is)
    (case xa3 => k_is)
    (case xt3 => k_is)
    (case xv3 => k_is)
    (case xi3 => k_is)
    (case xk3 => k_is)
    (case xb3 => k_is)
    (case xy3 => k_is)
    (case xd3 => k_is)
    (case xc3 => k_is)
    (case xg4 => k_is)
    (case xl4 => k_is)
    (case xr4 => decide +kernel)
    (case xs4 => k_is)
    (case xa4 => k_is)
    (case xt4 => k_is)
    (case xv4 => k_is)
    (case xi4 => k_is)
    (case xk4 => k_is)
    (case xb4 => k_is)
    (case xy4 => k_is)
    (case xd4 => k_is)
    (case xc4 => k_is)
    (case xg5 => k_is)
    (case xl5 => k_is)
    (case xr5 => decide +kernel)
    (case xs5 => k_is)
    (case xa5 => k_is)
    (case xt5 => k_is)
    (case xv5 => k_is)
    (case xi5 => k_is)
    (case xk5 => k_is)
    (case xb5 => k_is)
    (case xy5 => k_is)
    (case xd5 => k_is)
    (case xc5 => k_is)
    (case xg6 => k_is)
    (case xl6 => k_is)
    (case xr6 => decide +kernel)
    (case xs6 => k_is)
    (case xa6 => k_is)
    (case xt6 => k_is)
    (case xv6 => k_is)
    (case xi6 => k_is)
    (case xk6 => k_is)
    (case xb6 => k_is)
    (case xy6 => k_is)
    (case xd6 => k_is)
    (case xc6 => k_is)
    (case xg7 => k_is)
    (case xl7 => k_is)
    (case xr7 => decide +kernel)
    (case xs7 => k_is)
    (case xa7 => k_is)
    (case xt7 => k_is)
    (case xv7 => k_is)
    (case xi7 => k_is)
    (case xk7 => k_is)
    (case xb7 => k_is)
    (case xy7 => k_is)
    (case xd7 => k_is)
    (case xc7 => k_is)
    (case xg8 => k_is)
    (case xl8 => k_is)
    (case xr8 => decide +kernel)
    (case xs8 => k_is)
    (case xa8 => k_is)
    (case xt8 => k_is)
    (case xv8 => k_is)
    (case xi8 => k_is)
    (case xk8 => k_is)
    (case xb8 => k_is)
    (case xy8 => k_is)
    (case xd8 => k_is)
    (case xc8 => k_is)
    (case xg9 => k_is)
    (case xl9 => k_is)
    (case xr9 => decide +kernel)
    (case xs9 => k_is)
    (case xa9 => k_is)
    (case xt9 => k_is)
    (case xv9 => k_is)
    (case xi9 => k_is)
    (case xk9 => k_is)
    (case xb9 => k_is)
    (case xy9 => k_is)
    (case xd9 => k_is)
    (case xc9 => k_is)
    (case xg10 => k_is)
    (case xl10 => k_is)
    (case xr10 => decide +kernel)
    (case xs10 => k_is)
    (case xa10 => k_is)
    (case xt10 => k_is)
    (case xv10 => k_is)
    (case xi10 => k_is)
    (case xk10 => k_is)
    (case xb10 => k_is)
    (case xy10 => k_is)
    (case xd10 => k_is)
    (case xc10 => k_is)
    (case xg11 => k_is)
    (case xl11 => k_is)
    (case xr11 => decide +kernel)
    (case xs11 => k_is)
    (case xa11 => k_is)
    (case xt11 => k_is)
    (case xv11 => k_is)
    (case xi11 => k_is)
    (case xk11 => k_is)
    (case xb11 => k_is)
    (case xy11 => k_is)
    (case xd11 => k_is)
    (case xc11 => k_is)
    (case xg12 => k_is)
    (case xl12 => k_is)
    (case xr12 => decide +kernel)
    (case xs12 => k_is)
    (case xa12 => k_is)
    (case xt12 => k_is)
    (case xv12 => k_is)
    (case xi12 => k_is)
    (case xk12 => k_is)
    (case xb12 => k_is)
    (case xy12 => k_is)
    (case xd12 => k_is)
    (case xc12 => k_is)
    (case xg13 => k_is)
    (case xl13 => k_is)
    (case xr13 => decide +kernel)
    (case xs13 => k_is)
    (case xa13 => k_is)
    (case xt13 => k_is)
    (case xv13 => k_is)
    (case xi13 => k_is)
    (case xk13 => k_is)
    (case xb13 => k_is)
    (case xy13 => k_is)
    (case xd13 => k_is)
    (case xc13 => k_is)
    (case xg14 => k_is)
    (case xl14 => k_is)
    (case xr14 => decide +kernel)
    (case xs14 => k_is)
    (case xa14 => k_is)
    (case xt14 => k_is)
    (case xv14 => k_is)
    (case xi14 => k_is)
    (case xk14 => k_is)
    (case xb14 => k_is)
    (case xy14 => k_is)
    (case xd14 => k_is)
    (case xc14 => k_is)
    (case xg15 => k_is)
    (case xl15 => k_is)
    (case xr15 => decide +kernel)
    (case xs15 => k_is)
    (case xa15 => k_is)
    (case xt15 => k_is)
    (case xv15 => k_is)
    (case xi15 => k_is)
    (case xk15 => k_is)
    (case xb15 => k_is)
    (case xy15 => k_is)
    (case xd15 => k_is)
    (case xc15 => k_is)
    (case xg16 => k_is)
    (case xl16 => k_is)
    (case xr16 => decide +kernel)
    (case xs16 => k_is)
    (case xa16 => k_is)
    (case xt16 => k_is)
    (case xv16 => k_is)
    (case xi16 => k_is)
    (case xk16 => k_is)
    (case xb16 => k_is)
    (case xy16 => k_is)
    (case xd16 => k_is)
    (case xc16 => k_is)
    (case xg17 => k_is)
    (case xl17 => k_is)
    (case xr17 => decide +kernel)
    (case xs17 => k_is)
    (case xa17 => k_is)
    (case xt17 => k_is)
    (case xv17 => k_is)
    (case xi17 => k_is)
    (case xk17 => k_is)
    (case xb17 => k_is)
    (case xy17 => k_is)
    (case xd17 => k_is)
    (case xc17 => k_is)
    (case xg18 => k_is)
    (case xl18 => k_is)
    (case xr18 => decide +kernel)
    (case xs18 => k_is)
    (case xa18 => k_is)
    (case xt18 => k_is)
    (case xv18 => k_is)
    (case xi18 => k_is)
    (case xk18 => k_is)
    (case xb18 => k_is)
    (case xy18 => k_is)
    (case xd18 => k_is)
    (case xc18 => k_is)
    (case xg19 => k_is)
    (case xl19 => k_is)
    (case xr19 => decide +kernel)
    (case xs19 => k_is)
    (case xa19 => k_is)
    (case xt19 => k_is)
    (case xv19 => k_is)
    (case xi19 => k_is)
    (case xk19 => k_is)
    (case xb19 => k_is)
    (case xy19 => k_is)
    (case xd19 => k_is)
    (case xc19 => k_is)
    (case xg20 => k_is)
    (case xl20 => k_is)
    (case xr20 => decide +kernel)
    (case xs20 => k_is)
    (case xa20 => k_is)
    (case xt20 => k_is)
    (case xv20 => k_is)
    (case xi20 => k_is)
    (case xk20 => k_is)
    (case xb20 => k_is)
    (case xy20 => k_is)
    (case xd20 => k_is)
    (case xc20 => k_is)
    (case tI => k_is)
    (case lI => k_is)
    (case cI => k_is)
    (case xpp => first | kernel_rfl | rfl | k_is)
    (case xkk => first | kernel_rfl | rfl | k_is)
