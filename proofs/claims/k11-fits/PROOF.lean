import PyProof.Rows.All
import HandS.ForMost
import HandS.Deep
import HandS.SortOrd
import HandS.IsInst
import HandS.SetKeys
import HandS.Zip
import HandS.Flow
import HandS.Codes
import KE.KDictKeyed
import KE.LtSeq
import PyProof.NeKinds
import KE.KDictCopyH
import HandS.Style
import HandS.More
import HandS.TupAny
import HandS.Iter
import KE.KItemsList
import HandS.ListItems
import HandS.Words
import HandS.Ends
import PySem.Challenge.RW_mustrows_k11_fits
set_option Elab.async false
set_option linter.all false
/-! Data without a heap, and a small language over it: what a def computes. -/
namespace MP
open PySem

/-- data: lists, tuples, dicts by what they hold; the script -/
inductive D where
  | non | bl (b : Bool) | int (i : Int) | str (s : Str) | tup (xs : List D) | lst (xs : List D) | dic (kvs : List (D × D)) | scr (ns : List Int)
instance : Inhabited D := ⟨.non⟩

mutual
def D.beq : D → D → Bool
  | .non, .non => true
  | .bl a, .bl b => a == b
  | .int a, .int b => decide (a = b)
  | .str a, .str b => decide (a = b)
  | .tup a, .tup b => D.beqs a b
  | .lst a, .lst b => D.beqs a b
  | .dic a, .dic b => D.beqkv a b
  | .scr a, .scr b => decide (a = b)
  | _, _ => false
def D.beqs : List D → List D → Bool
  | [], [] => true
  | a :: as, b :: bs => D.beq a b && D.beqs as bs
  | _, _ => false
def D.beqkv : List (D × D) → List (D × D) → Bool
  | [], [] => true
  | (a, c) :: as, (b, d) :: bs => D.beq a b && D.beq c d && D.beqkv as bs
  | _, _ => false
end
mutual
theorem D.beq_refl : ∀ a : D, D.beq a a = true
  | .non => rfl
  | .bl a => by simp [D.beq]
  | .int a => by simp [D.beq]
  | .str a => by simp [D.beq]
  | .tup a => by rw [D.beq]; exact D.beqs_refl a
  | .lst a => by rw [D.beq]; exact D.beqs_refl a
  | .dic a => by rw [D.beq]; exact D.beqkv_refl a
  | .scr a => by simp [D.beq]
theorem D.beqs_refl : ∀ a : List D, D.beqs a a = true
  | [] => rfl
  | a :: as => by rw [D.beqs, D.beq_refl a, D.beqs_refl as]; rfl
theorem D.beqkv_refl : ∀ a : List (D × D), D.beqkv a a = true
  | [] => rfl
  | (a, c) :: as => by rw [D.beqkv, D.beq_refl a, D.beq_refl c, D.beqkv_refl as]; rfl
end
mutual
theorem D.eq_of_beq : ∀ a b : D, D.beq a b = true → a = b
  | .non, b, h => by cases b <;> simp [D.beq] at h ⊢
  | .bl a, b, h => by cases b <;> simp [D.beq] at h ⊢; exact h
  | .int a, b, h => by cases b <;> simp [D.beq] at h ⊢; exact h
  | .str a, b, h => by cases b <;> simp [D.beq] at h ⊢; exact h
  | .tup a, b, h => by
    cases b <;> simp [D.beq] at h ⊢
    exact D.eq_of_beqs a _ h
  | .lst a, b, h => by
    cases b <;> simp [D.beq] at h ⊢
    exact D.eq_of_beqs a _ h
  | .dic a, b, h => by
    cases b <;> simp [D.beq] at h ⊢
    exact D.eq_of_beqkv a _ h
  | .scr a, b, h => by cases b <;> simp [D.beq] at h ⊢; exact h
theorem D.eq_of_beqs : ∀ a b : List D, D.beqs a b = true → a = b
  | [], b, h => by cases b <;> simp [D.beqs] at h ⊢
  | a :: as, b, h => by
    cases b with
    | nil => simp [D.beqs] at h
    | cons b bs =>
      simp only [D.beqs, Bool.and_eq_true] at h
      rw [D.eq_of_beq a b h.1, D.eq_of_beqs as bs h.2]
theorem D.eq_of_beqkv : ∀ a b : List (D × D), D.beqkv a b = true → a = b
  | [], b, h => by cases b <;> simp [D.beqkv] at h ⊢
  | (a, c) :: as, b, h => by
    cases b with
    | nil => simp [D.beqkv] at h
    | cons b bs =>
      obtain ⟨b, d⟩ := b
      simp only [D.beqkv, Bool.and_eq_true] at h
      rw [D.eq_of_beq a b h.1.1, D.eq_of_beq c d h.1.2, D.eq_of_beqkv as bs h.2]
end
instance : DecidableEq D := fun a b => if h : D.beq a b = true then .isTrue (D.eq_of_beq a b h) else .isFalse fun e => h (e ▸ D.beq_refl a)

/-- an answer: a value, an exception of a class (by its name), or nothing that is promised -/
inductive R (α : Type) where
  | ok (a : α) | err (c : Str) | bad
def R.bind {α β : Type} (x : R α) (f : α → R β) : R β := match x with
  | .ok a => f a
  | .err c => .err c
  | .bad => .bad
@[simp] theorem R.bind_ok {α β : Type} (a : α) (f : α → R β) : (R.ok a).bind f = f a := rfl
@[simp] theorem R.bind_bad {α β : Type} (f : α → R β) : (R.bad).bind f = .bad := rfl
@[simp] theorem R.bind_err {α β : Type} (c : Str) (f : α → R β) : (R.err c).bind f = .err c := rfl
def R.of {α : Type} : Option α → R α
  | some a => .ok a
  | none => .bad
@[simp] theorem R.of_some {α : Type} (a : α) : R.of (some a) = .ok a := rfl
@[simp] theorem R.of_none {α : Type} : R.of (none : Option α) = .bad := rfl
theorem R.bind_eq_ok {α β : Type} {x : R α} {f : α → R β} {b : β} : x.bind f = .ok b ↔ ∃ a, x = .ok a ∧ f a = .ok b := by
  cases x <;> simp [R.bind]

/-! ### what the data's operations give -/
/-- data that == compares item by item: no dict, no bool, not too deep -/
def plainN : Nat → D → Bool
  | _, .non => true
  | _, .int _ => true
  | _, .str _ => true
  | n + 1, .tup xs => xs.all (plainN n)
  | n + 1, .lst xs => xs.all (plainN n)
  | _, _ => false
def plain (d : D) : Bool := plainN 30 d
def eqD (d e : D) : R Bool := match d, e with
  | .bl a, .bl b => .ok (a == b)
  | .bl _, .non => .ok false
  | .non, .bl _ => .ok false
  | d, e => if plain d && plain e then .ok (decide (d = e)) else .bad
def strLt (a b : Str) : Bool := decide (a.cps.toList < b.cps.toList)

/-- the order of plain data: 'comparable' and 'before' -/
def ltF : D → D → R Bool
  | .int a, .int b => .ok (decide (a < b))
  | .str a, .str b => .ok (strLt a b)
  | _, _ => .bad
mutual
def ltN : Nat → D → D → R Bool
  | 0, d, e => ltF d e
  | n + 1, d, e => match d, e with
    | .tup xs, .tup ys => ltGo n xs ys
    | .lst xs, .lst ys => if allOk n xs ys then ltGo n xs ys else .bad
    | d, e => ltF d e
def ltGo : Nat → List D → List D → R Bool
  | _, [], [] => .ok false
  | _, [], _ :: _ => .ok true
  | _, _ :: _, [] => .ok false
  | n, x :: xs, y :: ys => (eqD x y).bind fun b => if b then ltGo n xs ys else ltN n x y
/-- any two items at one place compare -/
def allOk : Nat → List D → List D → Bool
  | n, x :: xs, y :: ys => (match ltN n x y with
    | .ok _ => true
    | _ => false) && allOk n xs ys
  | _, _, _ => true
end
def ltD (d e : D) : R Bool := ltN 30 d e
def cmpOk (d e : D) : Bool := match ltD d e with
  | .ok _ => true
  | _ => false
/-- an item's kind, and its first item's -/
def kindD : D → Nat
  | .int _ => 1
  | .str _ => 2
  | .tup _ => 3
  | .lst _ => 4
  | _ => 0
def kind1 : D → Nat
  | .tup (x :: _) => kindD x
  | .tup [] => 0
  | _ => 7
mutual
/-- an order of all plain data -/
def dlt : D → D → Bool
  | .int a, .int b => decide (a < b)
  | .str a, .str b => strLt a b
  | .tup xs, .tup ys => dlts xs ys
  | .lst xs, .lst ys => dlts xs ys
  | d, e => decide (kindD d < kindD e)
def dlts : List D → List D → Bool
  | [], [] => false
  | [], _ :: _ => true
  | _ :: _, [] => false
  | x :: xs, y :: ys => if x = y then dlts xs ys else dlt x y
end
def sortL (xs : List D) : List D := xs.mergeSort fun x y => !dlt y x
/-- what sorts: items of one kind, any two of which compare -/
def sortOk (xs : List D) : Bool := decide (xs.length < 2) || xs.all fun x => kindD x != 0 && kind1 x != 0 && kind1 x != 4 && plain x && xs.all fun y => kindD x == kindD y && kind1 x == kind1 y && cmpOk x y

def lim : Nat := 16777216
/-- the item at a place, from behind where the place is negative -/
def atD {α : Type} (xs : List α) (i : Int) : R α :=
  if 0 ≤ i then R.of (xs[i.toNat]?) else if 0 ≤ i + xs.length then R.of (xs[(i + xs.length).toNat]?) else .bad
def getKV (kvs : List (D × D)) (k : D) : Option D := (kvs.find? fun p => p.1 == k).map (·.2)
def putKV (kvs : List (D × D)) (k v : D) : List (D × D) := if (kvs.any fun p => decide (p.1 = k)) = true then kvs.map (fun p => if p.1 = k then (p.1, v) else p) else kvs ++ [(k, v)]
/-- what may be a key: a number, a text, a tuple of such, nested -/
def keyN : Nat → D → Bool
  | _, .int _ => true
  | _, .str _ => true
  | n + 1, .tup xs => xs.all (keyN n)
  | _, _ => false
def isTup : D → Bool
  | .tup _ => true
  | _ => false
def flatKey : D → Bool
  | .int _ => true
  | .str _ => true
  | _ => false
/-- no list, no dict within -/
def noLN : Nat → D → Bool
  | _, .non => true
  | _, .bl _ => true
  | _, .int _ => true
  | _, .str _ => true
  | n + 1, .tup xs => xs.all (noLN n)
  | _, _ => false
def noL (d : D) : Bool := noLN 30 d
/-- an answer that has no list of the asker's within; l: the answer is a new list (dict) -/
def noR (l : Bool) (d : D) : Bool := if l then (match d with
    | .lst xs => xs.all noL
    | .dic kvs => kvs.all fun p => noL p.1 && noL p.2
    | _ => false) else noL d
/-- a key that is a tuple of such -/
def tupKey (k : D) : Bool := isTup k && keyN 8 k
/-- a key beside those that stand -/
def keyFor (kvs : List (D × D)) (k : D) : Bool := flatKey k && kvs.all fun p => flatKey p.1
/-- a tuple beside tuples as keys -/
def tupFor (kvs : List (D × D)) (k : D) : Bool := tupKey k && kvs.all fun p => tupKey p.1
def sliceL {α : Type} (xs : List α) (lo hi : Option Int) : List α := (xs.drop (HT.sIx xs.length 0 lo)).take (HT.sIx xs.length xs.length hi - HT.sIx xs.length 0 lo)

inductive BOp where | add | sub | mul | mod | fdiv | cat
  deriving DecidableEq
inductive CO where | eq | ne | lt | le | gt | ge | isin | notin | is | isnot
  deriving DecidableEq
def mulOk (i j : Int) : Bool := (decide (-18446744073709551616 < i) && decide (i < 18446744073709551616)) || (decide (-18446744073709551616 < j) && decide (j < 18446744073709551616))
def binD : BOp → D → D → R D
  | .add, .int i, .int j => .ok (.int (i + j))
  | .sub, .int i, .int j => .ok (.int (i - j))
  | .mul, .int i, .int j => if mulOk i j then .ok (.int (i * j)) else .bad
  | .mod, .int i, .int j => if j = 0 then .bad else .ok (.int (i.fmod j))
  | .fdiv, .int i, .int j => if j ≠ 0 ∧ j.natAbs < 1073741824 then .ok (.int (i.fdiv j)) else .bad
  | .add, .str a, .str b => if a.length + b.length ≤ lim then .ok (.str (a ++ b)) else .bad
  | .add, .lst xs, .lst ys => if xs.length + ys.length ≤ lim then .ok (.lst (xs ++ ys)) else .bad
  | .cat, .lst xs, .lst ys => if xs.length + ys.length ≤ lim then .ok (.lst (xs ++ ys)) else .bad
  | _, _, _ => .bad
def inStr (a b : Str) : Bool := !(Builtin.Str.occurrences b a 0 b.length 1).isEmpty
def inD (x y : D) : R Bool := match x, y with
  | .str a, .str b => .ok (inStr a b)
  | x, .lst ys => if plain x && ys.all plain then .ok (ys.any fun y => y == x) else .bad
  | x, .tup ys => if plain x && ys.all plain then .ok (ys.any fun y => y == x) else .bad
  | x, .dic kvs => if keyFor kvs x then .ok (getKV kvs x).isSome else if tupFor kvs x then .ok (getKV kvs x).isSome else .bad
  | _, _ => .bad
def cmpD : CO → D → D → R Bool
  | .eq, x, y => eqD x y
  | .ne, x, y => (eqD x y).bind fun b => .ok (!b)
  | .lt, .int i, .int j => .ok (decide (i < j))
  | .lt, .str a, .str b => .ok (strLt a b)
  | .le, .int i, .int j => .ok (decide (i ≤ j))
  | .gt, .int i, .int j => .ok (decide (j < i))
  | .ge, .int i, .int j => .ok (decide (j ≤ i))
  | .isin, x, y => inD x y
  | .notin, x, y => (inD x y).bind fun b => .ok (!b)
  | .is, x, .non => .ok (decide (x = .non))
  | .isnot, x, .non => .ok (!decide (x = .non))
  | _, _, _ => .bad
def idxD : D → D → R D
  | .lst xs, .int i => atD xs i
  | .tup xs, .int i => atD xs i
  | .str a, .int i => (atD a.cps.toList i).bind fun c => .ok (.str ⟨#[c]⟩)
  | .dic kvs, k => if keyFor kvs k then R.of (getKV kvs k) else .bad
  | _, _ => .bad
def sliD : D → Option Int → Option Int → R D
  | .lst xs, lo, hi => .ok (.lst (sliceL xs lo hi))
  | .str a, lo, hi => .ok (.str (L2.cutS a lo hi))
  | .scr ns, lo, hi => .ok (.lst ((sliceL ns lo hi).map .int))
  | .tup xs, lo, hi => .ok (.tup (sliceL xs lo hi))
  | _, _, _ => .bad

inductive BI where | len | sorted | sortedKeys | sortedItems | sortedSet | tuple | list | listRange | dict | str | int | sum | max | ord | all | isInt | isBool | isStr | isTuple | isList
  deriving DecidableEq
def intsOf : List D → Option (List Int)
  | [] => some []
  | .int i :: r => (intsOf r).map (i :: ·)
  | _ => none
def strsOf : List D → Option (List Str)
  | [] => some []
  | .str i :: r => (strsOf r).map (i :: ·)
  | _ => none
def blsOf : List D → Option (List Bool)
  | [] => some []
  | .bl i :: r => (blsOf r).map (i :: ·)
  | _ => none
def pairsOf : List D → Option (List (D × D))
  | [] => some []
  | .tup [a, b] :: r => (pairsOf r).map ((a, b) :: ·)
  | _ => none
def putAll : List (D × D) → List (D × D) → List (D × D)
  | acc, [] => acc
  | acc, (k, v) :: r => putAll (putKV acc k v) r
def sortD (xs : List D) : R D := if sortOk xs then .ok (.lst (sortL xs)) else .bad
def biD : BI → List D → R D
  | .len, [.str a] => .ok (.int a.length)
  | .len, [.lst xs] => .ok (.int xs.length)
  | .len, [.tup xs] => .ok (.int xs.length)
  | .sorted, [.lst xs] => sortD xs
  | .sortedKeys, [.dic kvs] => if kvs.all (fun p => flatKey p.1) then sortD (kvs.map (·.1)) else if kvs.all (fun p => tupKey p.1) then sortD (kvs.map (·.1)) else .bad
  | .sortedItems, [.dic kvs] => if kvs.all (fun p => flatKey p.1) then sortD (kvs.map fun p => .tup [p.1, p.2]) else .bad
  | .tuple, [.lst xs] => .ok (.tup xs)
  | .tuple, [.tup xs] => .ok (.tup xs)
  | .list, [.lst xs] => .ok (.lst xs)
  | .list, [.tup xs] => .ok (.lst xs)
  | .listRange, [.int n] => if -4611686018427387904 ≤ n ∧ n ≤ lim then .ok (.lst ((List.range n.toNat).map fun (i : Nat) => D.int i)) else .bad
  | .dict, [.dic kvs] => if kvs.all (fun p => flatKey p.1) then .ok (.dic kvs) else .bad
  | .dict, [.lst xs] => match pairsOf xs with
    | some ps => if ps.all (fun p => flatKey p.1) then .ok (.dic (putAll [] ps)) else .bad
    | none => .bad
  | .str, [.int n] => if n.natAbs.log2 < 1920 then .ok (.str (Str.ofString (toString n))) else .bad
  | .int, [.str a] => match PySem.intText? a with
    | some n => if a.length ≤ 640 then .ok (.int n) else .bad
    | none => .bad
  | .int, [.bl b] => .ok (.int (if b then 1 else 0))
  | .sum, [.lst xs] => match intsOf xs with
    | some is => .ok (.int is.sum)
    | none => .bad
  | .max, [.lst xs] => match intsOf xs with
    | some (i :: is) => .ok (.int (is.foldl (fun a b => if b > a then b else a) i))
    | _ => .bad
  | .all, [.lst xs] => match blsOf xs with
    | some bs => .ok (.bl (bs.all id))
    | none => .bad
  | .ord, [.str a] => if a.length = 1 then .ok (.int (a.cps.getD 0 0 : Nat)) else .bad
  | .isInt, [d] => match d with
    | .int _ => .ok (.bl true)
    | .bl _ => .ok (.bl true)
    | .dic _ => .bad
    | .scr _ => .bad
    | _ => .ok (.bl false)
  | .isBool, [d] => match d with
    | .bl _ => .ok (.bl true)
    | .dic _ => .bad
    | .scr _ => .bad
    | _ => .ok (.bl false)
  | .isStr, [d] => match d with
    | .str _ => .ok (.bl true)
    | .dic _ => .bad
    | .scr _ => .bad
    | _ => .ok (.bl false)
  | .isTuple, [d] => match d with
    | .tup _ => .ok (.bl true)
    | .dic _ => .bad
    | .scr _ => .bad
    | _ => .ok (.bl false)
  | .isList, [d] => match d with
    | .lst _ => .ok (.bl true)
    | .dic _ => .bad
    | .scr _ => .bad
    | _ => .ok (.bl false)
  | _, _ => .bad

inductive ME where | join | find | split | partition | countS | countL | get | get1
  deriving DecidableEq
def meD : ME → D → List D → R D
  | .join, .str a, [.lst xs] => match strsOf xs with
    | some ys => if (ys.map (·.length)).sum + ys.length * a.length ≤ lim then .ok (.str (Txt.join a ys)) else .bad
    | none => .bad
  | .join, .str a, [.tup xs] => match strsOf xs with
    | some ys => if (ys.map (·.length)).sum + ys.length * a.length ≤ lim then .ok (.str (Txt.join a ys)) else .bad
    | none => .bad
  | .find, .str a, [.str b] => .ok (.int (Txt.find a b))
  | .split, .str a, [.str b] => if b.length ≠ 0 ∧ a.length + 2 ≤ lim then .ok (.lst ((Txt.split a b).map .str)) else .bad
  | .partition, .str a, [.str b] => if b.length ≠ 0 then .ok (.tup [.str (Txt.partition a b).1, .str (Txt.partition a b).2.1, .str (Txt.partition a b).2.2]) else .bad
  | .countS, .str a, [.str b] => .ok (.int (Txt.count a b))
  | .countL, .lst xs, [x] => if plain x && xs.all plain then .ok (.int (xs.filter fun y => y == x).length) else .bad
  | .get, .dic kvs, [k, d] => if keyFor kvs k then .ok ((getKV kvs k).getD d) else .bad
  | .get1, .dic kvs, [k] => if keyFor kvs k then .ok ((getKV kvs k).getD .non) else .bad
  | _, _, _ => .bad

/-! ### the language -/
inductive IG where | nm (i : Nat) | tp (is : List Nat)
mutual
inductive IE where
  | var (i : Nat) | con (x : Str) (d : D) | int (n : Int) | str (s : Str) | bl (b : Bool) | non
  | tup (es : IEs) | lst (es : IEs) | edic
  | bin (op : BOp) (a b : IE) | neg (a : IE)
  | cmp (op : CO) (a b : IE) | chn (o1 o2 : CO) (a b c : IE)
  | and (es : IEs) | or (es : IEs) | not (a : IE) | ife (c a b : IE)
  | idx (a b : IE) | sl (a : IE) (lo hi : IO) | rev (a : IE)
  | call (f : Str) (es : IEs) | lend (f : Str) (l : Bool) (es : IEs) | bi (b : BI) (es : IEs) | me (m : ME) (a : IE) (es : IEs)
  | comp (g : IG) (it : II) (c : IO) (elt : IE)
inductive IEs where | nil | cons (e : IE) (es : IEs)
inductive IO where | no | yes (e : IE)
inductive II where
  | of (e : IE) | rng1 (a : IE) | rng2 (a b : IE) | enum (a : IE) | zip (a b : IE) | items (a : IE) | keys (a : IE)
end

abbrev Env := List (Option D)
abbrev Orc := Str → List D → R D
def varE (i : Nat) (r : Env) : R D := match r[i]? with
  | some (some d) => .ok d
  | _ => .bad
def setMany : Env → List Nat → List D → Env
  | r, i :: is, d :: ds => setMany (r.set i (some d)) is ds
  | r, _, _ => r
def asgG (g : IG) (d : D) (r : Env) : R Env := match g with
  | .nm i => .ok (r.set i (some d))
  | .tp is => match d with
    | .tup ds => if ds.length = is.length then .ok (setMany r is ds) else .bad
    | _ => .bad
def unbl (d : D) : R Bool := match d with
  | .bl b => .ok b
  | _ => .bad
def unint (d : D) : R Int := match d with
  | .int i => .ok i
  | _ => .bad
/-- the turns of a comprehension -/
def compL (f : D → R (Option D)) : List D → R (List D)
  | [] => .ok []
  | x :: xs => (f x).bind fun o => (compL f xs).bind fun ys => .ok (match o with
    | some y => y :: ys
    | none => ys)
/-- what a loop walks -/
def seqD : D → R (List D)
  | .lst xs => .ok xs
  | .tup xs => .ok xs
  | .str s => .ok (s.cps.toList.map fun c => .str ⟨#[c]⟩)
  | _ => .bad
def seqT : D → R (List D)
  | .lst xs => .ok xs
  | .tup xs => .ok xs
  | _ => .bad
def zipD : D → D → R (List D)
  | .lst xs, .lst ys => .ok (xs.zipWith (fun u v => .tup [u, v]) ys)
  | .tup xs, .tup ys => .ok (xs.zipWith (fun u v => .tup [u, v]) ys)
  | _, _ => .bad
def small62 (i : Int) : Bool := decide (-4611686018427387904 ≤ i) && decide (i < 4611686018427387904)

section
variable (F : Orc)
mutual
def evalE : IE → Env → R D
  | .var i, r => varE i r
  | .con _ d, _ => .ok d
  | .int n, _ => .ok (.int n)
  | .str s, _ => .ok (.str s)
  | .bl b, _ => .ok (.bl b)
  | .non, _ => .ok .non
  | .tup es, r => (evalEs es r).bind fun ds => .ok (.tup ds)
  | .lst es, r => (evalEs es r).bind fun ds => .ok (.lst ds)
  | .edic, _ => .ok (.dic [])
  | .bin op a b, r => (evalE a r).bind fun x => (evalE b r).bind fun y => binD op x y
  | .neg a, r => (evalE a r).bind fun x => (unint x).bind fun i => .ok (.int (-i))
  | .cmp op a b, r => (evalE a r).bind fun x => (evalE b r).bind fun y => (cmpD op x y).bind fun c => .ok (.bl c)
  | .chn o1 o2 a b c, r => (evalE a r).bind fun x => (evalE b r).bind fun y => (cmpD o1 x y).bind fun k =>
      if k then (evalE c r).bind fun z => (cmpD o2 y z).bind fun k => .ok (.bl k) else .ok (.bl false)
  | .and es, r => (evalAnd es r).bind fun b => .ok (.bl b)
  | .or es, r => (evalOr es r).bind fun b => .ok (.bl b)
  | .not a, r => (evalE a r).bind fun x => (unbl x).bind fun b => .ok (.bl (!b))
  | .ife c a b, r => (evalE c r).bind fun x => (unbl x).bind fun k => if k then evalE a r else evalE b r
  | .idx a b, r => (evalE a r).bind fun x => (evalE b r).bind fun y => idxD x y
  | .sl a lo hi, r => (evalE a r).bind fun x => (evalO lo r).bind fun l => (evalO hi r).bind fun h => sliD x l h
  | .rev a, r => (evalE a r).bind fun x => match x with
    | .lst xs => .ok (.lst xs.reverse)
    | _ => .bad
  | .call f es, r => (evalEs es r).bind fun ds => F f ds
  | .lend f l es, r => (evalEs es r).bind fun ds => (F f ds).bind fun v => if noR l v then .ok v else .bad
  | .bi b es, r => (evalEs es r).bind fun ds => biD b ds
  | .me m a es, r => (evalE a r).bind fun x => (evalEs es r).bind fun ds => meD m x ds
  | .comp g it c e, r => (evalI it r).bind fun xs => (compL (fun x => (asgG g x r).bind fun r' => (evalC c r').bind fun b =>
      if b then (evalE e r').bind fun y => .ok (some y) else .ok none) xs).bind fun ys => if ys.length ≤ lim then .ok (.lst ys) else .bad
def evalEs : IEs → Env → R (List D)
  | .nil, _ => .ok []
  | .cons e es, r => (evalE e r).bind fun x => (evalEs es r).bind fun xs => .ok (x :: xs)
def evalAnd : IEs → Env → R Bool
  | .nil, _ => .ok true
  | .cons e es, r => (evalE e r).bind fun x => (unbl x).bind fun b => if b then evalAnd es r else .ok false
def evalOr : IEs → Env → R Bool
  | .nil, _ => .ok false
  | .cons e es, r => (evalE e r).bind fun x => (unbl x).bind fun b => if b then .ok true else evalOr es r
def evalO : IO → Env → R (Option Int)
  | .no, _ => .ok none
  | .yes e, r => (evalE e r).bind fun x => (unint x).bind fun i => .ok (some i)
def evalC : IO → Env → R Bool
  | .no, _ => .ok true
  | .yes e, r => (evalE e r).bind fun x => unbl x
def evalI : II → Env → R (List D)
  | .of e, r => (evalE e r).bind fun x => seqD x
  | .rng1 a, r => (evalE a r).bind fun x => (unint x).bind fun n => if small62 n then .ok ((List.range n.toNat).map fun (i : Nat) => D.int i) else .bad
  | .rng2 a b, r => (evalE a r).bind fun x => (unint x).bind fun m => (evalE b r).bind fun y => (unint y).bind fun n =>
      if small62 m && small62 n then .ok ((List.range (n - m).toNat).map fun (i : Nat) => D.int (m + i)) else .bad
  | .enum a, r => (evalE a r).bind fun x => match x with
    | .lst xs => .ok (xs.mapIdx fun i d => .tup [.int i, d])
    | .tup xs => .ok (xs.mapIdx fun i d => .tup [.int i, d])
    | _ => .bad
  | .zip a b, r => (evalE a r).bind fun x => (evalE b r).bind fun y => zipD x y
  | .items a, r => (evalE a r).bind fun x => match x with
    | .dic kvs => .ok (kvs.map fun p => .tup [p.1, p.2])
    | _ => .bad
  | .keys a, r => (evalE a r).bind fun x => match x with
    | .dic kvs => .ok (kvs.map (·.1))
    | _ => .bad
end
end

inductive Fl where | nx | rt (d : D) | ct | bk
mutual
inductive IS where
  | asg (g : IG) (e : IE) | mov (i j : Nat)
  | put (x : Nat) (k e : IE) | aug (x : Nat) (op : BOp) (e : IE)
  | app (x : Nat) (e : IE) | ext (x : Nat) (e : IE) | ins (x : Nat) (k e : IE) | rem (x : Nat) (e : IE)
  | popi (y x : Nat) (k : IE) | pop (x : Nat) | appAt (x k : Nat) (e : IE) | sdApp (x : Nat) (k e : IE)
  | ifs (c : IE) (a b : ISs) | ifSd (x : Nat) (k e c : IE) (a b : ISs)
  | loop (g : IG) (it : II) (ks : List Nat) (body : ISs) | loopV (g : IG) (x : Nat) (ks : List Nat) (body : ISs) | whl (n : Nat) (c : IE) (ks : List Nat) (body : ISs)
  | ret (e : IE) | ex (e : IE) | cont | brk | pass | kill (ks : List Nat) | frz (ks : List Nat)
  | told (v : Nat) (f : Str) (es : IEs) (c : IE) (x : Nat) (body : ISs)
inductive ISs where | nil | cons (s : IS) (ss : ISs)
end
def killR : List Nat → Env → Env
  | [], r => r
  | i :: is, r => killR is (r.set i none)
def lstOf (d : D) : R (List D) := match d with
  | .lst xs => .ok xs
  | _ => .bad
def dicOf (d : D) : R (List (D × D)) := match d with
  | .dic xs => .ok xs
  | _ => .bad
/-- a list without lists within -/
def innL : D → Bool
  | .lst ys => ys.all noL
  | _ => false
/-- the turns of a for -/
def forL (ks : List Nat) (f : D → Env → R (Fl × Env)) : List D → Env → R (Fl × Env)
  | [], r => .ok (.nx, killR ks r)
  | x :: xs, r => (f x (killR ks r)).bind fun p => match p.1 with
    | .nx => forL ks f xs p.2
    | .ct => forL ks f xs p.2
    | .bk => .ok (.nx, killR ks p.2)
    | .rt d => .ok (.rt d, p.2)
/-- the turns of a while -/
def whlL (ks : List Nat) (c : Env → R Bool) (f : Env → R (Fl × Env)) : Nat → Env → R (Fl × Env)
  | 0, _ => .bad
  | n + 1, r => (c (killR ks r)).bind fun b => if b then (f (killR ks r)).bind fun p => match p.1 with
      | .nx => whlL ks c f n p.2
      | .ct => whlL ks c f n p.2
      | .bk => .ok (.nx, killR ks p.2)
      | .rt d => .ok (.rt d, p.2)
    else .ok (.nx, killR ks r)
section
variable (F : Orc)
mutual
def evalS : IS → Env → R (Fl × Env)
  | .asg g e, r => (evalE F e r).bind fun d => (asgG g d r).bind fun r' => .ok (.nx, r')
  | .mov i j, r => (varE j r).bind fun d => .ok (.nx, (r.set j none).set i (some d))
  | .put x k e, r => (evalE F e r).bind fun v => (varE x r).bind fun d => (evalE F k r).bind fun kd => match d with
    | .dic kvs => if (keyFor kvs kd || tupFor kvs kd) && decide (kvs.length < lim) then .ok (.nx, r.set x (some (.dic (putKV kvs kd v)))) else .bad
    | .lst xs => (unint kd).bind fun i => if 0 ≤ i ∧ i < xs.length ∧ xs.length ≤ lim then .ok (.nx, r.set x (some (.lst (xs.set i.toNat v)))) else .bad
    | _ => .bad
  | .aug x op e, r => (varE x r).bind fun d => (evalE F e r).bind fun v => match d, v with
    | .int _, .int _ => (binD op d v).bind fun y => .ok (.nx, r.set x (some y))
    | _, _ => .bad
  | .app x e, r => (varE x r).bind fun d => (lstOf d).bind fun xs => (evalE F e r).bind fun v => if xs.length < lim then .ok (.nx, r.set x (some (.lst (xs ++ [v])))) else .bad
  | .ext x e, r => (varE x r).bind fun d => (lstOf d).bind fun xs => (evalE F e r).bind fun v => (lstOf v).bind fun ys => if xs.length + ys.length ≤ lim then .ok (.nx, r.set x (some (.lst (xs ++ ys)))) else .bad
  | .ins x k e, r => (varE x r).bind fun d => (lstOf d).bind fun xs => (evalE F k r).bind fun kd => (evalE F e r).bind fun v => match kd with
    | .int i => if 0 ≤ i ∧ i ≤ xs.length ∧ xs.length < lim then .ok (.nx, r.set x (some (.lst (xs.take i.toNat ++ v :: xs.drop i.toNat)))) else .bad
    | _ => .bad
  | .rem x e, r => (varE x r).bind fun d => (lstOf d).bind fun xs => (evalE F e r).bind fun v => if plain v && xs.all plain && xs.any (fun y => y == v) then .ok (.nx, r.set x (some (.lst (xs.eraseP fun y => y == v)))) else .bad
  | .popi y x k, r => (varE x r).bind fun d => (lstOf d).bind fun xs => (evalE F k r).bind fun kd => match kd with
    | .int i => if 0 ≤ i ∧ i < xs.length then (R.of xs[i.toNat]?).bind fun v => .ok (.nx, (r.set x (some (.lst (xs.eraseIdx i.toNat)))).set y (some v)) else .bad
    | _ => .bad
  | .pop x, r => (varE x r).bind fun d => (lstOf d).bind fun xs => if xs = [] then .bad else .ok (.nx, r.set x (some (.lst xs.dropLast)))
  | .appAt x k e, r => (varE x r).bind fun d => match d with
    | .tup ds => (R.of ds[k]?).bind fun dk => (lstOf dk).bind fun xs => (evalE F e r).bind fun v => if xs.length < lim then .ok (.nx, r.set x (some (.tup (ds.set k (.lst (xs ++ [v])))))) else .bad
    | _ => .bad
  | .sdApp x k e, r => (varE x r).bind fun d => (dicOf d).bind fun kvs => (evalE F k r).bind fun kd => (evalE F e r).bind fun v =>
      (lstOf ((getKV kvs kd).getD (.lst []))).bind fun ys => if keyFor kvs kd && decide (kvs.length < lim) && decide (ys.length < lim) then .ok (.nx, r.set x (some (.dic (putKV kvs kd (.lst (ys ++ [v])))))) else .bad
  | .ifs c a b, r => (evalE F c r).bind fun x => (unbl x).bind fun k => if k then evalSs a r else evalSs b r
  | .ifSd x k e c a b, r => (varE x r).bind fun d => (dicOf d).bind fun kvs => (evalE F k r).bind fun kd => (evalE F e r).bind fun v => if keyFor kvs kd && decide (kvs.length < lim) then
      let w := (getKV kvs kd).getD v
      let r' := match getKV kvs kd with
        | some _ => r
        | none => r.set x (some (.dic (kvs ++ [(kd, v)])))
      (evalE F c r').bind fun z => (eqD w z).bind fun q => if q then evalSs b r' else evalSs a r'
    else .bad
  | .loop g it ks body, r => (evalI F it r).bind fun xs => forL ks (fun x r => (asgG g x r).bind fun r' => evalSs body r') xs r
  | .loopV g x ks body, r => (varE x r).bind fun d => (lstOf d).bind fun xs => (forL ks (fun y r => (asgG g y r).bind fun r' => evalSs body r') xs (r.set x none)).bind fun p => match p.1 with
    | .nx => .ok (.nx, p.2.set x (some d))
    | fl => .ok (fl, p.2)
  | .whl n c ks body, r => whlL ks (fun r => (evalE F c r).bind unbl) (fun r => evalSs body r) n r
  | .ret e, r => (evalE F e r).bind fun d => .ok (.rt d, r)
  | .ex e, r => (evalE F e r).bind fun _ => .ok (.nx, r)
  | .cont, r => .ok (.ct, r)
  | .brk, r => .ok (.bk, r)
  | .pass, r => .ok (.nx, r)
  | .kill ks, r => .ok (.nx, killR ks r)
  | .frz _, r => .ok (.nx, r)
  | .told v f es c x body, r => (evalE F (.call f es) r).bind fun d => (evalE F c (r.set v (some d))).bind fun z => (unbl z).bind fun k => if k then .ok (.rt (.bl false), r) else
      (lstOf d).bind fun xs => if xs.all innL && decide (xs.length < lim) && decide (v < r.length) then forL [x] (fun y r' => evalSs body (r'.set x (some y))) xs (r.set v none) else .bad
def evalSs : ISs → Env → R (Fl × Env)
  | .nil, r => .ok (.nx, r)
  | .cons s ss, r => (evalS s r).bind fun p => match p.1 with
    | .nx => evalSs ss p.2
    | fl => .ok (fl, p.2)
end
end

/-- who owns what a name holds: nobody alone; the list (dict) is the name's alone; of a tuple the list at a place; (an answer:) a new list of new lists -/
inductive O where | sh | li | tp (k : Nat) | nl
  deriving DecidableEq
structure Def where
  np : Nat
  N : List Str
  own : List O
  ro : O
  body : ISs
def runBody (F : Orc) (d : Def) (ds : List D) : R D :=
  if ds.length = d.np then (evalSs F d.body (ds.map some ++ List.replicate (d.N.length - d.np) none)).bind fun p => match p.1 with
    | .rt v => .ok v
    | .nx => .ok .non
    | _ => .bad
  else .bad
/-- the defs, to a depth of calls -/
def run (T : Str → Option Def) : Nat → Orc
  | 0, _, _ => .bad
  | n + 1, f, ds => match T f with
    | some d => runBody (run T n) d ds
    | none => .bad
end MP
set_option maxRecDepth 100000
/-! How data lie in the hand layer's heap; what is hidden (owned). -/
namespace MP
open PySem PySem.Spec PyProof.Rows L2

/-! ### keys that are tuples -/
mutual
def toKey : D → Option NestedKey
  | .int i => some (.num i)
  | .str s => some (.text s)
  | .tup xs => match toKeys xs with
    | some ks => some (.tup ks)
    | none => none
  | _ => none
def toKeys : List D → Option (List NestedKey)
  | [] => some []
  | x :: xs => match toKey x, toKeys xs with
    | some k, some ks => some (k :: ks)
    | _, _ => none
end
/-- the object of a dict whose keys are tuples -/
def RawD (P : Program) (w : World) (a : Addr) (es : List (NestedKey × Addr × Value)) (h : Heap) : Prop :=
  (a == sysModules) = false ∧ es.length ≤ sizeLine ∧ ∃ o ents ep, h.get? a = some o ∧ o.ExactDict ∧ o.data = .dict ents ep ∧ ents.toList = es.map (entryOfKey (nestedKind P w)) ∧ (es.map (·.1)).Nodup
/-- a key's text is no longer than a line -/
def KeyZ (k : Key) : Prop := ∀ s, k = .inr s → s.length ≤ sizeLine
def keyD : Key → D
  | .inl i => .int i
  | .inr s => .str s

section
variable (P : Program) (w : World) (K : PySem.W.Frag)
mutual
inductive Rep (F : Hp) : V → D → Prop
  | non : Rep F .non .non
  | bl (b : Bool) : Rep F (.bl b) (.bl b)
  | int (i : Int) : Rep F (.int i) (.int i)
  | str (x : Str) : x.length ≤ sizeLine → Rep F (.str x) (.str x)
  | tup {a : Addr} {vs : List V} {ds : List D} : SqT K F a vs → Reps F vs ds → Rep F (.ref a) (.tup ds)
  | lst {a : Addr} {vs : List V} {ds : List D} : Rd F a (.lst vs) → Reps F vs ds → Rep F (.ref a) (.lst ds)
  | dic {a : Addr} {kvs : List (Key × V)} {ds : List (D × D)} : Rd F a (.dK kvs) → RepK F kvs ds → Rep F (.ref a) (.dic ds)
  | dicT {a : Addr} {es : List (NestedKey × Addr × Value)} {ds : List (D × D)} : Rd F a (.ext (RawD P w a es)) → es ≠ [] → RepT F es ds → Rep F (.ref a) (.dic ds)
  | scr {a : Addr} {ns : List Int} : SqL K F a (ns.map V.int) → Rep F (.ref a) (.scr ns)
inductive Reps (F : Hp) : List V → List D → Prop
  | nil : Reps F [] []
  | cons {v : V} {vs : List V} {d : D} {ds : List D} : Rep F v d → Reps F vs ds → Reps F (v :: vs) (d :: ds)
inductive RepK (F : Hp) : List (Key × V) → List (D × D) → Prop
  | nil : RepK F [] []
  | cons {k : Key} {v : V} {vs : List (Key × V)} {d : D} {ds : List (D × D)} : KeyZ k → Rep F v d → RepK F vs ds → RepK F ((k, v) :: vs) ((keyD k, d) :: ds)
inductive RepT (F : Hp) : List (NestedKey × Addr × Value) → List (D × D) → Prop
  | nil : RepT F [] []
  | cons {key : NestedKey} {b : Addr} {u : Value} {v : V} {vs : List (NestedKey × Addr × Value)} {kd d : D} {ds : List (D × D)} :
      toKey kd = some key → isTup kd = true → key.depth ≤ 8 → Rep F (.ref b) kd → RelV v u → Rep F v d → RepT F vs ds → RepT F ((key, b, u) :: vs) ((kd, d) :: ds)
end
end

section
variable {P : Program} {w : World} {K : PySem.W.Frag} {F F' H H' : Hp}
theorem Rd.mono {a : Addr} {o : HO} (h : Same F F') (r : Rd F a o) : Rd F' a o := by
  rcases r with r | ⟨u, r⟩
  · exact .inl (h _ _ r)
  · exact .inr ⟨u, h _ _ r⟩
theorem SqT.mono {a : Addr} {xs : List V} (h : Same F F') (r : SqT K F a xs) : SqT K F' a xs := by
  rcases r with r | r
  · exact .inl (Rd.mono h r)
  · exact .inr r
theorem SqL.mono {a : Addr} {xs : List V} (h : Same F F') (r : SqL K F a xs) : SqL K F' a xs := by
  rcases r with r | r
  · exact .inl (Rd.mono h r)
  · exact .inr r
mutual
theorem Rep.mono (h : Same F F') : ∀ {v : V} {d : D}, Rep P w K F v d → Rep P w K F' v d
  | _, _, .non => .non
  | _, _, .bl b => .bl b
  | _, _, .int i => .int i
  | _, _, .str x e => .str x e
  | _, _, .tup a b => .tup (SqT.mono h a) (Reps.mono h b)
  | _, _, .lst a b => .lst (Rd.mono h a) (Reps.mono h b)
  | _, _, .dic a b => .dic (Rd.mono h a) (RepK.mono h b)
  | _, _, .dicT a e b => .dicT (Rd.mono h a) e (RepT.mono h b)
  | _, _, .scr a => .scr (SqL.mono h a)
theorem Reps.mono (h : Same F F') : ∀ {v : List V} {d : List D}, Reps P w K F v d → Reps P w K F' v d
  | _, _, .nil => .nil
  | _, _, .cons a b => .cons (Rep.mono h a) (Reps.mono h b)
theorem RepK.mono (h : Same F F') : ∀ {v : List (Key × V)} {d : List (D × D)}, RepK P w K F v d → RepK P w K F' v d
  | _, _, .nil => .nil
  | _, _, .cons z a b => .cons z (Rep.mono h a) (RepK.mono h b)
theorem RepT.mono (h : Same F F') : ∀ {v : List (NestedKey × Addr × Value)} {d : List (D × D)}, RepT P w K F v d → RepT P w K F' v d
  | _, _, .nil => .nil
  | _, _, .cons a b c e f g i => .cons a b c (Rep.mono h e) f (Rep.mono h g) (RepT.mono h i)
end

theorem Reps.length : ∀ {vs : List V} {ds : List D}, Reps P w K F vs ds → vs.length = ds.length
  | _, _, .nil => rfl
  | _, _, .cons _ t => by simp [Reps.length t]
theorem Reps.get : ∀ {vs : List V} {ds : List D} {i : Nat} {d : D}, Reps P w K F vs ds → ds[i]? = some d → ∃ v, vs[i]? = some v ∧ Rep P w K F v d
  | _, _, _, _, .nil, e => by simp at e
  | _, _, 0, _, .cons r _, e => by simp at e; subst e; exact ⟨_, rfl, r⟩
  | _, _, i + 1, d, .cons _ t, e => by
    obtain ⟨v, h1, h2⟩ := Reps.get (i := i) (d := d) t (by simpa using e)
    exact ⟨v, by simpa using h1, h2⟩
theorem Reps.getV : ∀ {vs : List V} {ds : List D} {i : Nat} {v : V}, Reps P w K F vs ds → vs[i]? = some v → ∃ d, ds[i]? = some d ∧ Rep P w K F v d
  | _, _, _, _, .nil, e => by simp at e
  | _, _, 0, _, .cons r _, e => by simp at e; subst e; exact ⟨_, rfl, r⟩
  | _, _, i + 1, d, .cons _ t, e => by
    obtain ⟨v, h1, h2⟩ := Reps.getV (i := i) (v := d) t (by simpa using e)
    exact ⟨v, by simpa using h1, h2⟩
theorem Reps.append : ∀ {vs us : List V} {ds es : List D}, Reps P w K F vs ds → Reps P w K F us es → Reps P w K F (vs ++ us) (ds ++ es)
  | _, _, _, _, .nil, t => t
  | _, _, _, _, .cons a b, t => .cons a (Reps.append b t)
theorem Reps.take : ∀ {vs : List V} {ds : List D} (n : Nat), Reps P w K F vs ds → Reps P w K F (vs.take n) (ds.take n)
  | _, _, 0, _ => .nil
  | _, _, _ + 1, .nil => .nil
  | _, _, n + 1, .cons r t => .cons r (Reps.take n t)
theorem Reps.drop : ∀ {vs : List V} {ds : List D} (n : Nat), Reps P w K F vs ds → Reps P w K F (vs.drop n) (ds.drop n)
  | _, _, 0, r => r
  | _, _, _ + 1, .nil => .nil
  | _, _, n + 1, .cons r t => Reps.drop n t
theorem Reps.set {v : V} {d : D} (r : Rep P w K F v d) : ∀ {vs : List V} {ds : List D} (n : Nat), Reps P w K F vs ds → Reps P w K F (vs.set n v) (ds.set n d)
  | _, _, _, .nil => .nil
  | _, _, 0, .cons _ t => .cons r t
  | _, _, n + 1, .cons q t => .cons q (Reps.set r n t)
theorem Reps.eraseIdx : ∀ {vs : List V} {ds : List D} (n : Nat), Reps P w K F vs ds → Reps P w K F (vs.eraseIdx n) (ds.eraseIdx n)
  | _, _, _, .nil => .nil
  | _, _, 0, .cons _ t => t
  | _, _, n + 1, .cons q t => .cons q (Reps.eraseIdx n t)
theorem Reps.reverse : ∀ {vs : List V} {ds : List D}, Reps P w K F vs ds → Reps P w K F vs.reverse ds.reverse
  | _, _, .nil => .nil
  | _, _, .cons a b => by
    rw [List.reverse_cons, List.reverse_cons]
    exact Reps.append (Reps.reverse b) (.cons a .nil)
theorem Reps.dropLast {vs : List V} {ds : List D} (h : Reps P w K F vs ds) : Reps P w K F vs.dropLast ds.dropLast := by
  rw [List.dropLast_eq_take, List.dropLast_eq_take, h.length]
  exact h.take _

/-! ### what is hidden -/
def hid (H : Hp) (W : List Addr) : Hp := fun a => if a ∈ W then none else H a
theorem hid_nil : hid H [] = H := by funext a; simp [hid]
theorem hid_some {W : List Addr} {a : Addr} {o : HO} : hid H W a = some o ↔ a ∉ W ∧ H a = some o := by
  unfold hid
  by_cases h : a ∈ W <;> simp [h]
theorem hid_le {W : List Addr} : Same (hid H W) H := fun a o e => (hid_some.mp e).2
theorem hid_sub {W U : List Addr} (h : ∀ a ∈ U, a ∈ W) : Same (hid H W) (hid H U) := fun a o e => by
  obtain ⟨h1, h2⟩ := hid_some.mp e
  exact hid_some.mpr ⟨fun z => h1 (h a z), h2⟩
theorem hid_same {W : List Addr} (h : Same H H') : Same (hid H W) (hid H' W) := fun a o e => by
  obtain ⟨h1, h2⟩ := hid_some.mp e
  exact hid_some.mpr ⟨h1, h _ _ h2⟩
/-- more is hidden, but all that is new -/
theorem hid_new {W U : List Addr} (h : Same H H') (hu : ∀ a ∈ U, a ∈ W ∨ H a = none) : Same (hid H W) (hid H' U) := fun a o e => by
  obtain ⟨h1, h2⟩ := hid_some.mp e
  refine hid_some.mpr ⟨fun z => ?_, h _ _ h2⟩
  rcases hu a z with q | q
  · exact h1 q
  · rw [h2] at q; cases q
theorem hid_upd {W : List Addr} {a : Addr} {o : HO} (h : a ∈ W) : hid (upd H a o) W = hid H W := by
  funext b
  unfold hid upd
  by_cases hb : b ∈ W
  · rw [if_pos hb, if_pos hb]
  · rw [if_neg hb, if_neg hb, if_neg (fun e => hb (by rw [e]; exact h))]
theorem same_new {a : Addr} {o : HO} (h : H a = none) : Same H (upd H a o) := fun b u e => by
  rw [upd_ne (ne_of_none e h)]; exact e
theorem ne_none_of {a : Addr} {o : HO} (h : H a = some o) : H a ≠ none := by rw [h]; exact fun z => nomatch z

/-- the list or dict at a, which is hidden; its items are seen -/
inductive Root (P : Program) (w : World) (K : PySem.W.Frag) (H : Hp) (W : List Addr) (a : Addr) : D → Prop
  | lst {vs : List V} {ds : List D} : H a = some (.lst vs) → Reps P w K (hid H W) vs ds → Root P w K H W a (.lst ds)
  | dic {kvs : List (Key × V)} {ds : List (D × D)} : H a = some (.dK kvs) → RepK P w K (hid H W) kvs ds → Root P w K H W a (.dic ds)
  | dicT {es : List (NestedKey × Addr × Value)} {ds : List (D × D)} : H a = some (.ext (RawD P w a es)) → es ≠ [] → RepT P w K (hid H W) es ds → Root P w K H W a (.dic ds)
theorem Root.mono {W U : List Addr} {a : Addr} {d : D} (r : Root P w K H W a d) (h1 : ∀ o, H a = some o → H' a = some o) (h2 : Same (hid H W) (hid H' U)) : Root P w K H' U a d := by
  cases r with
  | lst e b => exact .lst (h1 _ e) (b.mono h2)
  | dic e b => exact .dic (h1 _ e) (b.mono h2)
  | dicT e n b => exact .dicT (h1 _ e) n (b.mono h2)
theorem Root.there {W : List Addr} {a : Addr} {d : D} (r : Root P w K H W a d) : ∃ o, H a = some o ∧ Mut (some o) := by
  cases r with
  | lst e _ => exact ⟨_, e, trivial⟩
  | dic e _ => exact ⟨_, e, trivial⟩
  | dicT e _ _ => exact ⟨_, e, trivial⟩
/-- seen as a whole -/
theorem Root.rep {W : List Addr} {a : Addr} {d : D} (r : Root P w K H W a d) {G : Hp} (h1 : ∀ o, H a = some o → G a = some o) (h2 : Same (hid H W) G) : Rep P w K G (.ref a) d := by
  cases r with
  | lst e b => exact .lst (.inl (h1 _ e)) (b.mono h2)
  | dic e b => exact .dic (.inl (h1 _ e)) (b.mono h2)
  | dicT e n b => exact .dicT (.inl (h1 _ e)) n (b.mono h2)

/-- a value of a mode: shared, owned, a tuple with an owned list at a place. R: the owned address -/
inductive Own (P : Program) (w : World) (K : PySem.W.Frag) (H : Hp) (W : List Addr) : O → V → D → Option Addr → Prop
  | sh {v : V} {d : D} : Rep P w K (hid H W) v d → Own P w K H W .sh v d none
  | li {a : Addr} {d : D} : a ∈ W → Root P w K H W a d → Own P w K H W .li (.ref a) d (some a)
  | tp {k : Nat} {t a : Addr} {vs : List V} {ds : List D} {d : D} : SqT K (hid H W) t vs → vs.length = ds.length → vs[k]? = some (.ref a) → ds[k]? = some d → a ∈ W → Root P w K H W a d →
      (∀ j v d, j ≠ k → vs[j]? = some v → ds[j]? = some d → Rep P w K (hid H W) v d) → Own P w K H W (.tp k) (.ref t) (.tup ds) (some a)
theorem Own.mono {W U : List Addr} {o : O} {v : V} {d : D} {r : Option Addr} (h : Own P w K H W o v d r) (h1 : ∀ a, r = some a → a ∈ U ∧ ∀ o, H a = some o → H' a = some o) (h2 : Same (hid H W) (hid H' U)) : Own P w K H' U o v d r := by
  cases h with
  | sh q => exact .sh (q.mono h2)
  | li q r => exact .li (h1 _ rfl).1 (r.mono (h1 _ rfl).2 h2)
  | tp a b c d e f g => exact .tp (SqT.mono h2 a) b c d (h1 _ rfl).1 (f.mono (h1 _ rfl).2 h2) fun j v d x y z => (g j v d x y z).mono h2
/-- seen as a whole -/
theorem Own.rep {W : List Addr} {o : O} {v : V} {d : D} {r : Option Addr} (h : Own P w K H W o v d r) {G : Hp} (h1 : ∀ a, r = some a → ∀ o, H a = some o → G a = some o) (h2 : Same (hid H W) G) : Rep P w K G v d := by
  cases h with
  | sh q => exact q.mono h2
  | li q r => exact r.rep (h1 _ rfl) h2
  | @tp k t a vs ds d x y z u e f g =>
    refine .tup (SqT.mono h2 x) ?_
    have all : ∀ j v d, vs[j]? = some v → ds[j]? = some d → Rep P w K G v d := fun j v d' p q => by
      by_cases hj : j = k
      · subst hj
        rw [z] at p; rw [u] at q
        cases p; cases q
        exact f.rep (h1 _ rfl) h2
      · exact (g j v d' hj p q).mono h2
    clear x z u f g
    induction vs generalizing ds with
    | nil =>
      cases ds with
      | nil => exact .nil
      | cons _ _ => simp at y
    | cons v vs ih =>
      cases ds with
      | nil => simp at y
      | cons d' ds =>
        refine .cons (all 0 v d' rfl rfl) (ih (by simpa using y) fun j v d p q => all (j + 1) v d (by simpa using p) (by simpa using q))
theorem Own.none_of_sh {W : List Addr} {v : V} {d : D} {r : Option Addr} (h : Own P w K H W .sh v d r) : r = none ∧ Rep P w K (hid H W) v d := by
  cases h with
  | sh q => exact ⟨rfl, q⟩
end

/-! ### the state of a def: what each name holds; who owns -/
/-- L: owned here; W: hidden from outside -/
structure SR (P : Program) (w : World) (K : PySem.W.Frag) (own : List O) (H : Hp) (L W : List Addr) (σ : L2.St) (ρ : Env) (R : Nat → Option Addr) : Prop where
  len : ρ.length = σ.length
  val : ∀ i d, ρ[i]? = some (some d) → ∃ v, σ[i]? = some (some v) ∧ Own P w K H (L ++ W) (own.getD i .sh) v d (R i)
  loc : ∀ i d a, ρ[i]? = some (some d) → R i = some a → a ∈ L ∧ a ∉ W
  inj : ∀ i j d e a, ρ[i]? = some (some d) → ρ[j]? = some (some e) → R i = some a → R j = some a → i = j
  wm : ∀ a ∈ L ++ W, ∃ o, H a = some o ∧ Mut (some o)
section
variable {P : Program} {w : World} {K : PySem.W.Frag} {own : List O} {H H' : Hp} {L W : List Addr} {σ : L2.St} {ρ : Env} {R : Nat → Option Addr}
theorem SR.fresh (S : SR P w K own H L W σ ρ R) {a : Addr} (h : H a = none) : a ∉ L ++ W := fun z => by
  obtain ⟨o, e, _⟩ := S.wm a z
  rw [h] at e; cases e
/-- all that stood stands -/
theorem SR.same (S : SR P w K own H L W σ ρ R) (h : Same H H') : SR P w K own H' L W σ ρ R := by
  refine ⟨S.len, fun i d e => ?_, S.loc, S.inj, fun a m => ?_⟩
  · obtain ⟨v, e1, q⟩ := S.val i d e
    exact ⟨v, e1, q.mono (fun a ra => ⟨List.mem_append_left _ (S.loc i d a e ra).1, h _⟩) (hid_same h)⟩
  · obtain ⟨o, e, m⟩ := S.wm a m
    exact ⟨o, h _ _ e, m⟩
/-- one more is hidden that is new -/
theorem SR.more (S : SR P w K own H L W σ ρ R) {p : Addr} {o : HO} (h : H p = none) (m : Mut (some o)) : SR P w K own (upd H p o) (p :: L) W σ ρ R := by
  have hs := same_new (o := o) h
  refine ⟨S.len, fun i d e => ?_, fun i d a e r => ⟨List.mem_cons_of_mem _ (S.loc i d a e r).1, (S.loc i d a e r).2⟩, S.inj, fun a q => ?_⟩
  · obtain ⟨v, e1, q⟩ := S.val i d e
    refine ⟨v, e1, q.mono (fun a ra => ⟨?_, hs _⟩) (hid_new hs fun a z => ?_)⟩
    · exact List.mem_cons_of_mem _ (List.mem_append_left _ (S.loc i d a e ra).1)
    · rcases List.mem_cons.mp z with rfl | z
      · exact .inr h
      · exact .inl z
  · rcases List.mem_cons.mp q with rfl | q
    · exact ⟨o, upd_same, m⟩
    · obtain ⟨u, e, m⟩ := S.wm a q
      exact ⟨u, hs _ _ e, m⟩
/-- a name is forgotten -/
theorem SR.kill (S : SR P w K own H L W σ ρ R) (i : Nat) : SR P w K own H L W σ (ρ.set i none) R := by
  have key : ∀ j d, (ρ.set i none)[j]? = some (some d) → ρ[j]? = some (some d) := fun j d e => by
    by_cases h : i = j
    · subst h
      by_cases hl : i < ρ.length
      · rw [List.getElem?_set_self hl] at e; cases e
      · rw [List.getElem?_eq_none (by simpa using hl)] at e; cases e
    · rwa [List.getElem?_set_ne h] at e
  exact ⟨by rw [List.length_set]; exact S.len, fun j d e => S.val j d (key j d e), fun j d a e => S.loc j d a (key j d e), fun j k d e a h1 h2 => S.inj j k d e a (key _ _ h1) (key _ _ h2), S.wm⟩
theorem SR.kills (S : SR P w K own H L W σ ρ R) : ∀ ks : List Nat, SR P w K own H L W σ (killR ks ρ) R := by
  intro ks
  induction ks generalizing ρ with
  | nil => exact S
  | cons k ks ih => exact ih (S.kill k)
/-- a shared value is stored -/
theorem SR.store (S : SR P w K own H L W σ ρ R) {i : Nat} {v : V} {d : D} (ho : own.getD i .sh = .sh) (r : Rep P w K (hid H (L ++ W)) v d) : SR P w K own H L W (σ.set i (some v)) (ρ.set i (some d)) (fun j => if j = i then none else R j) := by
  have key : ∀ j e, (ρ.set i (some d))[j]? = some (some e) → (j = i ∧ e = d ∧ i < σ.length) ∨ (j ≠ i ∧ ρ[j]? = some (some e)) := fun j e h => by
    by_cases hj : i = j
    · subst hj
      by_cases hl : i < ρ.length
      · rw [List.getElem?_set_self hl] at h; cases h; exact .inl ⟨rfl, rfl, S.len ▸ hl⟩
      · rw [List.getElem?_eq_none (by simpa using hl)] at h; cases h
    · rw [List.getElem?_set_ne hj] at h
      exact .inr ⟨fun z => hj z.symm, h⟩
  refine ⟨by rw [List.length_set, List.length_set]; exact S.len, fun j e h => ?_, fun j e a h q => ?_, fun j k e f a h1 h2 q1 q2 => ?_, S.wm⟩
  · rcases key j e h with ⟨rfl, rfl, hl⟩ | ⟨hj, h⟩
    · refine ⟨v, List.getElem?_set_self hl, ?_⟩
      rw [ho, if_pos rfl]
      exact .sh r
    · obtain ⟨u, e1, q⟩ := S.val j e h
      refine ⟨u, by rw [List.getElem?_set_ne (fun z => hj z.symm)]; exact e1, ?_⟩
      rw [if_neg hj]; exact q
  · rcases key j e h with ⟨rfl, rfl, hl⟩ | ⟨hj, h⟩
    · rw [if_pos rfl] at q; cases q
    · rw [if_neg hj] at q; exact S.loc j e a h q
  · rcases key j e h1 with ⟨rfl, rfl, hl⟩ | ⟨hj, h1⟩
    · rw [if_pos rfl] at q1; cases q1
    · rcases key k f h2 with ⟨rfl, rfl, hl⟩ | ⟨hk, h2⟩
      · rw [if_pos rfl] at q2; cases q2
      · rw [if_neg hj] at q1; rw [if_neg hk] at q2
        exact S.inj j k e f a h1 h2 q1 q2
/-- an owned value, new or free, is stored -/
theorem SR.take (S : SR P w K own H L W σ ρ R) {i : Nat} {v : V} {d : D} {a : Addr} (r : Own P w K H (L ++ W) (own.getD i .sh) v d (some a)) (ha : a ∈ L) (hw : a ∉ W)
    (hn : ∀ j e, j ≠ i → ρ[j]? = some (some e) → R j ≠ some a) : SR P w K own H L W (σ.set i (some v)) (ρ.set i (some d)) (fun j => if j = i then some a else R j) := by
  have key : ∀ j e, (ρ.set i (some d))[j]? = some (some e) → (j = i ∧ e = d ∧ i < σ.length) ∨ (j ≠ i ∧ ρ[j]? = some (some e)) := fun j e h => by
    by_cases hj : i = j
    · subst hj
      by_cases hl : i < ρ.length
      · rw [List.getElem?_set_self hl] at h; cases h; exact .inl ⟨rfl, rfl, S.len ▸ hl⟩
      · rw [List.getElem?_eq_none (by simpa using hl)] at h; cases h
    · rw [List.getElem?_set_ne hj] at h
      exact .inr ⟨fun z => hj z.symm, h⟩
  refine ⟨by rw [List.length_set, List.length_set]; exact S.len, fun j e h => ?_, fun j e b h q => ?_, fun j k e f b h1 h2 q1 q2 => ?_, S.wm⟩
  · rcases key j e h with ⟨rfl, rfl, hl⟩ | ⟨hj, h⟩
    · refine ⟨v, List.getElem?_set_self hl, ?_⟩
      rw [if_pos rfl]
      exact r
    · obtain ⟨u, e1, q⟩ := S.val j e h
      refine ⟨u, by rw [List.getElem?_set_ne (fun z => hj z.symm)]; exact e1, ?_⟩
      rw [if_neg hj]; exact q
  · rcases key j e h with ⟨rfl, rfl, hl⟩ | ⟨hj, h⟩
    · rw [if_pos rfl] at q; cases q; exact ⟨ha, hw⟩
    · rw [if_neg hj] at q; exact S.loc j e b h q
  · rcases key j e h1 with ⟨ej, ee, hl⟩ | ⟨hj, h1'⟩
    · rcases key k f h2 with ⟨ek, ef, hl⟩ | ⟨hk, h2'⟩
      · rw [ej, ek]
      · rw [if_pos ej] at q1; rw [if_neg hk] at q2
        cases q1
        exact absurd q2 (hn k f hk h2')
    · rcases key k f h2 with ⟨ek, ef, hl⟩ | ⟨hk, h2'⟩
      · rw [if_neg hj] at q1; rw [if_pos ek] at q2
        cases q2
        exact absurd q1 (hn j e hj h1')
      · rw [if_neg hj] at q1; rw [if_neg hk] at q2
        exact S.inj j k e f b h1' h2' q1 q2
/-- the owned object of the name i is changed -/
theorem SR.change (S : SR P w K own H L W σ ρ R) {i : Nat} {v : V} {d d' : D} {a : Addr} {o : HO} (hi : ρ[i]? = some (some d)) (hv : σ[i]? = some (some v)) (hR : R i = some a) (m : Mut (some o))
    (r : Own P w K (upd H a o) (L ++ W) (own.getD i .sh) v d' (some a)) : SR P w K own (upd H a o) L W σ (ρ.set i (some d')) R := by
  have hil : i < ρ.length := (List.getElem?_eq_some_iff.mp hi).1
  have ha : a ∈ L ++ W := List.mem_append_left _ (S.loc i d a hi hR).1
  have key : ∀ j e, (ρ.set i (some d'))[j]? = some (some e) → (j = i ∧ e = d') ∨ (j ≠ i ∧ ρ[j]? = some (some e)) := fun j e h => by
    by_cases hj : i = j
    · subst hj
      rw [List.getElem?_set_self hil] at h; cases h; exact .inl ⟨rfl, rfl⟩
    · rw [List.getElem?_set_ne hj] at h
      exact .inr ⟨fun z => hj z.symm, h⟩
  refine ⟨by rw [List.length_set]; exact S.len, fun j e h => ?_, fun j e b h q => ?_, fun j k e f b h1 h2 q1 q2 => ?_, fun b hb => ?_⟩
  · rcases key j e h with ⟨rfl, rfl⟩ | ⟨hj, h⟩
    · exact ⟨v, hv, by rw [hR]; exact r⟩
    · obtain ⟨u, e1, q⟩ := S.val j e h
      refine ⟨u, e1, q.mono (fun b rb => ⟨List.mem_append_left _ (S.loc j e b h rb).1, fun o' e' => ?_⟩) ?_⟩
      · rw [upd_ne]
        · exact e'
        · rintro rfl
          exact hj (S.inj j i e d b h hi rb hR)
      · rw [hid_upd ha]; exact Same.refl _
  · rcases key j e h with ⟨rfl, rfl⟩ | ⟨hj, h⟩
    · exact S.loc j d b hi q
    · exact S.loc j e b h q
  · have q : ∀ j e, (ρ.set i (some d'))[j]? = some (some e) → ∃ e', ρ[j]? = some (some e') := fun j e h => by
      rcases key j e h with ⟨rfl, rfl⟩ | ⟨hj, h⟩
      · exact ⟨d, hi⟩
      · exact ⟨e, h⟩
    obtain ⟨e', h1'⟩ := q j e h1
    obtain ⟨f', h2'⟩ := q k f h2
    exact S.inj j k e' f' b h1' h2' q1 q2
  · by_cases hba : b = a
    · subst hba; exact ⟨o, upd_same, m⟩
    · obtain ⟨u, e, mu⟩ := S.wm b hb
      exact ⟨u, by rw [upd_ne hba]; exact e, mu⟩
end
end MP
/-! == and != of plain data; in. -/
namespace MP
open PySem PySem.Spec PyProof.Rows L2

/-! ### what the heap itself says -/
mutual
inductive Lies (h : Heap) : Value → D → Prop
  | non : Lies h .none .non
  | int (i : Int) (t : Tok) : Lies h (.int i t) (.int i)
  | str (x : Str) (t : Tok) : Lies h (.str x t) (.str x)
  | tup {a : Addr} {its : List Value} {ds : List D} : h.IsTuple a its.toArray → LiesL h its ds → Lies h (.ref a) (.tup ds)
  | lst {a : Addr} {its : List Value} {ds : List D} : h.IsList a its.toArray → LiesL h its ds → Lies h (.ref a) (.lst ds)
inductive LiesL (h : Heap) : List Value → List D → Prop
  | nil : LiesL h [] []
  | cons {v : Value} {vs : List Value} {d : D} {ds : List D} : Lies h v d → LiesL h vs ds → LiesL h (v :: vs) (d :: ds)
end
section
variable {h : Heap}
theorem tup_tup {a : Addr} {xs ys : List Value} (p : h.IsTuple a xs.toArray) (q : h.IsTuple a ys.toArray) : xs = ys := by
  obtain ⟨o, e, _, n, d⟩ := p
  obtain ⟨o', e', _, n', d'⟩ := q
  rw [e] at e'; cases e'
  rw [d] at d'
  injection d' with d' _
  simpa using d'
theorem lst_lst {a : Addr} {xs ys : List Value} (p : h.IsList a xs.toArray) (q : h.IsList a ys.toArray) : xs = ys := by
  obtain ⟨o, e, _, n, d⟩ := p
  obtain ⟨o', e', _, n', d'⟩ := q
  rw [e] at e'; cases e'
  rw [d] at d'
  injection d' with d' _
  simpa using d'
theorem tup_lst {a : Addr} {xs ys : Array Value} (p : h.IsTuple a xs) (q : h.IsList a ys) : False := by
  obtain ⟨o, e, c, _⟩ := p
  obtain ⟨o', e', c', _⟩ := q
  rw [e] at e'; cases e'
  rw [c] at c'
  exact absurd (Value.type.inj c') (by decide)
mutual
theorem Lies.inj : ∀ (d e : D) (v : Value), Lies h v d → Lies h v e → d = e
  | .non, _, _, .non, q => by cases q; rfl
  | .int i, _, _, .int _ _, q => by cases q; rfl
  | .str i, _, _, .str _ _, q => by cases q; rfl
  | .tup ds, _, _, .tup p r, q => by
    cases q with
    | tup p' r' =>
      have e := tup_tup p p'
      subst e
      rw [LiesL.inj ds _ _ r r']
    | lst p' r' => exact (tup_lst p p').elim
  | .lst ds, _, _, .lst p r, q => by
    cases q with
    | lst p' r' =>
      have e := lst_lst p p'
      subst e
      rw [LiesL.inj ds _ _ r r']
    | tup p' r' => exact (tup_lst p' p).elim
  | .bl _, _, _, p, _ => nomatch p
  | .dic _, _, _, p, _ => nomatch p
  | .scr _, _, _, p, _ => nomatch p
theorem LiesL.inj : ∀ (d e : List D) (v : List Value), LiesL h v d → LiesL h v e → d = e
  | [], _, _, .nil, q => by cases q; rfl
  | d :: ds, _, _, .cons a b, q => by
    cases q with
    | cons a' b' => rw [Lies.inj d _ _ a a', LiesL.inj ds _ _ b b']
end
theorem LiesL.length : ∀ {vs : List Value} {ds : List D}, LiesL h vs ds → vs.length = ds.length
  | _, _, .nil => rfl
  | _, _, .cons _ t => by simp [LiesL.length t]
theorem LiesL.get : ∀ {vs : List Value} {ds : List D} {i : Nat} (hi : i < vs.length), LiesL h vs ds → ∃ d, ds[i]? = some d ∧ Lies h vs[i] d
  | _ :: _, _, 0, _, .cons r _ => ⟨_, rfl, r⟩
  | _ :: _, _, i + 1, hi, .cons _ t => by
    obtain ⟨d, h1, h2⟩ := LiesL.get (i := i) (by simpa using hi) t
    exact ⟨d, by simpa using h1, by simpa using h2⟩
end

theorem all_get {ds es : List D} (hl : ds.length = es.length) : (List.range ds.length).all (fun j => decide (ds[j]? = es[j]?)) = decide (ds = es) := by
  rw [Bool.eq_iff_iff, List.all_eq_true, decide_eq_true_iff]
  constructor
  · intro q
    apply List.ext_getElem? 
    intro i
    by_cases hi : i < ds.length
    · exact of_decide_eq_true (q i (List.mem_range.mpr hi))
    · rw [List.getElem?_eq_none (by omega), List.getElem?_eq_none (by omega)]
  · rintro rfl i _
    exact decide_eq_true rfl
theorem all_min {ds es : List D} : ((List.range (min ds.length es.length)).all (fun j => decide (ds[j]? = es[j]?)) && ds.length == es.length) = decide (ds = es) := by
  by_cases hl : ds.length = es.length
  · rw [hl, Nat.min_self, ← hl, all_get hl, hl]; simp
  · have e1 : (ds.length == es.length) = false := by simpa using hl
    rw [e1, Bool.and_false, decide_eq_false]
    rintro rfl
    exact hl rfl

open SeqAt in
theorem eq_lies (s : Shared) : ∀ (n : Nat) (d e : D) (A : Around) (u v : Value), plainN n d = true → plainN n e = true → Lies s.heap u d → Lies s.heap v e → A.units + n < cLine →
    EqAt A s u v (decide (d = e)) ∧ RcAt A s u v (decide (d = e)) ∧ RcNeAt A s u v (!decide (d = e)) := by
  intro n
  induction n with
  | zero =>
    intro d e A u v hd he p q hu
    have hu' : A.units < cLine := by omega
    cases p with
    | non =>
      cases q with
      | non => rw [decide_eq_true rfl]; exact ⟨EqAt.same _, RcAt.none_none, RcNeAt.none_none⟩
      | int => rw [decide_eq_false (by intro z; cases z)]; exact ⟨EqAt.none_int _ _, RcAt.none_int _ _, RcNeAt.none_int _ _⟩
      | str => rw [decide_eq_false (by intro z; cases z)]; exact ⟨EqAt.none_str _ _, RcAt.none_str _ _, RcNeAt.none_str _ _⟩
      | tup => simp [plainN] at he
      | lst => simp [plainN] at he
    | int i t =>
      cases q with
      | non => rw [decide_eq_false (by intro z; cases z)]; exact ⟨EqAt.int_none _ _, RcAt.int_none _ _, RcNeAt.int_none _ _⟩
      | int j r =>
        have e : decide (D.int i = D.int j) = (i == j) := by rw [Bool.eq_iff_iff]; simp
        rw [e]; exact ⟨EqAt.int_int _ _ _ _, RcAt.int_int _ _ _ _, RcNeAt.int_int _ _ _ _⟩
      | str => rw [decide_eq_false (by intro z; cases z)]; exact ⟨EqAt.int_str _ _ _ _, RcAt.int_str _ _ _ _, RcNeAt.int_str _ _ _ _⟩
      | tup => simp [plainN] at he
      | lst => simp [plainN] at he
    | str i t =>
      cases q with
      | non => rw [decide_eq_false (by intro z; cases z)]; exact ⟨EqAt.str_none _ _, RcAt.str_none _ _, RcNeAt.str_none _ _⟩
      | str j r =>
        have e : decide (D.str i = D.str j) = (i == j) := by rw [Bool.eq_iff_iff]; simp
        rw [e]; exact ⟨EqAt.str_str _ _ _ _, RcAt.str_str _ _ _ _, RcNeAt.str_str _ _ _ _⟩
      | int => rw [decide_eq_false (by intro z; cases z)]; exact ⟨EqAt.str_int _ _ _ _, RcAt.str_int _ _ _ _, RcNeAt.str_int _ _ _ _⟩
      | tup => simp [plainN] at he
      | lst => simp [plainN] at he
    | tup => simp [plainN] at hd
    | lst => simp [plainN] at hd
  | succ n ih =>
    intro d e A u v hd he p q hu
    have hu' : A.units < cLine := by omega
    have hu1 : A.in1.units + n < cLine := by show A.units + 1 + n < cLine; omega
    cases p with
    | non =>
      cases q with
      | non => rw [decide_eq_true rfl]; exact ⟨EqAt.same _, RcAt.none_none, RcNeAt.none_none⟩
      | int => rw [decide_eq_false (by intro z; cases z)]; exact ⟨EqAt.none_int _ _, RcAt.none_int _ _, RcNeAt.none_int _ _⟩
      | str => rw [decide_eq_false (by intro z; cases z)]; exact ⟨EqAt.none_str _ _, RcAt.none_str _ _, RcNeAt.none_str _ _⟩
      | tup hb => rw [decide_eq_false (by intro z; cases z)]; exact ⟨EqAt.none_tuple hb hu', RcAt.none_tuple hb hu', RcNeAt.none_tuple hb hu'⟩
      | lst hb => rw [decide_eq_false (by intro z; cases z)]; exact ⟨EqAt.none_list hb hu', RcAt.none_list hb hu', RcNeAt.none_list hb hu'⟩
    | int i t =>
      cases q with
      | non => rw [decide_eq_false (by intro z; cases z)]; exact ⟨EqAt.int_none _ _, RcAt.int_none _ _, RcNeAt.int_none _ _⟩
      | int j r =>
        have e : decide (D.int i = D.int j) = (i == j) := by rw [Bool.eq_iff_iff]; simp
        rw [e]; exact ⟨EqAt.int_int _ _ _ _, RcAt.int_int _ _ _ _, RcNeAt.int_int _ _ _ _⟩
      | str => rw [decide_eq_false (by intro z; cases z)]; exact ⟨EqAt.int_str _ _ _ _, RcAt.int_str _ _ _ _, RcNeAt.int_str _ _ _ _⟩
      | tup hb => rw [decide_eq_false (by intro z; cases z)]; exact ⟨EqAt.int_tuple _ _ hb hu', RcAt.int_tuple _ _ hb hu', RcNeAt.int_tuple _ _ hb hu'⟩
      | lst hb => rw [decide_eq_false (by intro z; cases z)]; exact ⟨EqAt.int_list _ _ hb hu', RcAt.int_list _ _ hb hu', RcNeAt.int_list _ _ hb hu'⟩
    | str i t =>
      cases q with
      | non => rw [decide_eq_false (by intro z; cases z)]; exact ⟨EqAt.str_none _ _, RcAt.str_none _ _, RcNeAt.str_none _ _⟩
      | str j r =>
        have e : decide (D.str i = D.str j) = (i == j) := by rw [Bool.eq_iff_iff]; simp
        rw [e]; exact ⟨EqAt.str_str _ _ _ _, RcAt.str_str _ _ _ _, RcNeAt.str_str _ _ _ _⟩
      | int => rw [decide_eq_false (by intro z; cases z)]; exact ⟨EqAt.str_int _ _ _ _, RcAt.str_int _ _ _ _, RcNeAt.str_int _ _ _ _⟩
      | tup hb => rw [decide_eq_false (by intro z; cases z)]; exact ⟨EqAt.str_tuple _ _ hb hu', RcAt.str_tuple _ _ hb hu', RcNeAt.str_tuple _ _ hb hu'⟩
      | lst hb => rw [decide_eq_false (by intro z; cases z)]; exact ⟨EqAt.str_list _ _ hb hu', RcAt.str_list _ _ hb hu', RcNeAt.str_list _ _ hb hu'⟩
    | @tup a its ds ha la =>
      cases q with
      | non => rw [decide_eq_false (by intro z; cases z)]; exact ⟨EqAt.tuple_none ha hu', RcAt.tuple_none ha hu', RcNeAt.tuple_none ha hu'⟩
      | str => rw [decide_eq_false (by intro z; cases z)]; exact ⟨EqAt.tuple_str _ _ ha hu', RcAt.tuple_str _ _ ha hu', RcNeAt.tuple_str _ _ ha hu'⟩
      | int => rw [decide_eq_false (by intro z; cases z)]; exact ⟨EqAt.tuple_int _ _ ha hu', RcAt.tuple_int _ _ ha hu', RcNeAt.tuple_int _ _ ha hu'⟩
      | lst hb => rw [decide_eq_false (by intro z; cases z)]; exact ⟨EqAt.tuple_list ha hb hu', RcAt.tuple_list ha hb hu', RcNeAt.tuple_list ha hb hu'⟩
      | @tup b jts es hb lb =>
        have e0 : decide (D.tup ds = D.tup es) = decide (ds = es) := by rw [Bool.eq_iff_iff]; simp
        rw [e0]
        have la' := la.length
        have lb' := lb.length
        have pd : ∀ x ∈ ds, plainN n x = true := by simpa [plainN] using hd
        have pe : ∀ x ∈ es, plainN n x = true := by simpa [plainN] using he
        have items : ∀ j (h1 : j < its.toArray.size) (h2 : j < jts.toArray.size), EqAt A.in1 s its.toArray[j] jts.toArray[j] (decide (ds[j]? = es[j]?)) := fun j h1 h2 => by
          have h1' : j < its.length := by simpa using h1
          have h2' : j < jts.length := by simpa using h2
          obtain ⟨x, ex, lx⟩ := la.get h1'
          obtain ⟨y, ey, ly⟩ := lb.get h2'
          rw [ex, ey]
          have e1 : decide (some x = some y) = decide (x = y) := by rw [Bool.eq_iff_iff]; simp
          rw [e1]
          exact (ih x y A.in1 _ _ (pd x (List.mem_of_getElem? ex)) (pe y (List.mem_of_getElem? ey)) lx ly hu1).1
        have r1 := RcAt.tuples ha hb hu' items
        have r2 := RcNeAt.tuples ha hb hu' items
        have e2 : ((List.range (min its.toArray.size jts.toArray.size)).all (fun j => decide (ds[j]? = es[j]?)) && its.toArray.size == jts.toArray.size) = decide (ds = es) := by
          rw [← all_min (ds := ds) (es := es), ← la', ← lb']; simp
        rw [e2] at r1 r2
        refine ⟨?_, r1, r2⟩
        by_cases hab : a = b
        · subst hab
          have e3 := tup_tup ha hb
          subst e3
          rw [LiesL.inj _ _ _ la lb, decide_eq_true rfl]
          exact EqAt.same _
        · exact EqAt.of_refs hab r1
    | @lst a its ds ha la =>
      cases q with
      | non => rw [decide_eq_false (by intro z; cases z)]; exact ⟨EqAt.list_none ha hu', RcAt.list_none ha hu', RcNeAt.list_none ha hu'⟩
      | str => rw [decide_eq_false (by intro z; cases z)]; exact ⟨EqAt.list_str _ _ ha hu', RcAt.list_str _ _ ha hu', RcNeAt.list_str _ _ ha hu'⟩
      | int => rw [decide_eq_false (by intro z; cases z)]; exact ⟨EqAt.list_int _ _ ha hu', RcAt.list_int _ _ ha hu', RcNeAt.list_int _ _ ha hu'⟩
      | tup hb => rw [decide_eq_false (by intro z; cases z)]; exact ⟨EqAt.list_tuple ha hb hu', RcAt.list_tuple ha hb hu', RcNeAt.list_tuple ha hb hu'⟩
      | @lst b jts es hb lb =>
        have e0 : decide (D.lst ds = D.lst es) = decide (ds = es) := by rw [Bool.eq_iff_iff]; simp
        rw [e0]
        have la' := la.length
        have lb' := lb.length
        have pd : ∀ x ∈ ds, plainN n x = true := by simpa [plainN] using hd
        have pe : ∀ x ∈ es, plainN n x = true := by simpa [plainN] using he
        have items : ∀ j (h1 : j < its.toArray.size) (h2 : j < jts.toArray.size), EqAt A.in1 s its.toArray[j] jts.toArray[j] (decide (ds[j]? = es[j]?)) := fun j h1 h2 => by
          have h1' : j < its.length := by simpa using h1
          have h2' : j < jts.length := by simpa using h2
          obtain ⟨x, ex, lx⟩ := la.get h1'
          obtain ⟨y, ey, ly⟩ := lb.get h2'
          rw [ex, ey]
          have e1 : decide (some x = some y) = decide (x = y) := by rw [Bool.eq_iff_iff]; simp
          rw [e1]
          exact (ih x y A.in1 _ _ (pd x (List.mem_of_getElem? ex)) (pe y (List.mem_of_getElem? ey)) lx ly hu1).1
        have key : RcAt A s (.ref a) (.ref b) (decide (ds = es)) ∧ RcNeAt A s (.ref a) (.ref b) (!decide (ds = es)) := by
          by_cases hsz : its.toArray.size = jts.toArray.size
          · have hsz' : ds.length = es.length := by rw [← la', ← lb']; simpa using hsz
            have e2 : (List.range its.toArray.size).all (fun j => decide (ds[j]? = es[j]?)) = decide (ds = es) := by
              rw [← all_get hsz', ← la']; simp
            have r1 := RcAt.lists ha hb hsz hu' items
            have r2 := RcNeAt.lists ha hb hsz hu' items
            rw [e2] at r1 r2
            exact ⟨r1, r2⟩
          · have hne : ds ≠ es := by
              rintro rfl
              exact hsz (by simp [la', lb'])
            rw [decide_eq_false hne]
            exact ⟨RcAt.lists_lengths ha hb (by simpa using hsz) hu', RcNeAt.lists_lengths ha hb (by simpa using hsz) hu'⟩
        refine ⟨?_, key.1, key.2⟩
        by_cases hab : a = b
        · subst hab
          have e3 := lst_lst ha hb
          subst e3
          rw [LiesL.inj _ _ _ la lb, decide_eq_true rfl]
          exact EqAt.same _
        · exact EqAt.of_refs hab key.1

/-! ### from the abstract heap -/
section
variable {X : Cx} {pins : List (Addr × Obj)} {σ : L2.St} {H : Hp} {s : Shared} {P : Program} {w : World}
mutual
theorem Rep.lies (I : Inv X pins σ H s) : ∀ (n : Nat) (d : D) (v : V) (u : Value), plainN n d = true → Rep P w X.K H v d → RelV v u → Lies s.heap u d
  | _, .non, _, _, _, .non, r => by cases r; exact .non
  | _, .int i, _, _, _, .int _, r => by obtain ⟨t, rfl⟩ := r; exact .int _ _
  | _, .str x, _, _, _, .str _ _, r => by obtain ⟨t, rfl⟩ := r; exact .str _ _
  | n + 1, .tup ds, _, _, hp, .tup a b, r => by
    cases r
    obtain ⟨its, rv, ht, _⟩ := I.tuple a
    have hp' : ∀ x ∈ ds, plainN n x = true := by simpa [plainN] using hp
    exact .tup ht (Reps.lies I n ds _ its hp' b rv)
  | n + 1, .lst ds, _, _, hp, .lst a b, r => by
    cases r
    obtain ⟨its, rv, ht, _⟩ := I.list (.inl a)
    have hp' : ∀ x ∈ ds, plainN n x = true := by simpa [plainN] using hp
    exact .lst ht.isList (Reps.lies I n ds _ its hp' b rv)
  | 0, .tup _, _, _, hp, _, _ => by simp [plainN] at hp
  | 0, .lst _, _, _, hp, _, _ => by simp [plainN] at hp
  | n, .bl _, _, _, hp, _, _ => by cases n <;> simp [plainN] at hp
  | n, .dic _, _, _, hp, _, _ => by cases n <;> simp [plainN] at hp
  | n, .scr _, _, _, hp, _, _ => by cases n <;> simp [plainN] at hp
theorem Reps.lies (I : Inv X pins σ H s) : ∀ (n : Nat) (ds : List D) (vs : List V) (us : List Value), (∀ x ∈ ds, plainN n x = true) → Reps P w X.K H vs ds → Vals vs us → LiesL s.heap us ds
  | _, [], _, _, _, .nil, r => by cases r; exact .nil
  | n, d :: ds, _, _, hp, .cons a b, r => by
    cases r with
    | cons r1 r2 => exact .cons (Rep.lies I n d _ _ (hp d List.mem_cons_self) a r1) (Reps.lies I n ds _ _ (fun x hx => hp x (List.mem_cons_of_mem _ hx)) b r2)
end
end

section
variable {X : Cx} {P : Program} {w : World}
/-- ==, != by data -/
def rEq (P : Program) (w : World) (K : PySem.W.Frag) (neg : Bool) : R2 := fun x y H Q => ∃ d e b, Rep P w K H x d ∧ Rep P w K H y e ∧ eqD d e = .ok b ∧ Q (.bl (if neg then !b else b)) H
theorem op_eqM (hu : X.A.units + 64 < cLine) : OpR X (compareOp .Eq) (rEq P w X.K false) := by
  intro pins s σ H x y v u Q I rx ry h
  obtain ⟨d, e, b, hd, he, hb, q⟩ := h
  have fin : ∀ b', b' = b → EP X pins σ Q (.bool b') s := fun b' z => ⟨.bl b', H, I, rfl, by rw [z]; exact q⟩
  unfold eqD at hb
  split at hb
  · cases hb; cases hd; cases he; cases rx; cases ry
    exact SeqAt.RcAt.bool_bool _ _ _ _ _ _ (fin _ rfl)
  · cases hb; cases hd; cases he; cases rx; cases ry
    exact SeqAt.RcAt.bool_none _ _ _ _ _ (fin _ rfl)
  · cases hb; cases hd; cases he; cases rx; cases ry
    exact SeqAt.RcAt.none_bool _ _ _ _ _ (fin _ rfl)
  · split at hb
    · rename_i hp
      cases hb
      rw [Bool.and_eq_true] at hp
      exact (eq_lies s 30 d e X.A v u hp.1 hp.2 (hd.lies I 30 _ _ _ hp.1 rx) (he.lies I 30 _ _ _ hp.2 ry) (by omega)).2.1 _ _ _ _ (fin _ rfl)
    · cases hb
theorem op_neM (hu : X.A.units + 64 < cLine) : OpR X (compareOp .NotEq) (rEq P w X.K true) := by
  intro pins s σ H x y v u Q I rx ry h
  obtain ⟨d, e, b, hd, he, hb, q⟩ := h
  have fin : ∀ b', b' = !b → EP X pins σ Q (.bool b') s := fun b' z => ⟨.bl b', H, I, rfl, by rw [z]; exact q⟩
  unfold eqD at hb
  split at hb
  · cases hb; cases hd; cases he; cases rx; cases ry
    exact SeqAt.RcNeAt.bool_bool _ _ _ _ _ _ (fin _ rfl)
  · cases hb; cases hd; cases he; cases rx; cases ry
    exact SeqAt.RcNeAt.bool_none _ _ _ _ _ (fin _ rfl)
  · cases hb; cases hd; cases he; cases rx; cases ry
    exact SeqAt.RcNeAt.none_bool _ _ _ _ _ (fin _ rfl)
  · split at hb
    · rename_i hp
      cases hb
      rw [Bool.and_eq_true] at hp
      exact (eq_lies s 30 d e X.A v u hp.1 hp.2 (hd.lies I 30 _ _ _ hp.1 rx) (he.lies I 30 _ _ _ hp.2 ry) (by omega)).2.2 _ _ _ _ (fin _ rfl)
    · cases hb
/-- the items of a list, a tuple compared with one -/
theorem items_any {s : Shared} {A : Around} {its : List Value} {ds : List D} {u : Value} {d : D} (hi : LiesL s.heap its ds) (hd : Lies s.heap u d) (pd : plainN 30 d = true) (pi : ∀ x ∈ ds, plainN 30 x = true) (hu : A.units + 40 < cLine) :
    ∃ e : Value → Bool, (∀ y, y ∈ its.toArray → SeqAt.EqAt A.in1 s y u (e y)) ∧ its.toArray.any e = ds.any fun z => z == d := by
  classical
  refine ⟨fun y => decide (Lies s.heap y d), fun y hy => ?_, ?_⟩
  · have hy' : y ∈ its := by simpa using hy
    obtain ⟨j, hj, rfl⟩ := List.mem_iff_getElem.mp hy'
    obtain ⟨x, ex, lx⟩ := hi.get hj
    have e1 : decide (Lies s.heap its[j] d) = decide (x = d) := by
      rw [Bool.eq_iff_iff, decide_eq_true_iff, decide_eq_true_iff]
      exact ⟨fun q => Lies.inj _ _ _ lx q, fun q => q ▸ lx⟩
    show SeqAt.EqAt A.in1 s its[j] u (decide (Lies s.heap its[j] d))
    rw [e1]
    exact (eq_lies s 30 x d A.in1 _ _ (pi x (List.mem_of_getElem? ex)) pd lx hd (by show A.units + 1 + 30 < cLine; omega)).1
  · rw [List.any_toArray]
    clear pi pd hd hu
    induction its generalizing ds with
    | nil => cases hi; rfl
    | cons y ys ih =>
      cases hi with
      | @cons _ _ x xs a b =>
        rw [List.any_cons, List.any_cons, ih b]
        congr 1
        rw [Bool.eq_iff_iff, decide_eq_true_iff, beq_iff_eq]
        exact ⟨fun q => Lies.inj _ _ _ a q, fun q => q ▸ a⟩
/-- x in xs (not in) by data: xs a list or a tuple -/
def rInS (P : Program) (w : World) (K : PySem.W.Frag) (neg : Bool) : R2 := fun x y H Q => ∃ d ds e, Rep P w K H x d ∧ Rep P w K H y e ∧ (e = .lst ds ∨ e = .tup ds) ∧ plain d = true ∧ ds.all plain = true ∧
  Q (.bl (if neg then !(ds.any fun z => z == d) else ds.any fun z => z == d)) H
theorem op_inM (hu : X.A.units + 64 < cLine) : OpR X (compareOp .In) (rInS P w X.K false) := by
  intro pins s σ H x y v u Q I rx ry h
  obtain ⟨d, ds, e, hd, he, hx, pd, pds, q⟩ := h
  have fin : ∀ b', b' = (ds.any fun z => z == d) → EP X pins σ Q (.bool b') s := fun b' z => ⟨.bl b', H, I, rfl, by rw [z]; exact q⟩
  have pds' : ∀ z ∈ ds, plainN 30 z = true := by simpa [plain] using pds
  have ld := hd.lies I 30 _ _ _ pd rx
  rcases hx with rfl | rfl
  · cases he with
    | lst a b =>
      cases ry
      obtain ⟨its, rv, ht, _⟩ := I.list (.inl a)
      obtain ⟨f, h1, h2⟩ := items_any (A := X.A) (Reps.lies I 30 ds _ its pds' b rv) ld pd pds' (by omega)
      exact SeqAt.in_listAt f ht.isList h1 (fin _ h2)
  · cases he with
    | tup a b =>
      cases ry
      obtain ⟨its, rv, ht, _⟩ := I.tuple a
      obtain ⟨f, h1, h2⟩ := items_any (A := X.A) (Reps.lies I 30 ds _ its pds' b rv) ld pd pds' (by omega)
      exact SeqAt.in_tupleAt f ht h1 (fin _ h2)
theorem op_notinM (hu : X.A.units + 64 < cLine) : OpR X (compareOp .NotIn) (rInS P w X.K true) := by
  intro pins s σ H x y v u Q I rx ry h
  obtain ⟨d, ds, e, hd, he, hx, pd, pds, q⟩ := h
  have fin : ∀ b', b' = (!ds.any fun z => z == d) → EP X pins σ Q (.bool b') s := fun b' z => ⟨.bl b', H, I, rfl, by rw [z]; exact q⟩
  have pds' : ∀ z ∈ ds, plainN 30 z = true := by simpa [plain] using pds
  have ld := hd.lies I 30 _ _ _ pd rx
  rcases hx with rfl | rfl
  · cases he with
    | lst a b =>
      cases ry
      obtain ⟨its, rv, ht, _⟩ := I.list (.inl a)
      obtain ⟨f, h1, h2⟩ := items_any (A := X.A) (Reps.lies I 30 ds _ its pds' b rv) ld pd pds' (by omega)
      exact SeqAt.notIn_listAt f ht.isList h1 (fin _ (by rw [h2]))
  · cases he with
    | tup a b =>
      cases ry
      obtain ⟨its, rv, ht, _⟩ := I.tuple a
      obtain ⟨f, h1, h2⟩ := items_any (A := X.A) (Reps.lies I 30 ds _ its pds' b rv) ld pd pds' (by omega)
      exact SeqAt.notIn_tupleAt f ht h1 (fin _ (by rw [h2]))
end
end MP
/-! < of plain data; sorted. -/
namespace MP
open PySem PySem.Spec PyProof.Rows L2

/-! ### the order -/
theorem strLt_irr (a : Str) : strLt a a = false := decide_eq_false (List.lt_irrefl _)
theorem strLt_trn {a b c : Str} (h : strLt a b = true) (k : strLt b c = true) : strLt a c = true := decide_eq_true (List.lt_trans (of_decide_eq_true h) (of_decide_eq_true k))
theorem strLt_tri {a b : Str} (h : a ≠ b) : strLt a b = true ∨ strLt b a = true := by
  unfold strLt
  rw [decide_eq_true_iff, decide_eq_true_iff]
  rcases Classical.em (a.cps.toList < b.cps.toList) with q | q
  · exact .inl q
  · rcases Classical.em (b.cps.toList < a.cps.toList) with q' | q'
    · exact .inr q'
    · refine absurd ?_ h
      have e : a.cps.toList = b.cps.toList := List.le_antisymm (List.not_lt.mp q') (List.not_lt.mp q)
      cases a; cases b
      simpa using e
structure OrdOn (p : D → Prop) : Prop where
  irr : ∀ d, p d → dlt d d = false
  tri : ∀ d e, p d → p e → d ≠ e → dlt d e = true ∨ dlt e d = true
  trn : ∀ d e f, p d → p e → p f → dlt d e = true → dlt e f = true → dlt d f = true
structure OrdsOn (p : D → Prop) : Prop where
  irr : ∀ d, (∀ x ∈ d, p x) → dlts d d = false
  tri : ∀ d e, (∀ x ∈ d, p x) → (∀ x ∈ e, p x) → d ≠ e → dlts d e = true ∨ dlts e d = true
  trn : ∀ d e f, (∀ x ∈ d, p x) → (∀ x ∈ e, p x) → (∀ x ∈ f, p x) → dlts d e = true → dlts e f = true → dlts d f = true
theorem ords_of {p : D → Prop} (O : OrdOn p) : OrdsOn p := by
  refine ⟨fun d => ?_, fun d => ?_, fun d => ?_⟩
  · induction d with
    | nil => intro _; rw [dlts]
    | cons x xs ih => intro h; rw [dlts, if_pos rfl]; exact ih fun y hy => h y (List.mem_cons_of_mem _ hy)
  · induction d with
    | nil =>
      intro e _ _ hne
      cases e with
      | nil => exact absurd rfl hne
      | cons y ys => left; rw [dlts]
    | cons x xs ih =>
      intro e h1 h2 hne
      cases e with
      | nil => right; rw [dlts]
      | cons y ys =>
        by_cases e : x = y
        · subst e
          rw [dlts, dlts, if_pos rfl, if_pos rfl]
          exact ih ys (fun z hz => h1 z (List.mem_cons_of_mem _ hz)) (fun z hz => h2 z (List.mem_cons_of_mem _ hz)) fun q => hne (by rw [q])
        · rw [dlts, dlts, if_neg e, if_neg (fun q => e q.symm)]
          exact O.tri x y (h1 x List.mem_cons_self) (h2 y List.mem_cons_self) e
  · induction d with
    | nil =>
      intro e f _ _ _ h k
      cases e with
      | nil => rw [dlts] at h; cases h
      | cons y ys =>
        cases f with
        | nil => rw [dlts] at k; cases k
        | cons z zs => rw [dlts]
    | cons x xs ih =>
      intro e f h1 h2 h3 h k
      cases e with
      | nil => rw [dlts] at h; cases h
      | cons y ys =>
        cases f with
        | nil => rw [dlts] at k; cases k
        | cons z zs =>
          have px := h1 x List.mem_cons_self
          have py := h2 y List.mem_cons_self
          have pz := h3 z List.mem_cons_self
          rw [dlts] at h k ⊢
          by_cases e1 : x = y
          · subst e1
            rw [if_pos rfl] at h
            by_cases e2 : x = z
            · rw [if_pos e2] at k ⊢
              exact ih ys zs (fun w hw => h1 w (List.mem_cons_of_mem _ hw)) (fun w hw => h2 w (List.mem_cons_of_mem _ hw)) (fun w hw => h3 w (List.mem_cons_of_mem _ hw)) h k
            · rw [if_neg e2] at k ⊢
              exact k
          · rw [if_neg e1] at h
            by_cases e2 : y = z
            · subst e2
              rw [if_neg e1]; exact h
            · rw [if_neg e2] at k
              have q := O.trn x y z px py pz h k
              by_cases e3 : x = z
              · subst e3
                rw [O.irr x px] at q; cases q
              · rw [if_neg e3]; exact q
theorem dlt_kind {d e : D} (h : kindD d < kindD e) : dlt d e = true := by
  cases d <;> cases e <;> first | (exfalso; simp [kindD] at h; done) | (simp [dlt, kindD]; done) | (simp [kindD] at h)
theorem dlt_kinds {d e : D} (h : dlt d e = true) : kindD d ≤ kindD e := by
  cases d <;> cases e <;> first | exact Nat.le_refl _ | (simp [dlt, kindD] at h ⊢)
theorem ord_plain : ∀ n : Nat, OrdOn fun d => plainN n d = true := by
  have base : ∀ (p : D → Prop), (∀ a b, p (.tup a) → p (.tup b) → a ≠ b → dlts a b = true ∨ dlts b a = true) → (∀ a b, p (.lst a) → p (.lst b) → a ≠ b → dlts a b = true ∨ dlts b a = true) →
      (∀ a, p (.tup a) → dlts a a = false) → (∀ a, p (.lst a) → dlts a a = false) →
      (∀ a b c, p (.tup a) → p (.tup b) → p (.tup c) → dlts a b = true → dlts b c = true → dlts a c = true) → (∀ a b c, p (.lst a) → p (.lst b) → p (.lst c) → dlts a b = true → dlts b c = true → dlts a c = true) →
      (∀ b, ¬ p (.bl b)) → (∀ b, ¬ p (.dic b)) → (∀ b, ¬ p (.scr b)) → OrdOn p := by
    intro p t1 t2 i1 i2 r1 r2 nb nd ns
    refine ⟨fun d hd => ?_, fun d e hd he hne => ?_, fun d e f hd he hf h k => ?_⟩
    · cases d with
      | non => simp [dlt, kindD]
      | bl b => exact absurd hd (nb b)
      | int i => simp [dlt]
      | str s => rw [dlt]; exact strLt_irr s
      | tup a => rw [dlt]; exact i1 a hd
      | lst a => rw [dlt]; exact i2 a hd
      | dic a => exact absurd hd (nd a)
      | scr a => exact absurd hd (ns a)
    · rcases Nat.lt_trichotomy (kindD d) (kindD e) with q | q | q
      · exact .inl (dlt_kind q)
      · cases d <;> cases e <;> first | (simp only [kindD] at q; omega) | exact absurd rfl hne | exact absurd hd (nb _) | exact absurd hd (nd _) | exact absurd hd (ns _) | exact absurd he (nb _) | exact absurd he (nd _) | exact absurd he (ns _) | skip
        · rename_i a b
          rw [dlt, dlt, decide_eq_true_iff, decide_eq_true_iff]
          have : a ≠ b := fun z => hne (by rw [z])
          omega
        · rw [dlt, dlt]; exact strLt_tri fun z => hne (by rw [z])
        · rw [dlt, dlt]; exact t1 _ _ hd he fun z => hne (by rw [z])
        · rw [dlt, dlt]; exact t2 _ _ hd he fun z => hne (by rw [z])
      · exact .inr (dlt_kind q)
    · have h' := dlt_kinds h
      have k' := dlt_kinds k
      by_cases q : kindD d < kindD f
      · exact dlt_kind q
      · have q1 : kindD d = kindD e := by omega
        have q2 : kindD e = kindD f := by omega
        cases d <;> cases e <;> first | (simp only [kindD] at q1; omega) | exact absurd hd (nb _) | exact absurd hd (nd _) | exact absurd hd (ns _) | exact absurd he (nb _) | exact absurd he (nd _) | exact absurd he (ns _) | skip
        all_goals cases f <;> first | (simp only [kindD] at q2; omega) | exact absurd hf (nb _) | exact absurd hf (nd _) | exact absurd hf (ns _) | (simp [dlt, kindD] at h; done) | skip
        · rw [dlt, decide_eq_true_iff] at h k ⊢; omega
        · rw [dlt] at h k ⊢; exact strLt_trn h k
        · rw [dlt] at h k ⊢; exact r1 _ _ _ hd he hf h k
        · rw [dlt] at h k ⊢; exact r2 _ _ _ hd he hf h k
  intro n
  induction n with
  | zero =>
    refine base _ ?_ ?_ ?_ ?_ ?_ ?_ ?_ ?_ ?_ <;> simp [plainN]
  | succ n ih =>
    have O := ords_of ih
    refine base _ (fun a b ha hb => O.tri a b ?_ ?_) (fun a b ha hb => O.tri a b ?_ ?_) (fun a ha => O.irr a ?_) (fun a ha => O.irr a ?_) (fun a b c ha hb hc => O.trn a b c ?_ ?_ ?_) (fun a b c ha hb hc => O.trn a b c ?_ ?_ ?_) ?_ ?_ ?_
    all_goals first | simpa [plainN] using ha | simpa [plainN] using hb | simpa [plainN] using hc | simp [plainN]
theorem plainN_plain {n : Nat} {d e : D} (h : plain d = true) (k : plain e = true) : eqD d e = .ok (decide (d = e)) := by
  have nb : ∀ {d : D}, plain d = true → ∀ b, d ≠ .bl b := fun {d} q b z => by subst z; simp [plain, plainN] at q
  unfold eqD
  split
  · exact absurd rfl (nb h _)
  · exact absurd rfl (nb h _)
  · exact absurd rfl (nb k _)
  · rw [h, k]; rfl
theorem plainN_succ : ∀ (n : Nat) (d : D), plainN n d = true → plainN (n + 1) d = true := by
  intro n
  induction n with
  | zero => intro d h; cases d <;> simp [plainN] at h ⊢
  | succ n ih =>
    intro d h
    cases d with
    | tup xs =>
      simp only [plainN, List.all_eq_true] at h ⊢
      exact fun x hx => ih x (h x hx)
    | lst xs =>
      simp only [plainN, List.all_eq_true] at h ⊢
      exact fun x hx => ih x (h x hx)
    | _ => simp [plainN] at h ⊢
theorem plainN_le {n m : Nat} (hnm : n ≤ m) {d : D} (h : plainN n d = true) : plainN m d = true := by
  induction hnm with
  | refl => exact h
  | step _ ih => exact plainN_succ _ _ ih
theorem ltF_dlt {d e : D} {b : Bool} (h : ltF d e = .ok b) : dlt d e = b := by
  cases d <;> cases e <;> simp only [ltF] at h <;> first | cases h; simp [dlt] | cases h
/-- what ltN tells is the order -/
theorem lt_dlt : ∀ (m n : Nat) (d e : D) (b : Bool), n ≤ 30 → plainN n d = true → plainN n e = true → ltN m d e = .ok b → dlt d e = b := by
  intro m
  induction m with
  | zero => intro n d e b _ _ _ h; exact ltF_dlt (by rw [ltN] at h; exact h)
  | succ m ih =>
    intro n d e b hn hd he h
    have go : ∀ (xs ys : List D) (k : Nat) (b : Bool), k ≤ 30 → (∀ x ∈ xs, plainN k x = true) → (∀ x ∈ ys, plainN k x = true) → ltGo m xs ys = .ok b → dlts xs ys = b := by
      intro xs
      induction xs with
      | nil =>
        intro ys k b _ _ _ q
        cases ys <;> rw [ltGo] at q <;> cases q <;> rw [dlts]
      | cons x xs ihx =>
        intro ys k b hk p1 p2 q
        cases ys with
        | nil => rw [ltGo] at q; cases q; rw [dlts]
        | cons y ys =>
          rw [ltGo, plainN_plain (n := k) (plainN_le hk (p1 x List.mem_cons_self)) (plainN_le hk (p2 y List.mem_cons_self)), R.bind_ok] at q
          rw [dlts]
          by_cases e : x = y
          · rw [decide_eq_true e, if_pos rfl] at q
            rw [if_pos e]
            exact ihx ys k b hk (fun z hz => p1 z (List.mem_cons_of_mem _ hz)) (fun z hz => p2 z (List.mem_cons_of_mem _ hz)) q
          · rw [decide_eq_false e, if_neg (by simp)] at q
            rw [if_neg e]
            exact ih k x y b hk (p1 x List.mem_cons_self) (p2 y List.mem_cons_self) q
    unfold ltN at h
    split at h
    · rename_i xs ys
      rw [dlt]
      cases n with
      | zero => simp [plainN] at hd
      | succ n => exact go xs ys n b (by omega) (by simpa [plainN] using hd) (by simpa [plainN] using he) h
    · rename_i xs ys
      rw [dlt]
      split at h
      · cases n with
        | zero => simp [plainN] at hd
        | succ n => exact go xs ys n b (by omega) (by simpa [plainN] using hd) (by simpa [plainN] using he) h
      · cases h
    · exact ltF_dlt h
end MP
/-! a < b at the heap; sorted as a rule of the layer. -/
namespace MP
open PySem PySem.Spec PyProof.Rows L2

/-! ### tuples: the first pair that differs decides -/
inductive LtP (A : Around) (s : Shared) : List Value → List Value → Bool → Prop
  | nn : LtP A s [] [] false
  | nc (y : Value) (ys : List Value) : LtP A s [] (y :: ys) true
  | cn (x : Value) (xs : List Value) : LtP A s (x :: xs) [] false
  | eq {x y : Value} {xs ys : List Value} {b : Bool} : SeqAt.EqAt A s x y true → LtP A s xs ys b → LtP A s (x :: xs) (y :: ys) b
  | lt {x y : Value} {xs ys : List Value} {b : Bool} : SeqAt.EqAt A s x y false → SeqAt.RcLt A s x y b → LtP A s (x :: xs) (y :: ys) b
section
open PySem.SeqAt
open PySem.AutoSeq1 (wpAny_loadPart')
open PySem.MeetsSeq PySem.MeetsSeq2 PySem.MeetsSeq3
theorem tup_lt_run (p q : Addr) (us vs : Array Value) (i j : Nat) (c c' : Option Addr) (m m' : Array (Option Value)) (k : Bool) :
    Meets (Builtin.«tuple.__lt__» ⟨[.ref p, .ref q], []⟩) (fun A R s =>
      s.heap.get? p = some { cls := .type "tuple", dict := c, data := .seq us i, slots := m } ∧
      s.heap.get? q = some { cls := .type "tuple", dict := c', data := .seq vs j, slots := m' } ∧
      LtP A.in1 s us.toList vs.toList k ∧ R (.ok (.ret (.bool k))) s) :=
  .of_wp fun prog w A R s h => by
    obtain ⟨hp, g, d, tk, os⟩ := s
    obtain ⟨ha, hb, hw, h⟩ := h
    have sub := AutoSeq1.sub_tuple_tuple
    wp_walk using wpAny_loadPart' ha, wpAny_loadPart' hb, wpAny_forIn_list _ (fun rest b s' => b.1 = none ∧ s' = ⟨hp, g, d, tk, os⟩ ∧
      ∃ xs ys, rest = List.zip xs ys ∧ LtP A.in1 ⟨hp, g, d, tk, os⟩ xs ys k ∧ (xs.length < ys.length ↔ us.size < vs.size)) _
    case turn =>
      rintro ⟨u, v⟩ rest b s' ⟨eb, rfl, xs, ys, hz, hl, hlen⟩
      cases xs with
      | nil => rw [List.zip_nil_left] at hz; cases hz
      | cons x xs =>
        cases ys with
        | nil => rw [List.zip_nil_right] at hz; cases hz
        | cons y ys =>
          rw [List.zip_cons_cons] at hz
          injection hz with h1 h2
          injection h1 with h3 h4
          subst h3; subst h4
          cases hl with
          | eq he hl =>
            refine wpAny_bind (he prog w _ _ ?_)
            wp_walk
            exact ⟨rfl, rfl, xs, ys, h2, hl, by rw [← hlen, List.length_cons, List.length_cons]; omega⟩
          | lt he hr =>
            refine wpAny_bind (he prog w _ _ ?_)
            have hq := hr prog w
            wp_walk using hq
            exact ⟨_, rfl, by simpa using h⟩
    case fin =>
      rintro ⟨b1, b2⟩ s' ⟨eb, rfl, xs, ys, hz, hl, hlen⟩
      simp only at eb
      subst eb
      have hk : decide (us.size < vs.size) = k := by
        have e : decide (us.size < vs.size) = decide (xs.length < ys.length) := by rw [Bool.eq_iff_iff, decide_eq_true_iff, decide_eq_true_iff]; exact hlen.symm
        rw [e]
        cases hl with
        | nn => rfl
        | nc => simp
        | cn => simp
        | eq => simp at hz
        | lt => simp at hz
      wp_walk
      exact ⟨_, rfl, by simpa [Builtin.Tuple.tupleCompareSizes, hk] using h⟩
    case h =>
      exact ⟨rfl, rfl, us.toList, vs.toList, rfl, hw, by simp⟩
theorem rcLt_tup {A : Around} {s : Shared} {p q : Addr} {us vs : Array Value} {k : Bool} (ha : s.heap.IsTuple p us) (hb : s.heap.IsTuple q vs) (hu : A.units < cLine) (hw : LtP A.in1 s us.toList vs.toList k) :
    RcLt A s (.ref p) (.ref q) k := fun prog w E Q h => by
  obtain ⟨⟨c1, c2, c3, c4⟩, e1, e2, n1, e3⟩ := id ha
  obtain ⟨⟨d1, d2, d3, d4⟩, f1, f2, n2, f3⟩ := id hb
  dsimp only at e2 e3 f2 f3
  subst e2; subst e3; subst f2; subst f3
  exact richCompare_meets_room (op := .Lt) ⟨_, e1, rfl⟩ ⟨_, f1, rfl⟩ F.slot_tuple_lt F.entry_tuple_lt (F.args_tuple_lt_2 _ _) (tup_lt_run p q us vs n1 n2 c2 d2 c4 d4 k) ⟨e1, f1, hw, (show Value.bool k ≠ Value.notImplemented ∧ Q (.bool k) s from ⟨(fun x => nomatch x), h⟩)⟩ hu
end

/-! ### by data -/
theorem firstLt_map (e r : Nat → Bool) (fin : Bool) (f : Nat → Nat) : ∀ l : List Nat, SeqAt.firstLt e r fin (l.map f) = SeqAt.firstLt (fun i => e (f i)) (fun i => r (f i)) fin l
  | [] => rfl
  | i :: l => by
    rw [List.map_cons, SeqAt.firstLt, SeqAt.firstLt, firstLt_map e r fin f l]
def ltJ (ds es : List D) (j : Nat) : Bool := match ds[j]?, es[j]? with
  | some x, some y => dlt x y
  | _, _ => false
theorem firstLt_dlts : ∀ ds es : List D, SeqAt.firstLt (fun j => decide (ds[j]? = es[j]?)) (ltJ ds es) (decide (ds.length < es.length)) (List.range (min ds.length es.length)) = dlts ds es
  | [], [] => by rw [dlts]; rfl
  | [], _ :: _ => by rw [dlts]; simp [SeqAt.firstLt]
  | _ :: _, [] => by rw [dlts]; simp [SeqAt.firstLt]
  | x :: xs, y :: ys => by
    have e1 : min (x :: xs).length (y :: ys).length = min xs.length ys.length + 1 := by simp [Nat.succ_min_succ]
    have e2 : decide ((x :: xs).length < (y :: ys).length) = decide (xs.length < ys.length) := by simp
    rw [e1, List.range_succ_eq_map, SeqAt.firstLt, firstLt_map, e2, dlts]
    have e3 : (fun i => decide ((x :: xs)[i + 1]? = (y :: ys)[i + 1]?)) = fun j => decide (xs[j]? = ys[j]?) := rfl
    have e4 : (fun i => ltJ (x :: xs) (y :: ys) (i + 1)) = ltJ xs ys := rfl
    by_cases e : x = y
    · rw [if_pos e, if_pos (by simp [e]), ← firstLt_dlts xs ys]
      rfl
    · rw [if_neg e, if_neg (by simp [e])]
      rfl

section
open PySem.SeqAt
theorem rcLt_lies (s : Shared) : ∀ (m n : Nat) (d e : D) (b : Bool) (A : Around) (u v : Value), n ≤ 30 → plainN n d = true → plainN n e = true → ltN m d e = .ok b → Lies s.heap u d → Lies s.heap v e →
    A.units + m + 40 < cLine → RcLt A s u v (dlt d e) := by
  intro m
  induction m with
  | zero =>
    intro n d e b A u v hn hd he h p q hu
    rw [ltN] at h
    cases d <;> cases e <;> simp only [ltF] at h <;> first | cases h
    · cases p; cases q
      intro prog w E Q hq
      refine P.lt_int ?_
      simpa [dlt] using hq
    · cases p; cases q
      intro prog w E Q hq
      refine P.lt_str ?_
      simpa [dlt, strLt] using hq
  | succ m ih =>
    intro n d e b A u v hn hd he h p q hu
    have hu' : A.units < cLine := by omega
    have hu1 : A.in1.units + m + 40 < cLine := by show A.units + 1 + m + 40 < cLine; omega
    have hu2 : A.in1.units + 30 < cLine := by show A.units + 1 + 30 < cLine; omega
    unfold ltN at h
    split at h
    · rename_i xs ys
      cases p with
      | @tup a its _ ha la =>
        cases q with
        | @tup b' jts _ hb lb =>
          cases n with
          | zero => simp [plainN] at hd
          | succ n =>
            refine rcLt_tup ha hb hu' ?_
            rw [dlt]
            have pd : ∀ x ∈ xs, plainN n x = true := by simpa [plainN] using hd
            have pe : ∀ x ∈ ys, plainN n x = true := by simpa [plainN] using he
            clear ha hb hd he
            show LtP A.in1 s its jts (dlts xs ys)
            induction xs generalizing ys its jts b with
            | nil =>
              cases la
              cases lb with
              | nil => rw [dlts]; exact .nn
              | cons => rw [dlts]; exact .nc _ _
            | cons x xs ihx =>
              cases la with
              | cons a1 a2 =>
                cases lb with
                | nil => rw [dlts]; exact .cn _ _
                | @cons _ _ y ys b1 b2 =>
                  have px := pd x List.mem_cons_self
                  have py := pe y List.mem_cons_self
                  rw [ltGo, plainN_plain (n := n) (plainN_le (by omega) px) (plainN_le (by omega) py), R.bind_ok] at h
                  rw [dlts]
                  have he' := (eq_lies s n x y A.in1 _ _ px py a1 b1 (by omega)).1
                  by_cases e : x = y
                  · rw [decide_eq_true e] at he'
                    rw [decide_eq_true e, if_pos rfl] at h
                    rw [if_pos e]
                    refine .eq he' ?_
                    apply ihx <;> first | assumption | exact fun z hz => pd z (List.mem_cons_of_mem _ hz) | exact fun z hz => pe z (List.mem_cons_of_mem _ hz)
                  · rw [decide_eq_false e] at he'
                    rw [decide_eq_false e, if_neg (by simp)] at h
                    rw [if_neg e]
                    exact .lt he' (ih n x y b A.in1 _ _ (by omega) px py h a1 b1 hu1)
    · rename_i xs ys
      split at h
      · rename_i hall
        cases p with
        | @lst a its _ ha la =>
          cases q with
          | @lst b' jts _ hb lb =>
            cases n with
            | zero => simp [plainN] at hd
            | succ n =>
              have pd : ∀ x ∈ xs, plainN n x = true := by simpa [plainN] using hd
              have pe : ∀ x ∈ ys, plainN n x = true := by simpa [plainN] using he
              have n1 := la.length
              have n2 := lb.length
              have ok : ∀ (j : Nat) (x y : D), xs[j]? = some x → ys[j]? = some y → ∃ c, ltN m x y = .ok c := by
                clear h ha hb la lb hd he pd pe n1 n2
                induction xs generalizing ys with
                | nil => intro j x y e; simp at e
                | cons z zs ihz =>
                  cases ys with
                  | nil => intro j x y _ e; simp at e
                  | cons t ts =>
                    rw [allOk, Bool.and_eq_true] at hall
                    intro j x y e1 e2
                    cases j with
                    | zero =>
                      simp at e1 e2
                      subst e1; subst e2
                      have h1 := hall.1
                      split at h1
                      · exact ⟨_, by assumption⟩
                      · cases h1
                    | succ j => exact ihz ts hall.2 j x y (by simpa using e1) (by simpa using e2)
              rw [dlt, ← firstLt_dlts xs ys, ← n1, ← n2]
              have sz1 : its.toArray.size = its.length := List.size_toArray
              have sz2 : jts.toArray.size = jts.length := List.size_toArray
              have r := RcLt.lists (e := fun j => decide (xs[j]? = ys[j]?)) (r := ltJ xs ys) ha hb hu' (fun j h1 h2 => ?_) (fun j h1 h2 hj => ?_)
              · rw [sz1, sz2] at r
                exact r
              · obtain ⟨x, ex, lx⟩ := la.get (i := j) (by omega)
                obtain ⟨y, ey, ly⟩ := lb.get (i := j) (by omega)
                have e1 : decide (xs[j]? = ys[j]?) = decide (x = y) := by rw [ex, ey, Bool.eq_iff_iff]; simp
                rw [e1]
                exact (eq_lies s n x y A.in1 _ _ (pd x (List.mem_of_getElem? ex)) (pe y (List.mem_of_getElem? ey)) lx ly (by omega)).1
              · obtain ⟨x, ex, lx⟩ := la.get (i := j) (by omega)
                obtain ⟨y, ey, ly⟩ := lb.get (i := j) (by omega)
                obtain ⟨c, hc⟩ := ok j x y ex ey
                have e1 : ltJ xs ys j = dlt x y := by unfold ltJ; rw [ex, ey]
                rw [e1]
                exact ih n x y c A.in1 _ _ (by omega) (pd x (List.mem_of_getElem? ex)) (pe y (List.mem_of_getElem? ey)) hc lx ly hu1
      · cases h
    · cases d <;> cases e <;> simp only [ltF] at h <;> first | cases h
      · cases p; cases q
        intro prog w E Q hq
        refine P.lt_int ?_
        simpa [dlt] using hq
      · cases p; cases q
        intro prog w E Q hq
        refine P.lt_str ?_
        simpa [dlt, strLt] using hq
end
end MP
/-! sorted of plain data, as a rule of the layer. -/
namespace MP
open PySem PySem.Spec PyProof.Rows L2

mutual
theorem Lies.keep {h h' : Heap} (k : ∀ b o, h.get? b = some o → h'.get? b = some o) : ∀ {u : Value} {d : D}, Lies h u d → Lies h' u d
  | _, _, .non => .non
  | _, _, .int i t => .int i t
  | _, _, .str i t => .str i t
  | _, _, .tup p q => .tup (let ⟨o, e, r⟩ := p; ⟨o, k _ _ e, r⟩) (LiesL.keep k q)
  | _, _, .lst p q => .lst (let ⟨o, e, r⟩ := p; ⟨o, k _ _ e, r⟩) (LiesL.keep k q)
theorem LiesL.keep {h h' : Heap} (k : ∀ b o, h.get? b = some o → h'.get? b = some o) : ∀ {u : List Value} {d : List D}, LiesL h u d → LiesL h' u d
  | _, _, .nil => .nil
  | _, _, .cons a b => .cons (Lies.keep k a) (LiesL.keep k b)
end
def typeT : Nat → Value
  | 1 => .type "int"
  | 2 => .type "str"
  | 3 => .type "tuple"
  | _ => .type "list"
theorem looks_kind {M : Model} {h : Heap} {u : Value} {d : D} (p : Lies h u d) (hk : kindD d ≠ 0) : PySem.W.Looks M h (typeOf u) (typeT (kindD d)) := by
  cases p with
  | non => exact absurd rfl hk
  | int => exact PySem.W.Looks.now
  | str => exact PySem.W.Looks.now
  | tup ha _ =>
    obtain ⟨o, e, c, _⟩ := ha
    have r : PySem.W.Looks M h (typeOf (.ref _)) o.cls := (PySem.W.Looks.ld e).andThen .now
    rw [c] at r
    exact r
  | lst ha _ =>
    obtain ⟨o, e, c, _⟩ := ha
    have r : PySem.W.Looks M h (typeOf (.ref _)) o.cls := (PySem.W.Looks.ld e).andThen .now
    rw [c] at r
    exact r
theorem typeT_self (k : Nat) : (typeT k == typeT k) = true := by
  unfold typeT; split <;> decide

section
variable {prog : Program} {w : World} {A : Around} {s : Shared}
theorem one_rc {x y : Value} {k : Bool} {E : Value → Shared → Prop} {Q : Bool → Shared → Prop} (h : SeqAt.RcLt A s x y k) (q : Q k s) : wpAny (model prog w) A (oneLt' false x y) Q E s := by
  rw [oneLt'_eq]
  simp only [Bool.false_eq_true, if_false]
  exact wpAny_bind (h prog w _ _ (wpAny_truthy_bool q))
theorem kat_ltp {f fin : Bool} {Q : Bool → Shared → Prop} : ∀ {xs ys : List Value} {k : Bool} (i : Nat), LtP A s xs ys k → (fin = true ↔ xs.length < ys.length) → (f && i == 0) = false → Q k s → PySem.W.KatLex prog w A f fin Q (xs.zip ys) i s
  | _, _, _, _, .nn, hf, _, q => by
    have e : fin = false := by cases fin with
      | false => rfl
      | true => exact absurd (hf.mp rfl) (by simp)
    subst e; exact PySem.W.kat_nil q
  | _, _, _, _, .nc y ys, hf, _, q => by
    have e : fin = true := hf.mpr (by simp)
    subst e; exact PySem.W.kat_nil q
  | _, _, _, _, .cn x xs, hf, _, q => by
    have e : fin = false := by cases fin with
      | false => rfl
      | true => exact absurd (hf.mp rfl) (by simp)
    subst e; exact PySem.W.kat_nil q
  | _, _, _, i, .eq he hl, hf, hi, q => by
    rw [List.zip_cons_cons]
    exact PySem.W.kat_cons (he prog w _ _ (PySem.W.kat_yes (kat_ltp (i + 1) hl (by rw [hf, List.length_cons, List.length_cons]; omega) (by cases f <;> rfl) q)))
  | _, _, _, i, .lt he hr, hf, hi, q => by
    rw [List.zip_cons_cons]
    refine PySem.W.kat_cons (he prog w _ _ (PySem.W.kat_no ?_))
    rw [hi]
    exact one_rc hr q
/-- two tuples, from their items' data -/
theorem ltp_of : ∀ (m n : Nat) (xs ys : List D) (us vs : List Value) (b : Bool), n ≤ 30 → (∀ x ∈ xs, plainN n x = true) → (∀ x ∈ ys, plainN n x = true) → ltGo m xs ys = .ok b → LiesL s.heap us xs → LiesL s.heap vs ys → A.units + m + 40 < cLine →
    LtP A s us vs (dlts xs ys)
  | _, _, [], [], _, _, _, _, _, _, _, .nil, .nil, _ => by rw [dlts]; exact .nn
  | _, _, [], _ :: _, _, _, _, _, _, _, _, .nil, .cons _ _, _ => by rw [dlts]; exact .nc _ _
  | _, _, _ :: _, [], _, _, _, _, _, _, _, .cons _ _, .nil, _ => by rw [dlts]; exact .cn _ _
  | m, n, x :: xs, y :: ys, _, _, b, hn, pd, pe, h, .cons a1 a2, .cons b1 b2, hu => by
    have px := pd x List.mem_cons_self
    have py := pe y List.mem_cons_self
    rw [ltGo, plainN_plain (n := n) (plainN_le hn px) (plainN_le hn py), R.bind_ok] at h
    rw [dlts]
    have he' := (eq_lies s n x y A _ _ px py a1 b1 (by omega)).1
    by_cases e : x = y
    · rw [decide_eq_true e] at he'
      rw [decide_eq_true e, if_pos rfl] at h
      rw [if_pos e]
      exact .eq he' (ltp_of m n xs ys _ _ b hn (fun z hz => pd z (List.mem_cons_of_mem _ hz)) (fun z hz => pe z (List.mem_cons_of_mem _ hz)) h a2 b2 hu)
    · rw [decide_eq_false e] at he'
      rw [decide_eq_false e, if_neg (by simp)] at h
      rw [if_neg e]
      exact .lt he' (rcLt_lies s m n x y b A _ _ hn px py h a1 b1 hu)
theorem isok {r : R Bool} (h : (match r with | .ok _ => true | _ => false) = true) : ∃ b, r = .ok b := by
  cases r with
  | ok b => exact ⟨b, rfl⟩
  | err _ => cases h
  | bad => cases h
/-- one type, no tuple: the items themselves compared -/
theorem one_true {d e : D} {u v : Value} {Q : Bool → Shared → Prop} {E : Value → Shared → Prop} (p : Lies s.heap u d) (q : Lies s.heap v e) (pd : plain d = true) (pe : plain e = true) (hk : kindD d = kindD e) (h0 : kindD d ≠ 0) (h3 : kindD d ≠ 3) (hc : cmpOk d e = true) (hu : A.units + 100 < cLine)
    (h : Q (dlt d e) s) : wpAny (model prog w) A (oneLt' true u v) Q E s := by
  cases p with
  | non => exact absurd rfl h0
  | int i t =>
    cases q <;> simp only [kindD] at hk <;> try omega
    rw [dlt] at h
    exact oneLt_int h
  | str i t =>
    cases q <;> simp only [kindD] at hk <;> try omega
    rw [dlt] at h
    exact oneLt_str h
  | tup => exact absurd rfl h3
  | @lst a its xs ha la =>
    cases q with
    | @lst b jts ys hb lb =>
      obtain ⟨c, hc⟩ := isok hc
      unfold ltD at hc
      have hc' := hc
      unfold ltN at hc
      simp only at hc
      split at hc
      · rename_i hall
        have pd' : ∀ x ∈ xs, plainN 29 x = true := by simpa [plain, plainN] using pd
        have pe' : ∀ x ∈ ys, plainN 29 x = true := by simpa [plain, plainN] using pe
        have n1 := la.length
        have n2 := lb.length
        have ok : ∀ (xs ys : List D), allOk 29 xs ys = true → ∀ (j : Nat) (x y : D), xs[j]? = some x → ys[j]? = some y → ∃ c, ltN 29 x y = .ok c := by
          intro xs
          induction xs with
          | nil => intro ys _ j x y e; simp at e
          | cons z zs ihz =>
            intro ys hall
            cases ys with
            | nil => intro j x y _ e; simp at e
            | cons t ts =>
              rw [allOk, Bool.and_eq_true] at hall
              intro j x y e1 e2
              cases j with
              | zero =>
                simp at e1 e2
                subst e1; subst e2
                exact isok hall.1
              | succ j => exact ihz ts hall.2 j x y (by simpa using e1) (by simpa using e2)
        rw [dlt, ← firstLt_dlts xs ys, ← n1, ← n2] at h
        have sz1 : its.toArray.size = its.length := List.size_toArray
        have sz2 : jts.toArray.size = jts.length := List.size_toArray
        have tl : s.TypeIs (.ref a) "list" := by obtain ⟨o, e, c, _⟩ := ha; exact ⟨o, e, c⟩
        rw [oneLt'_eq]
        simp only [if_true]
        refine wpAny_bind (wpAny_cRoomFor (by omega) ?_)
        refine wpAny_bind (wpAny_callSpecialIfBound?_slot (T := "list") tl PySem.F.slot_list_lt (SeqAt.call_list_lt (e := fun j => decide (xs[j]? = ys[j]?)) (r := ltJ xs ys) ha hb (fun j h1 h2 => ?_) (fun j h1 h2 hj => ?_) ?_))
        · obtain ⟨x, ex, lx⟩ := la.get (i := j) (by omega)
          obtain ⟨y, ey, ly⟩ := lb.get (i := j) (by omega)
          have e1 : decide (xs[j]? = ys[j]?) = decide (x = y) := by rw [ex, ey, Bool.eq_iff_iff]; simp
          rw [e1]
          exact (eq_lies s 29 x y A.in1 _ _ (pd' x (List.mem_of_getElem? ex)) (pe' y (List.mem_of_getElem? ey)) lx ly (by show A.units + 1 + 29 < cLine; omega)).1
        · obtain ⟨x, ex, lx⟩ := la.get (i := j) (by omega)
          obtain ⟨y, ey, ly⟩ := lb.get (i := j) (by omega)
          obtain ⟨c, hc⟩ := ok xs ys hall j x y ex ey
          have e1 : ltJ xs ys j = dlt x y := by unfold ltJ; rw [ex, ey]
          rw [e1]
          exact rcLt_lies s 29 29 x y c A.in1 _ _ (by omega) (pd' x (List.mem_of_getElem? ex)) (pe' y (List.mem_of_getElem? ey)) hc lx ly (by show A.units + 1 + 29 + 40 < cLine; omega)
        · rw [sz1, sz2]
          exact wpAny_truthy_bool h
      · cases hc
    | _ => simp only [kindD] at hk; omega
/-- two tuples whose first items are of one type -/
theorem tup_true {xs ys : List D} {u v : Value} {Q : Bool → Shared → Prop} {E : Value → Shared → Prop} (p : Lies s.heap u (.tup xs)) (q : Lies s.heap v (.tup ys)) (pd : plain (.tup xs) = true) (pe : plain (.tup ys) = true) (hk : kind1 (.tup xs) = kind1 (.tup ys)) (h0 : kind1 (.tup xs) ≠ 0) (h4 : kind1 (.tup xs) ≠ 4)
    (hc : cmpOk (.tup xs) (.tup ys) = true) (hu : A.units + 100 < cLine) (h : Q (dlt (.tup xs) (.tup ys)) s) : wpAny (model prog w) A (keyLt' (tuples' (typeT (kind1 (.tup xs)) != .type "tuple")) u v) Q E s := by
  obtain ⟨c, hc⟩ := isok hc
  unfold ltD at hc
  unfold ltN at hc
  simp only at hc
  have pd' : ∀ x ∈ xs, plainN 29 x = true := by simpa [plain, plainN] using pd
  have pe' : ∀ x ∈ ys, plainN 29 x = true := by simpa [plain, plainN] using pe
  rw [dlt] at h
  cases p with
  | @tup a its _ ha la =>
    cases q with
    | @tup b jts _ hb lb =>
      obtain ⟨o, e, cl, n, dt⟩ := id ha
      obtain ⟨o', e', cl', n', dt'⟩ := id hb
      refine PySem.W.kat_lt e dt e' dt' ?_
      have fin : ∀ {a b : List Value}, (decide (a.toArray.size < b.toArray.size) = true ↔ a.length < b.length) := by intro a b; simp
      have base : PySem.W.KatLex prog w A false (decide (its.toArray.size < jts.toArray.size)) Q (its.zip jts) 0 s :=
        kat_ltp 0 (ltp_of 29 29 xs ys its jts c (by omega) pd' pe' hc la lb (by omega)) fin rfl h
      by_cases hT : (typeT (kind1 (.tup xs)) != .type "tuple") = true
      · cases la with
        | nil => exact absurd rfl h0
        | @cons u us x xs a1 a2 =>
          cases lb with
          | nil => rw [hk] at h0; exact absurd rfl h0
          | @cons v vs y ys b1 b2 =>
            have px := pd' x List.mem_cons_self
            have py := pe' y List.mem_cons_self
            have hkx : kindD x = kindD y := hk
            have h3 : kindD x ≠ 3 := fun z => by
              have e0 : kind1 (.tup (x :: xs)) = 3 := z
              rw [e0] at hT
              exact absurd hT (by decide)
            rw [ltGo, plainN_plain (n := 29) (plainN_le (by omega) px) (plainN_le (by omega) py), R.bind_ok] at hc
            rw [hT]
            show PySem.W.KatLex prog w A true _ Q ((u, v) :: us.zip vs) 0 s
            have he' := (eq_lies s 29 x y A _ _ px py a1 b1 (by omega)).1
            rw [dlts] at h
            by_cases ee : x = y
            · rw [decide_eq_true ee] at he'
              rw [decide_eq_true ee, if_pos rfl] at hc
              rw [if_pos ee] at h
              exact PySem.W.kat_cons (he' prog w _ _ (PySem.W.kat_yes (kat_ltp 1 (ltp_of 29 29 xs ys us vs c (by omega) (fun z hz => pd' z (List.mem_cons_of_mem _ hz)) (fun z hz => pe' z (List.mem_cons_of_mem _ hz)) hc a2 b2 (by omega)) (by simp) rfl h)))
            · rw [decide_eq_false ee] at he'
              rw [decide_eq_false ee, if_neg (by simp)] at hc
              rw [if_neg ee] at h
              refine PySem.W.kat_cons (he' prog w _ _ (PySem.W.kat_no ?_))
              have hcm : cmpOk x y = true := by
                have up : ∀ (m : Nat) (a b : D) (c : Bool), ltN m a b = .ok c → ltN (m + 1) a b = .ok c := by
                  intro m
                  induction m with
                  | zero =>
                    intro a b c q
                    rw [ltN] at q
                    cases a <;> cases b <;> simp only [ltF] at q <;> first | (cases q; done) | (simp only [ltN, ltF]; exact q)
                  | succ m ih =>
                    have go : ∀ (a b : List D) (c : Bool), ltGo m a b = .ok c → ltGo (m + 1) a b = .ok c := by
                      intro a
                      induction a with
                      | nil => intro b c q; cases b <;> simp only [ltGo] at q ⊢ <;> exact q
                      | cons z zs ihz =>
                        intro b c q
                        cases b with
                        | nil => simp only [ltGo] at q ⊢; exact q
                        | cons t ts =>
                          rw [ltGo] at q ⊢
                          obtain ⟨k, e1, e2⟩ := R.bind_eq_ok.mp q
                          rw [e1, R.bind_ok]
                          cases k with
                          | true => exact ihz ts c e2
                          | false => exact ih z t c e2
                    have all : ∀ (a b : List D), allOk m a b = true → allOk (m + 1) a b = true := by
                      intro a
                      induction a with
                      | nil => intro b _; simp [allOk]
                      | cons z zs ihz =>
                        intro b q
                        cases b with
                        | nil => simp [allOk]
                        | cons t ts =>
                          rw [allOk, Bool.and_eq_true] at q ⊢
                          obtain ⟨k, e1⟩ := isok q.1
                          exact ⟨by rw [ih z t k e1], ihz ts q.2⟩
                    intro a b c q
                    unfold ltN at q ⊢
                    split at q
                    · exact go _ _ _ q
                    · split at q
                      · rename_i ha
                        simp only [all _ _ ha, if_true]
                        exact go _ _ _ q
                      · cases q
                    · cases a <;> cases b <;> simp only [ltF] at q ⊢ <;> first | exact q | cases q
                unfold cmpOk ltD
                rw [up 29 x y c hc]
              exact one_true a1 b1 (plainN_le (by omega) px) (plainN_le (by omega) py) hkx (fun z => h0 z) h3 hcm (by omega) h
      · rw [Bool.not_eq_true] at hT
        rw [hT]
        exact base
end

/-! ### sorted -/
theorem perm_lift {α β : Type} (f : α → β) : ∀ {m k : List β}, m.Perm k → ∀ {l : List α}, l.map f = m → ∃ l', l.Perm l' ∧ l'.map f = k := by
  intro m k h
  induction h with
  | nil => intro l e; exact ⟨l, .refl _, e⟩
  | cons x _ ih =>
    intro l e
    obtain ⟨a, r, rfl, ea, er⟩ := List.map_eq_cons_iff.mp e
    obtain ⟨l', p, q⟩ := ih er
    exact ⟨a :: l', p.cons a, by rw [List.map_cons, ea, q]⟩
  | swap x y l0 =>
    intro l e
    obtain ⟨a, r, rfl, ea, er⟩ := List.map_eq_cons_iff.mp e
    obtain ⟨b, r, rfl, eb, er⟩ := List.map_eq_cons_iff.mp er
    exact ⟨b :: a :: r, .swap _ _ _, by rw [List.map_cons, List.map_cons, ea, eb, er]⟩
  | trans _ _ ih1 ih2 =>
    intro l e
    obtain ⟨l1, p1, q1⟩ := ih1 e
    obtain ⟨l2, p2, q2⟩ := ih2 q1
    exact ⟨l2, p1.trans p2, q2⟩
/-- one sorted list of plain data -/
theorem srtd_uniq {p : D → Prop} (O : OrdOn p) : ∀ {l m : List D}, (∀ x ∈ l, p x) → l.Perm m → l.Pairwise (fun x y => dlt y x = false) → m.Pairwise (fun x y => dlt y x = false) → l = m := by
  intro l
  induction l with
  | nil => intro m _ h _ _; exact (List.nil_perm.mp h).symm
  | cons x xs ih =>
    intro m hp h s1 s2
    cases m with
    | nil => exact absurd h.symm (by simp)
    | cons y ys =>
      have ex : x = y := by
        by_cases e : x = y
        · exact e
        · have hx : x ∈ ys := by
            have : x ∈ y :: ys := h.mem_iff.mp List.mem_cons_self
            rcases List.mem_cons.mp this with q | q
            · exact absurd q e
            · exact q
          have hy : y ∈ xs := by
            have : y ∈ x :: xs := h.mem_iff.mpr List.mem_cons_self
            rcases List.mem_cons.mp this with q | q
            · exact absurd q.symm e
            · exact q
          have h1 := (List.pairwise_cons.mp s1).1 y hy
          have h2 := (List.pairwise_cons.mp s2).1 x hx
          rcases O.tri x y (hp x List.mem_cons_self) (hp y (List.mem_cons_of_mem _ hy)) e with q | q
          · rw [h2] at q; cases q
          · rw [h1] at q; cases q
      subst ex
      rw [ih (fun z hz => hp z (List.mem_cons_of_mem _ hz)) (List.Perm.cons_inv h) (List.pairwise_cons.mp s1).2 (List.pairwise_cons.mp s2).2]
theorem le_total {p : D → Prop} (O : OrdOn p) {x y : D} (hx : p x) (hy : p y) : dlt y x = false ∨ dlt x y = false := by
  by_cases e : x = y
  · subst e; exact .inl (O.irr x hx)
  · cases h : dlt y x with
    | false => exact .inl rfl
    | true =>
      cases k : dlt x y with
      | false => exact .inr rfl
      | true =>
        have := O.trn x y x hx hy hx k h
        rw [O.irr x hx] at this; cases this
theorem le_trans' {p : D → Prop} (O : OrdOn p) {x y z : D} (hx : p x) (hy : p y) (hz : p z) (h1 : dlt y x = false) (h2 : dlt z y = false) : dlt z x = false := by
  cases h : dlt z x with
  | false => rfl
  | true =>
    by_cases e : x = y
    · subst e; rw [h2] at h; cases h
    · rcases O.tri x y hx hy e with q | q
      · have := O.trn z x y hz hx hy h q
        rw [h2] at this; cases this
      · rw [h1] at q; cases q
theorem sortL_perm (ds : List D) : (sortL ds).Perm ds := List.mergeSort_perm _ _
theorem sortL_srtd {p : D → Prop} (O : OrdOn p) {ds : List D} (hp : ∀ x ∈ ds, p x) : (sortL ds).Pairwise fun x y => dlt y x = false := by
  classical
  -- the order, made total by a default
  cases hd : ds with
  | nil => simp [sortL]
  | cons d0 r =>
    rw [← hd]
    have p0 : p d0 := hp d0 (by rw [hd]; exact List.mem_cons_self)
    let g : D → D := fun x => if p x then x else d0
    have pg : ∀ x, p (g x) := fun x => by
      show p (if p x then x else d0)
      by_cases q : p x
      · rw [if_pos q]; exact q
      · rw [if_neg q]; exact p0
    have eg : ∀ x, p x → g x = x := fun x q => if_pos q
    have e1 : sortL ds = ds.mergeSort fun x y => !dlt (g y) (g x) := by
      unfold sortL
      have key : ∀ (l : List D), (∀ x ∈ l, p x) → (l.mergeSort fun x y => !dlt y x) = l.mergeSort fun x y => !dlt (g y) (g x) := by
        intro l hl
        have m := List.map_mergeSort (r := fun x y => !dlt (g y) (g x)) (s := fun x y => !dlt y x) (f := g) (l := l) (fun a _ b _ => rfl)
        have q : l.map g = l := by
          conv => rhs; rw [← List.map_id l]
          exact List.map_congr_left fun x hx => eg x (hl x hx)
        rw [q] at m
        rw [← m]
        have hl2 : ∀ x ∈ (l.mergeSort fun x y => !dlt (g y) (g x)), p x := fun x hx => hl x ((List.mergeSort_perm _ _).mem_iff.mp hx)
        conv => rhs; rw [← List.map_id (l.mergeSort _)]
        exact List.map_congr_left fun x hx => eg x (hl2 x hx)
      exact key ds hp
    rw [e1]
    have tr : ∀ a b c : D, (!dlt (g b) (g a)) = true → (!dlt (g c) (g b)) = true → (!dlt (g c) (g a)) = true := fun a b c h1 h2 => by
      rw [Bool.not_eq_true'] at h1 h2 ⊢
      exact le_trans' O (pg a) (pg b) (pg c) h1 h2
    have tot : ∀ a b : D, ((!dlt (g b) (g a)) || (!dlt (g a) (g b))) = true := fun a b => by
      rw [Bool.or_eq_true, Bool.not_eq_true', Bool.not_eq_true']
      exact le_total O (pg a) (pg b)
    refine (List.pairwise_mergeSort tr tot ds).imp_of_mem fun {a b} ha hb h => ?_
    rw [Bool.not_eq_true'] at h
    rw [eg a (hp a ((List.mergeSort_perm _ _).mem_iff.mp ha)), eg b (hp b ((List.mergeSort_perm _ _).mem_iff.mp hb))] at h
    exact h

def rSorted (P : Program) (w : World) (K : PySem.W.Frag) : List V → Hp → VK → Prop := fun vs H Q => ∃ a xs ds, vs = [V.ref a] ∧ SqL K H a xs ∧ Reps P w K H xs ds ∧ sortOk ds = true ∧
  ∀ ys p, ys.Perm xs → (∀ G, Reps P w K G xs ds → Reps P w K G ys (sortL ds)) → H p = none → Q (.ref p) (upd H p (.lst ys))
theorem zip3 {α β γ : Type} : ∀ {a : List α} {b : List β} {c : List γ}, a.length = b.length → b.length = c.length → ((a.zip (b.zip c)).map (·.1) = a) ∧ ((a.zip (b.zip c)).map (·.2.1) = b) ∧ ((a.zip (b.zip c)).map (·.2.2) = c)
  | [], [], [], _, _ => ⟨rfl, rfl, rfl⟩
  | x :: a, y :: b, z :: c, h1, h2 => by
    obtain ⟨e1, e2, e3⟩ := zip3 (a := a) (b := b) (c := c) (by simpa using h1) (by simpa using h2)
    exact ⟨by simp [e1], by simp [e2], by simp [e3]⟩
  | [], _ :: _, _, h, _ => by simp at h
  | _ :: _, [], _, h, _ => by simp at h
  | _, [], _ :: _, _, h => by simp at h
  | _, _ :: _, [], _, h => by simp at h
section
variable {P : Program} {w : World} {K : PySem.W.Frag}
theorem reps_zip {G : Hp} : ∀ {xs : List V} {ds : List D} {us : List Value}, Reps P w K G xs ds → us.length = xs.length → ∀ t ∈ us.zip (xs.zip ds), Rep P w K G t.2.1 t.2.2
  | _, _, [], _, _, t, h => by simp at h
  | _, _, _ :: _, .nil, h, _, _ => by simp at h
  | _, _, u :: us, .cons a b, h, t, m => by
    rw [List.zip_cons_cons, List.zip_cons_cons] at m
    rcases List.mem_cons.mp m with rfl | m
    · exact a
    · exact reps_zip b (by simpa using h) t m
theorem reps_of {G : Hp} : ∀ {l : List (Value × V × D)}, (∀ t ∈ l, Rep P w K G t.2.1 t.2.2) → Reps P w K G (l.map (·.2.1)) (l.map (·.2.2))
  | [], _ => .nil
  | t :: l, h => .cons (h t List.mem_cons_self) (reps_of fun x hx => h x (List.mem_cons_of_mem _ hx))
theorem vals_zip {ds : List D} : ∀ {xs : List V} {us : List Value} {ds : List D}, Vals xs us → xs.length = ds.length → ∀ t ∈ us.zip (xs.zip ds), RelV t.2.1 t.1
  | _, _, _, .nil, _, t, h => by simp at h
  | _, _, [], .cons _ _, h, _, _ => by simp at h
  | _, _, _ :: _, .cons a b, h, t, m => by
    rw [List.zip_cons_cons, List.zip_cons_cons] at m
    rcases List.mem_cons.mp m with rfl | m
    · exact a
    · exact vals_zip (ds := ds) b (by simpa using h) t m
theorem vals_of : ∀ {l : List (Value × V × D)}, (∀ t ∈ l, RelV t.2.1 t.1) → Vals (l.map (·.2.1)) (l.map (·.1))
  | [], _ => .nil
  | t :: l, h => .cons (h t List.mem_cons_self) (vals_of fun x hx => h x (List.mem_cons_of_mem _ hx))
theorem lies_zip {h : Heap} {xs : List V} : ∀ {us : List Value} {ds : List D} {xs : List V}, LiesL h us ds → xs.length = ds.length → ∀ t ∈ us.zip (xs.zip ds), Lies h t.1 t.2.2
  | _, _, _, .nil, _, t, m => by simp at m
  | _, _, [], .cons _ _, q, _, _ => by simp at q
  | _, _, x :: xs, .cons a b, q, t, m => by
    rw [List.zip_cons_cons, List.zip_cons_cons] at m
    rcases List.mem_cons.mp m with rfl | m
    · exact a
    · exact lies_zip (xs := xs) b (by simpa using q) t m
theorem firsts_made {M : Model} {h : Heap} {k : Nat} : ∀ {its : List Value}, (∀ u ∈ its, ∃ d, Lies h u d ∧ kindD d = 3 ∧ kind1 d = k) → k ≠ 0 → ∃ fs : List Value, PySem.W.KatTups h its fs ∧ fs.length = its.length ∧ ∀ f ∈ fs, PySem.W.Looks M h (typeOf f) (typeT k)
  | [], _, _ => ⟨[], PySem.W.KatTups.nil, rfl, fun _ m => by simp at m⟩
  | u :: its, hp, hk => by
    obtain ⟨fs, h1, h2, h3⟩ := firsts_made (M := M) (its := its) (fun v m => hp v (List.mem_cons_of_mem _ m)) hk
    obtain ⟨d, ld, k3, k1⟩ := hp u List.mem_cons_self
    cases ld with
    | @tup a us ds ha la =>
      obtain ⟨o, e, c, n, dt⟩ := ha
      cases la with
      | nil => exact absurd k1.symm hk
      | @cons f fr x xs a1 a2 =>
        refine ⟨f :: fs, PySem.W.KatTups.cons e c dt rfl h1, by simp [h2], fun g m => ?_⟩
        rcases List.mem_cons.mp m with rfl | m
        · have e1 : kindD x = k := k1
          rw [← e1]
          exact looks_kind a1 (by rw [e1]; exact hk)
        · exact h3 g m
    | _ => simp [kindD] at k3
end
theorem sortOk_two {ds : List D} (h : sortOk ds = true) (h2 : ¬ ds.length < 2) : ∃ k k1, k ≠ 0 ∧ k1 ≠ 0 ∧ k1 ≠ 4 ∧ (∀ d ∈ ds, kindD d = k ∧ kind1 d = k1 ∧ plain d = true) ∧ ∀ d ∈ ds, ∀ e ∈ ds, cmpOk d e = true := by
  unfold sortOk at h
  rw [decide_eq_false h2, Bool.false_or, List.all_eq_true] at h
  cases ds with
  | nil => simp at h2
  | cons d0 r =>
    have h0 := h d0 List.mem_cons_self
    simp only [Bool.and_eq_true, bne_iff_ne, ne_eq, List.all_eq_true, beq_iff_eq] at h0
    obtain ⟨⟨⟨⟨a1, a2⟩, a3⟩, a4⟩, a5⟩ := h0
    refine ⟨kindD d0, kind1 d0, a1, a2, a3, fun d hd => ?_, fun d hd e he => ?_⟩
    · have hd' := h d hd
      simp only [Bool.and_eq_true, bne_iff_ne, ne_eq, List.all_eq_true, beq_iff_eq] at hd'
      exact ⟨((a5 d hd).1.1).symm, ((a5 d hd).1.2).symm, hd'.1.2⟩
    · have hd' := h d hd
      simp only [Bool.and_eq_true, bne_iff_ne, ne_eq, List.all_eq_true, beq_iff_eq] at hd'
      exact (hd'.2 e he).2
section
variable {X : Cx} {P : Program} {w : World}
theorem call_sortedM (hu : X.A.units + 110 < cLine) : CallR X (.builtin "sorted") (rSorted P w X.K) := by
  classical
  intro pins s σ H vs us Q I r h
  obtain ⟨a, xs, ds, rfl, hs, hr, hok, q⟩ := h
  obtain ⟨its, rv, hl, hz⟩ := I.list hs
  obtain ⟨u, rfl, ru⟩ := vals1 r
  obtain rfl : u = Value.ref a := ru
  have n1 : its.length = xs.length := rv.length.symm
  have n2 : xs.length = ds.length := hr.length
  have hz' : its.length ≤ sizeLine := by rw [n1]; exact hz
  obtain ⟨e1, e2, e3⟩ := zip3 n1 n2
  -- what any stable arrangement leads to
  have fin : ∀ (out : List Value) (l' : List (Value × V × D)), (its.zip (xs.zip ds)).Perm l' → l'.map (·.1) = out → l'.map (·.2.2) = sortL ds → EP X pins σ Q (.ref (s.heap.objs.size + 1)) { s with heap := PyProof.Rows.sortedAll s.heap its out.toArray } := by
    intro out l' hp ho hd
    have hv : Vals (l'.map (·.2.1)) out := by
      rw [← ho]
      exact vals_of fun t m => vals_zip (ds := ds) rv n2 t (hp.mem_iff.mpr m)
    have hy : ∀ G, Reps P w X.K G xs ds → Reps P w X.K G (l'.map (·.2.1)) (sortL ds) := fun G hG => by
      rw [← hd]
      exact reps_of fun t m => reps_zip hG n1 t (hp.mem_iff.mpr m)
    have hpm : (l'.map (·.2.1)).Perm xs := by
      have := hp.symm.map (fun t : Value × V × D => t.2.1)
      rw [e2] at this
      exact this
    have hlen : (l'.map (·.2.1)).length ≤ sizeLine := by
      rw [List.length_map, ← hp.length_eq]
      have := congrArg List.length e1
      rw [List.length_map] at this
      omega
    obtain ⟨n, hn⟩ := PyProof.Rows.sortedAll_at s.heap its out.toArray
    have hle : s.heap.objs.size ≤ s.heap.objs.size + 1 := Nat.le_succ _
    exact ⟨.ref (s.heap.objs.size + 1), upd H (s.heap.objs.size + 1) (.lst (l'.map (·.2.1))), I.laid (t' := s.toks) (fun b o e => PyProof.Rows.sortedAll_old e) hle ⟨hlen, out, n, hv, hn⟩, rfl, q _ _ hpm hy (I.hok.fresh hle)⟩
  by_cases h2 : ds.length < 2
  · refine SrtO.sorted_ord (ltv := fun _ _ => false) ⟨(fun _ _ z => nomatch z), (fun _ _ _ _ _ => rfl)⟩ hl.isList hz' (fun hh => absurd hh (by omega)) fun out hso hb => ?_
    obtain ⟨l', hp, ho⟩ := perm_lift (fun t : Value × V × D => t.1) hb.perm.symm e1
    refine fin out l' hp ho ?_
    have hd : (l'.map (·.2.2)).Perm ds := by
      have := hp.symm.map (fun t : Value × V × D => t.2.2)
      rw [e3] at this
      exact this
    match ds, h2, hd with
    | [], _, hd =>
      rw [List.perm_nil.mp hd]
      simp [sortL]
    | [d], _, hd =>
      rw [List.perm_singleton.mp hd]
      simp [sortL]
    | _ :: _ :: _, h2, _ => simp at h2; omega
  · obtain ⟨k, k1, hk, hk1, hk4, hall, hcmp⟩ := sortOk_two hok h2
    have hpl : ∀ d ∈ ds, plainN 30 d = true := fun d hd => (hall d hd).2.2
    have hli : LiesL s.heap its ds := Reps.lies I 30 ds xs its hpl hr rv
    let g : Value → D := fun u => if h : ∃ d, d ∈ ds ∧ Lies s.heap u d then Classical.choose h else .non
    have hg : ∀ u d, d ∈ ds → Lies s.heap u d → g u = d := fun u d hd hu' => by
      have he : ∃ d, d ∈ ds ∧ Lies s.heap u d := ⟨d, hd, hu'⟩
      show (if h : ∃ d, d ∈ ds ∧ Lies s.heap u d then Classical.choose h else .non) = d
      rw [dif_pos he]
      exact Lies.inj _ _ _ (Classical.choose_spec he).2 hu'
    have gp : ∀ u, plainN 30 (g u) = true := fun u => by
      show plainN 30 (if h : ∃ d, d ∈ ds ∧ Lies s.heap u d then Classical.choose h else .non) = true
      by_cases he : ∃ d, d ∈ ds ∧ Lies s.heap u d
      · rw [dif_pos he]; exact hpl _ (Classical.choose_spec he).1
      · rw [dif_neg he]; rfl
    have O := ord_plain 30
    have O2 : SrtO.Swo fun u v => dlt (g u) (g v) := by
      refine ⟨fun x y hxy => ?_, fun x y z h1 h2 => le_trans' O (gp x) (gp y) (gp z) h1 h2⟩
      cases hq : dlt (g y) (g x) with
      | false => rfl
      | true =>
        have := O.trn _ _ _ (gp x) (gp y) (gp x) hxy hq
        rw [O.irr _ (gp x)] at this
        cases this
    refine SrtO.sorted_ord (ltv := fun u v => dlt (g u) (g v)) O2 hl.isList hz' (fun _ h₁ b hb kk => ?_) fun out hso hb => ?_
    · intro h' keep
      have kp : ∀ c o, s.heap.get? c = some o → h'.get? c = some o := fun c o e => keep c o (kk c o e).1 (kk c o e).2
      have hli' : LiesL h' its ds := hli.keep kp
      have item : ∀ u ∈ its, ∃ d, d ∈ ds ∧ Lies h' u d ∧ g u = d := fun u hm => by
        obtain ⟨j, hj, rfl⟩ := List.mem_iff_getElem.mp hm
        obtain ⟨d, ed, ld⟩ := hli'.get hj
        obtain ⟨d2, ed2, ld2⟩ := hli.get hj
        rw [ed] at ed2; cases ed2
        exact ⟨d, List.mem_of_getElem? ed, ld, hg _ d (List.mem_of_getElem? ed) ld2⟩
      have hz2 : 2 ≤ its.length := by omega
      have hu2 : X.A.in1.in1.units + 100 < cLine := by show X.A.units + 1 + 1 + 100 < cLine; omega
      by_cases h3 : k = 3
      · refine ⟨tuples' (typeT k1 != .type "tuple"), fun Q' E' hq => ?_, fun p p' m m' => ?_⟩
        · obtain ⟨fs, f1, f2, f3⟩ := firsts_made (M := model X.prog X.w) (h := h') (k := k1) (its := its) (fun u m => by
            obtain ⟨d, md, ld, _⟩ := item u m
            exact ⟨d, ld, (hall d md).1.trans h3, (hall d md).2.1⟩) hk1
          exact PySem.W.kat_kind (T := typeT k1) f1 (by omega) f3 (typeT_self _) hq
        · obtain ⟨d, md, ld, gd⟩ := item _ m
          obtain ⟨e, me, le, ge⟩ := item _ m'
          obtain ⟨c1, c2, c3⟩ := hall d md
          obtain ⟨c4, c5, c6⟩ := hall e me
          have hc := hcmp d md e me
          show wpAny (model X.prog X.w) X.A.in1.in1 (keyLt' (tuples' (typeT k1 != .type "tuple")) p.1 p'.1) (fun r s' => s' = { s with heap := h' } ∧ r = dlt (g p.1) (g p'.1)) (fun _ _ => False) { s with heap := h' }
          generalize p.1 = u1 at ld gd ⊢
          generalize p'.1 = u2 at le ge ⊢
          cases ld with
          | @tup ad ud xd t1 t2 =>
            cases le with
            | @tup ae ue xe t3 t4 =>
              have r := tup_true (s := { s with heap := h' }) (A := X.A.in1.in1) (prog := X.prog) (w := X.w) (E := fun _ _ => False) (Q := fun r s' => s' = { s with heap := h' } ∧ r = dlt (g (Value.ref ad)) (g (Value.ref ae))) (.tup t1 t2) (.tup t3 t4) c3 c6 (c2.trans c5.symm) (by rw [c2]; exact hk1) (by rw [c2]; exact hk4) hc hu2 ⟨rfl, by rw [gd, ge]⟩
              rw [c2] at r
              exact r
            | _ => rw [h3] at c4; simp [kindD] at c4
          | _ => rw [h3] at c1; simp [kindD] at c1
      · refine ⟨oneType', fun Q' E' hq => ?_, fun p p' m m' => ?_⟩
        · refine PySem.W.kas_kind (T := typeT k) hz2 (fun v m => ?_) ?_ (typeT_self _) hq
          · obtain ⟨d, md, ld, _⟩ := item v m
            rw [← (hall d md).1]
            exact looks_kind ld (by rw [(hall d md).1]; exact hk)
          · unfold typeT
            split <;> first | decide | exact absurd rfl h3
        · obtain ⟨d, md, ld, gd⟩ := item _ m
          obtain ⟨e, me, le, ge⟩ := item _ m'
          obtain ⟨c1, c2, c3⟩ := hall d md
          obtain ⟨c4, c5, c6⟩ := hall e me
          have r := one_true (s := { s with heap := h' }) (A := X.A.in1.in1) (prog := X.prog) (w := X.w) (E := fun _ _ => False) (Q := fun r s' => s' = { s with heap := h' } ∧ r = dlt (g p.1) (g p'.1)) ld le c3 c6 (c1.trans c4.symm) (by rw [c1]; exact hk) (by rw [c1]; exact h3) (hcmp d md e me) hu2 ⟨rfl, by rw [gd, ge]⟩
          exact r
    · obtain ⟨l', hp, ho⟩ := perm_lift (fun t : Value × V × D => t.1) hb.perm.symm e1
      refine fin out l' hp ho ?_
      have hd : (l'.map (·.2.2)).Perm ds := by
        have := hp.symm.map (fun t : Value × V × D => t.2.2)
        rw [e3] at this
        exact this
      have gt : ∀ t ∈ l', g t.1 = t.2.2 := fun t m => by
        have m' := hp.mem_iff.mpr m
        refine hg _ _ ?_ (lies_zip (xs := xs) hli n2 t m')
        rw [← e3]
        exact List.mem_map.mpr ⟨t, m', rfl⟩
      refine srtd_uniq O (fun x hx => hpl x (hd.mem_iff.mp hx)) (hd.trans (sortL_perm ds).symm) ?_ (sortL_srtd O hpl)
      have hs2 : out.Pairwise fun x y => dlt (g y) (g x) = false := hso
      rw [← ho, List.pairwise_map] at hs2
      rw [List.pairwise_map]
      exact hs2.imp_of_mem fun {x y} hx hy hxy => by rw [← gt x hx, ← gt y hy]; exact hxy
end
end MP
/-! Dicts whose keys are tuples: the keys; in. -/
namespace MP
open PySem PySem.Spec PyProof.Rows L2

/-! ### keys -/
mutual
theorem toKey_inj : ∀ (a b : D) (k : NestedKey), toKey a = some k → toKey b = some k → a = b
  | .int i, b, k, h, h' => by
    simp only [toKey] at h; cases h
    cases b <;> simp only [toKey] at h' <;> first | (cases h'; rfl) | (cases h'; done) | skip
    cases hk : toKeys _ with
    | none => rw [hk] at h'; cases h'
    | some ks => rw [hk] at h'; cases h'
  | .str i, b, k, h, h' => by
    simp only [toKey] at h; cases h
    cases b <;> simp only [toKey] at h' <;> first | (cases h'; rfl) | (cases h'; done) | skip
    cases hk : toKeys _ with
    | none => rw [hk] at h'; cases h'
    | some ks => rw [hk] at h'; cases h'
  | .tup xs, b, k, h, h' => by
    simp only [toKey] at h
    cases hk : toKeys xs with
    | none => rw [hk] at h; cases h
    | some ks =>
      rw [hk] at h; cases h
      cases b <;> simp only [toKey] at h' <;> first | (cases h'; done) | skip
      rename_i ys
      cases hk' : toKeys ys with
      | none => rw [hk'] at h'; cases h'
      | some ks' =>
        rw [hk'] at h'; cases h'
        rw [toKeys_inj xs ys ks hk hk']
  | .non, _, _, h, _ => by simp only [toKey] at h; cases h
  | .bl _, _, _, h, _ => by simp only [toKey] at h; cases h
  | .lst _, _, _, h, _ => by simp only [toKey] at h; cases h
  | .dic _, _, _, h, _ => by simp only [toKey] at h; cases h
  | .scr _, _, _, h, _ => by simp only [toKey] at h; cases h
theorem toKeys_inj : ∀ (xs ys : List D) (ks : List NestedKey), toKeys xs = some ks → toKeys ys = some ks → xs = ys
  | [], ys, ks, h, h' => by
    simp only [toKeys] at h; cases h
    cases ys with
    | nil => rfl
    | cons y ys =>
      simp only [toKeys] at h'
      cases h1 : toKey y <;> cases h2 : toKeys ys <;> simp [h1, h2] at h'
  | x :: xs, ys, ks, h, h' => by
    simp only [toKeys] at h
    cases h1 : toKey x with
    | none => rw [h1] at h; simp at h
    | some k =>
      cases h2 : toKeys xs with
      | none => rw [h1, h2] at h; simp at h
      | some ks2 =>
        rw [h1, h2] at h
        cases h
        cases ys with
        | nil => simp only [toKeys] at h'; cases h'
        | cons y ys =>
          simp only [toKeys] at h'
          cases h3 : toKey y with
          | none => rw [h3] at h'; simp at h'
          | some k' =>
            cases h4 : toKeys ys with
            | none => rw [h3, h4] at h'; simp at h'
            | some ks3 =>
              rw [h3, h4] at h'
              cases h'
              rw [toKey_inj x y k h1 h3, toKeys_inj xs ys ks2 h2 h4]
end
mutual
theorem keyN_to : ∀ (n : Nat) (d : D), keyN n d = true → ∃ k, toKey d = some k ∧ k.depth ≤ n
  | n, .int i, _ => ⟨.num i, by simp only [toKey], Nat.zero_le _⟩
  | n, .str i, _ => ⟨.text i, by simp only [toKey], Nat.zero_le _⟩
  | 0, .tup xs, h => by simp [keyN] at h
  | n + 1, .tup xs, h => by
    have h : xs.all (keyN n) = true := by simpa only [keyN] using h
    obtain ⟨ks, h1, h2⟩ := keysN_to n xs (fun x m => by rw [List.all_eq_true] at h; exact h x m)
    exact ⟨.tup ks, by simp only [toKey]; rw [h1], by show NestedKey.depthAll ks + 1 ≤ n + 1; omega⟩
  | n, .non, h => by cases n <;> simp [keyN] at h
  | n, .bl _, h => by cases n <;> simp [keyN] at h
  | n, .lst _, h => by cases n <;> simp [keyN] at h
  | n, .dic _, h => by cases n <;> simp [keyN] at h
  | n, .scr _, h => by cases n <;> simp [keyN] at h
theorem keysN_to : ∀ (n : Nat) (xs : List D), (∀ x ∈ xs, keyN n x = true) → ∃ ks, toKeys xs = some ks ∧ NestedKey.depthAll ks ≤ n
  | n, [], _ => ⟨[], by simp only [toKeys], Nat.zero_le _⟩
  | n, x :: xs, h => by
    obtain ⟨k, a1, a2⟩ := keyN_to n x (h x List.mem_cons_self)
    obtain ⟨ks, b1, b2⟩ := keysN_to n xs fun y m => h y (List.mem_cons_of_mem _ m)
    exact ⟨k :: ks, by simp only [toKeys]; rw [a1, b1], by show max _ _ ≤ n; omega⟩
end
theorem tupKey_to {d : D} (h : tupKey d = true) : ∃ k, toKey d = some k ∧ isTup d = true ∧ k.depth ≤ 8 := by
  unfold tupKey at h
  rw [Bool.and_eq_true] at h
  obtain ⟨k, h1, h2⟩ := keyN_to 8 d h.2
  exact ⟨k, h1, h.1, h2⟩
section
variable {X : Cx} {P : Program} {w : World} {H F : Hp} {pins : List (Addr × Obj)} {s : Shared} {σ : L2.St}
mutual
theorem rep_nested (I : L2.Inv X pins σ H s) (hF : Same F H) : ∀ {v : V} {d : D} (u : Value) (k : NestedKey), Rep P w X.K F v d → toKey d = some k → RelV v u → NestedIs s.heap k u
  | _, _, u, k, .int i, hk, r => by
    simp only [toKey] at hk; cases hk
    obtain ⟨t, rfl⟩ := r
    exact .int i t
  | _, _, u, k, .str x _, hk, r => by
    simp only [toKey] at hk; cases hk
    obtain ⟨t, rfl⟩ := r
    exact .text x t
  | _, _, u, k, .tup (a := a) (vs := vs) (ds := ds) hs hr, hk, r => by
    simp only [toKey] at hk
    cases hks : toKeys ds with
    | none => rw [hks] at hk; cases hk
    | some ks =>
      rw [hks] at hk; cases hk
      obtain rfl : u = Value.ref a := r
      obtain ⟨its, rv, ⟨o, ho, hc, n, hd⟩, _⟩ := I.tuple (SqT.mono hF hs)
      exact .tup ho hc hd (by simpa using reps_nested I hF its ks hr hks rv)
  | _, _, u, k, .non, hk, _ => by simp only [toKey] at hk; cases hk
  | _, _, u, k, .bl _, hk, _ => by simp only [toKey] at hk; cases hk
  | _, _, u, k, .lst _ _, hk, _ => by simp only [toKey] at hk; cases hk
  | _, _, u, k, .dic _ _, hk, _ => by simp only [toKey] at hk; cases hk
  | _, _, u, k, .dicT _ _ _, hk, _ => by simp only [toKey] at hk; cases hk
  | _, _, u, k, .scr _, hk, _ => by simp only [toKey] at hk; cases hk
theorem reps_nested (I : L2.Inv X pins σ H s) (hF : Same F H) : ∀ {vs : List V} {ds : List D} (us : List Value) (ks : List NestedKey), Reps P w X.K F vs ds → toKeys ds = some ks → Vals vs us → NestedAll s.heap ks us
  | _, _, us, ks, .nil, hk, r => by
    simp only [toKeys] at hk; cases hk
    cases r
    exact .nil
  | _, _, us, ks, .cons (d := d) (ds := ds) a b, hk, r => by
    simp only [toKeys] at hk
    cases h1 : toKey d with
    | none => rw [h1] at hk; simp at hk
    | some k =>
      cases h2 : toKeys ds with
      | none => rw [h1, h2] at hk; simp at hk
      | some ks2 =>
        rw [h1, h2] at hk
        cases hk
        cases r with
        | cons r1 r2 => exact .cons (rep_nested I hF _ _ a h1 r1) (reps_nested I hF _ _ b h2 r2)
end
theorem repT_is (I : L2.Inv X pins σ H s) (hF : Same F H) : ∀ {es : List (NestedKey × Addr × Value)} {ds : List (D × D)}, RepT P w X.K F es ds → ∀ x ∈ es, (nestedKind X.prog X.w).is s.heap x.1 x.2.1
  | _, _, .nil, _, m => nomatch m
  | _, _, .cons (key := key) (b := b) h1 h2 h3 h4 h5 h6 h7, x, m => by
    rcases List.mem_cons.mp m with rfl | m
    · exact ⟨rep_nested I hF (.ref b) key h4 h1 rfl, h3⟩
    · exact repT_is I hF h7 x m
theorem repT_at {F : Hp} {K : PySem.W.Frag} {key : NestedKey} {kd : D} (hk : toKey kd = some key) : ∀ {es : List (NestedKey × Addr × Value)} {ds : List (D × D)}, RepT P w K F es ds → (atKey es key).isSome = ds.any fun p => decide (p.1 = kd)
  | _, _, .nil => rfl
  | _, _, .cons (key := key') (b := b) (u := u) (vs := vs) (kd := kd') (d := d) (ds := ds) h1 h2 h3 h4 h5 h6 h7 => by
    have ih := repT_at hk h7
    unfold atKey at ih ⊢
    rw [List.find?_cons, List.any_cons]
    by_cases e : key' = key
    · subst e
      have : kd' = kd := toKey_inj _ _ _ h1 hk
      simp [this]
    · have : kd' ≠ kd := fun z => e (by rw [z, hk] at h1; exact (Option.some.inj h1).symm)
      simp only [decide_eq_false e, decide_eq_false this, Bool.false_or]
      exact ih
/-- the dict at a, with tuples as keys (or none yet) -/
def RawAt (P : Program) (w : World) (H : Hp) (a : Addr) (es : List (NestedKey × Addr × Value)) : Prop := H a = some (.ext (RawD P w a es)) ∨ H a = some (.dK []) ∧ es = []
theorem rawAt_of (I : L2.Inv X pins σ H s) {a : Addr} {es : List (NestedKey × Addr × Value)} (h : RawAt X.prog X.w H a es) (hi : ∀ x ∈ es, (nestedKind X.prog X.w).is s.heap x.1 x.2.1) : (a == sysModules) = false ∧ s.heap.DictOfH (nestedKind X.prog X.w) a es := by
  rcases h with h | ⟨h, rfl⟩
  · obtain ⟨⟨hs, hz, o, ents, ep, h1, h2, h3, h4, h5⟩, _⟩ := (show ObjOk X.prog X.w H s.heap a (.ext (RawD X.prog X.w a es)) from I.hok a _ h)
    exact ⟨hs, o, ents, ep, h1, h2, h3, h4, hi, h5⟩
  · obtain ⟨z, hd, vs, rel, o, es, ep, h1, h2, h3, _, h5, _⟩ := dk_of I.hok h
    cases rel
    refine ⟨hd, o, es, ep, h1, h2, h3, ?_, (fun _ m => nomatch m), List.nodup_nil⟩
    have := h5.length
    rw [List.length_nil] at this
    exact List.eq_nil_of_length_eq_zero this
/-- the dict at a, that is read -/
def RawRd (P : Program) (w : World) (H : Hp) (a : Addr) (es : List (NestedKey × Addr × Value)) : Prop := Rd H a (.ext (RawD P w a es)) ∨ Rd H a (.dK []) ∧ es = []
theorem rawRd_of (I : L2.Inv X pins σ H s) {a : Addr} {es : List (NestedKey × Addr × Value)} (h : RawRd X.prog X.w H a es) (hi : ∀ x ∈ es, (nestedKind X.prog X.w).is s.heap x.1 x.2.1) : (a == sysModules) = false ∧ s.heap.DictOfH (nestedKind X.prog X.w) a es := by
  rcases h with h | ⟨h, rfl⟩
  · obtain ⟨⟨hs, hz, o, ents, ep, h1, h2, h3, h4, h5⟩, _⟩ := (show ObjOk X.prog X.w H s.heap a (.ext (RawD X.prog X.w a es)) from rd_of I.hok h)
    exact ⟨hs, o, ents, ep, h1, h2, h3, h4, hi, h5⟩
  · obtain ⟨hz, hs0, xs, kv, hdo⟩ := dk_rd I.hok h
    obtain ⟨es, ep, hraw, hsz, hkey⟩ := hdo.raw
    have lk := Paired.length kv
    obtain ⟨o, ho, hc, hdat⟩ := hraw
    have l0 : es.toList = [] := List.eq_nil_of_length_eq_zero (by rw [Array.length_toList, hsz, ← lk]; rfl)
    exact ⟨hs0, o, es, ep, ho, hc, hdat, l0, (fun _ m => nomatch m), List.nodup_nil⟩
theorem getKV_any (ds : List (D × D)) (k : D) : (getKV ds k).isSome = ds.any fun p => decide (p.1 = k) := by
  unfold getKV
  induction ds with
  | nil => rfl
  | cons p ds ih =>
    rw [List.find?_cons, List.any_cons, ← ih]
    by_cases h : p.1 = k
    · have : (p.1 == k) = true := by simpa using h
      rw [this, decide_eq_true h]; rfl
    · have : (p.1 == k) = false := by simpa using h
      rw [this, decide_eq_false h, Bool.false_or]
theorem d_inT {A : Around} {E : Value → Shared → Prop} {Q : Value → Shared → Prop} {F' : Hp} {a b : Addr} {es : List (NestedKey × Addr × Value)} {ds : List (D × D)} {kd : D} (neg : Bool) (hu : A.units + 10 < cLine) (I : L2.Inv X pins σ H s) (hF : Same F H) (hF' : Same F' H) (g : RawRd X.prog X.w H a es)
    (hr : RepT P w X.K F es ds) (hb : Rep P w X.K F' (.ref b) kd) (hk : tupKey kd = true) (h : ∀ s', L2.Inv X pins σ H s' → Q (.bool (if neg then !(getKV ds kd).isSome else (getKV ds kd).isSome)) s') :
    wpAny (model X.prog X.w) A (compareOp (if neg then .NotIn else .In) (.ref b) (.ref a)) Q E s := by
  obtain ⟨key, k1, k2, k8⟩ := tupKey_to hk
  obtain ⟨hd, dd⟩ := rawRd_of I g (repT_is I hF hr)
  have e := repT_at k1 hr
  rw [← getKV_any] at e
  have hk := rep_nested I hF' (.ref b) key hb k1 rfl
  cases neg with
  | true =>
    refine wpAny_notIn_heap (knd := nestedKind X.prog X.w) (by show A.units + 1 + 8 < cLine; omega) ⟨hk, k8⟩ hd dd ?_
    rw [e]
    exact h _ (I.tok _)
  | false =>
    refine wpAny_in_heap (knd := nestedKind X.prog X.w) (by show A.units + 1 + 8 < cLine; omega) ⟨hk, k8⟩ hd dd ?_
    rw [e]
    exact h _ (I.tok _)
end
end MP
/-! What operators and built-ins give, by data. -/
namespace MP
open PySem PySem.Spec PyProof.Rows L2

/-- b: perhaps owned by a name; s: shared; l: a new list (dict) of one's own; t: a tuple with such a list at a place; n: a new list of new lists -/
inductive Md where | b | s | l | t (k : Nat) | n
  deriving DecidableEq
section
variable (P : Program) (w : World) (K : PySem.W.Frag)
def Bor (H : Hp) (W : List Addr) (v : V) (d : D) : Prop := ∃ o r, Own P w K H W o v d r
def Res (md : Md) (H H' : Hp) (W : List Addr) (v : V) (d : D) : Prop := match md with
  | .b => Bor P w K H' W v d
  | .s => Rep P w K (hid H' W) v d
  | .l => ∃ a, v = .ref a ∧ H a = none ∧ Root P w K H' (a :: W) a d
  | .t k => ∃ a, H a = none ∧ Own P w K H' (a :: W) (.tp k) v d (some a)
  | .n => ∃ a vs ds, v = .ref a ∧ d = .lst ds ∧ H a = none ∧ H' a = some (.lst vs) ∧ Reps P w K (hid H' (a :: W)) vs ds ∧ vs.Nodup ∧ ∀ u ∈ vs, ∃ b us, u = .ref b ∧ H b = none ∧ H' b = some (.lst us)
abbrev Bors (H : Hp) (W : List Addr) : List V → List D → Prop := Paired (Bor P w K H W)
/-- values in, data by f, out -/
def rF (f : List D → R D) (md : Md) : List V → Hp → VK → Prop := fun vs H Q => ∃ W ds d, (∀ a ∈ W, H a ≠ none) ∧ Bors P w K H W vs ds ∧ f ds = .ok d ∧ ∀ v H', Same H H' → Res P w K md H H' W v d → Q v H'
def f1 (f : D → R D) : List D → R D
  | [a] => f a
  | _ => .bad
def f2 (f : D → D → R D) : List D → R D
  | [a, b] => f a b
  | _ => .bad
def r2 (f : D → D → R D) (md : Md) : R2 := fun x y H Q => rF P w K (f2 f) md [x, y] H Q
end
section
variable {P : Program} {w : World} {K : PySem.W.Frag} {H H' : Hp} {W : List Addr} {v : V} {d : D} {Q : VK}
theorem Bor.rep (h : Bor P w K H W v d) : Rep P w K H v d := by
  obtain ⟨o, r, q⟩ := h
  exact q.rep (fun _ _ _ e => e) hid_le
theorem Bor.of_rep (h : Rep P w K (hid H W) v d) : Bor P w K H W v d := ⟨.sh, none, .sh h⟩
theorem Bor.mono (h : Bor P w K H W v d) (hs : Same H H') : Bor P w K H' W v d := by
  obtain ⟨o, r, q⟩ := h
  refine ⟨o, r, q.mono (fun a e => ⟨?_, hs _⟩) (hid_same hs)⟩
  cases q with
  | sh => cases e
  | li m _ => cases e; exact m
  | tp _ _ _ _ m _ _ => cases e; exact m
theorem Bor.int {i : Int} (h : Bor P w K H W v (.int i)) : v = .int i := by cases h.rep; rfl
theorem Bor.str {i : Str} (h : Bor P w K H W v (.str i)) : v = .str i ∧ i.length ≤ sizeLine := by
  cases h.rep with
  | str _ e => exact ⟨rfl, e⟩
theorem Bor.bl {i : Bool} (h : Bor P w K H W v (.bl i)) : v = .bl i := by cases h.rep; rfl
theorem Bor.non (h : Bor P w K H W v .non) : v = .non := by cases h.rep; rfl
theorem Bor.non_iff (h : Bor P w K H W v d) : decide (v = .non) = decide (d = .non) := by
  cases h.rep <;> simp
theorem Bor.lst {ds : List D} (h : Bor P w K H W v (.lst ds)) : ∃ a vs, v = .ref a ∧ Rd H a (.lst vs) ∧ Reps P w K (hid H W) vs ds := by
  obtain ⟨o, r, q⟩ := h
  cases q with
  | sh q =>
    cases q with
    | lst a b => exact ⟨_, _, rfl, Rd.mono hid_le a, b⟩
  | li m q =>
    cases q with
    | lst e b => exact ⟨_, _, rfl, .inl e, b⟩
theorem Bor.tup {ds : List D} (h : Bor P w K H W v (.tup ds)) : ∃ a vs, v = .ref a ∧ SqT K H a vs ∧ Reps P w K H vs ds := by
  cases h.rep with
  | tup a b => exact ⟨_, _, rfl, a, b⟩
theorem Rep.tup' {F : Hp} {ds : List D} (h : Rep P w K F v (.tup ds)) : ∃ a vs, v = .ref a ∧ SqT K F a vs ∧ Reps P w K F vs ds := by
  cases h with
  | tup a b => exact ⟨_, _, rfl, a, b⟩
theorem Bor.dic {ds : List (D × D)} (h : Bor P w K H W v (.dic ds)) : ∃ a, v = .ref a ∧ ((∃ kvs, Rd H a (.dK kvs) ∧ RepK P w K (hid H W) kvs ds) ∨ ∃ es, Rd H a (.ext (RawD P w a es)) ∧ es ≠ [] ∧ RepT P w K (hid H W) es ds) := by
  obtain ⟨o, r, q⟩ := h
  cases q with
  | sh q =>
    cases q with
    | dic a b => exact ⟨_, rfl, .inl ⟨_, Rd.mono hid_le a, b⟩⟩
    | dicT a n b => exact ⟨_, rfl, .inr ⟨_, Rd.mono hid_le a, n, b⟩⟩
  | li m q =>
    cases q with
    | dic e b => exact ⟨_, rfl, .inl ⟨_, .inl e, b⟩⟩
    | dicT e n b => exact ⟨_, rfl, .inr ⟨_, .inl e, n, b⟩⟩
theorem bors1 {vs : List V} {d : D} (h : Bors P w K H W vs [d]) : ∃ v, vs = [v] ∧ Bor P w K H W v d := by
  cases h with
  | cons a b => cases b; exact ⟨_, rfl, a⟩
theorem bors2 {x y : V} {ds : List D} (h : Bors P w K H W [x, y] ds) : ∃ d e, ds = [d, e] ∧ Bor P w K H W x d ∧ Bor P w K H W y e := by
  cases h with
  | cons a b =>
    cases b with
    | cons c t => cases t; exact ⟨_, _, rfl, a, c⟩
theorem bors1' {x : V} {ds : List D} (h : Bors P w K H W [x] ds) : ∃ d, ds = [d] ∧ Bor P w K H W x d := by
  cases h with
  | cons a b => cases b; exact ⟨_, rfl, a⟩
/-- a new list: of one's own -/
theorem res_lst {p : Addr} {vs : List V} {ds : List D} (hp : H p = none) (r : Reps P w K (hid H W) vs ds) : Res P w K .l H (upd H p (.lst vs)) W (.ref p) (.lst ds) :=
  ⟨p, rfl, hp, .lst upd_same (r.mono (hid_new (same_new hp) fun a m => (List.mem_cons.mp m).elim (fun e => .inr (e ▸ hp)) .inl))⟩
theorem res_dic {p : Addr} {vs : List (Key × V)} {ds : List (D × D)} (hp : H p = none) (r : RepK P w K (hid H W) vs ds) : Res P w K .l H (upd H p (.dK vs)) W (.ref p) (.dic ds) :=
  ⟨p, rfl, hp, .dic upd_same (r.mono (hid_new (same_new hp) fun a m => (List.mem_cons.mp m).elim (fun e => .inr (e ▸ hp)) .inl))⟩
theorem res_tup {p : Addr} {vs : List V} {ds : List D} (hp : H p = none) (hw : ∀ a ∈ W, H a ≠ none) (r : Reps P w K (hid H W) vs ds) : Res P w K .s H (upd H p (.tup vs)) W (.ref p) (.tup ds) :=
  .tup (.inl (.inl (hid_some.mpr ⟨fun m => hw p m hp, upd_same⟩))) (r.mono (hid_same (same_new hp)))
/-- coercions -/
theorem Res.to_s {md : Md} (hw : ∀ a ∈ W, H a ≠ none) (hs : Same H H') (hb : md ≠ .b) (h : Res P w K md H H' W v d) : Rep P w K (hid H' W) v d := by
  cases md with
  | b => exact absurd rfl hb
  | s => exact h
  | l =>
    obtain ⟨a, rfl, ha, r⟩ := h
    refine r.rep (fun o e => hid_some.mpr ⟨fun m => hw a m ha, e⟩) (hid_sub fun b m => List.mem_cons_of_mem _ m)
  | t k =>
    obtain ⟨a, ha, r⟩ := h
    refine r.rep (fun b e o q => ?_) (hid_sub fun b m => List.mem_cons_of_mem _ m)
    cases e
    exact hid_some.mpr ⟨fun m => hw a m ha, q⟩
  | n =>
    obtain ⟨a, vs, ds, rfl, rfl, ha, h1, h2, _⟩ := h
    exact .lst (.inl (hid_some.mpr ⟨fun m => hw a m ha, h1⟩)) (h2.mono (hid_sub fun b m => List.mem_cons_of_mem _ m))
theorem Res.to_b {md : Md} (hw : ∀ a ∈ W, H a ≠ none) (hs : Same H H') (h : Res P w K md H H' W v d) : Bor P w K H' W v d := by
  by_cases e : md = .b
  · subst e; exact h
  · exact .of_rep (h.to_s hw hs e)
end

section
variable {X : Cx} {P : Program} {w : World}
def bop : BOp → Operator
  | .add => .Add
  | .sub => .Sub
  | .mul => .Mult
  | .mod => .Mod
  | .fdiv => .FloorDiv
  | .cat => .Add
theorem lim_line : lim = sizeLine := by rw [sizeLine_eq]; rfl
theorem cat_lists {pins : List (Addr × Obj)} {s : Shared} {σ : L2.St} {H : Hp} {a b : Addr} {xs ys : List V} {Q : VK} (I : Inv X pins σ H s) (h1 : Rd H a (.lst xs)) (h2 : Rd H b (.lst ys)) (hz : xs.length + ys.length ≤ sizeLine)
    (q : ∀ p, H p = none → Q (.ref p) (upd H p (.lst (xs ++ ys)))) : wpAny (model X.prog X.w) X.A (binaryOp .Add (.ref a) (.ref b)) (EP X pins σ Q) X.xe s := by
  obtain ⟨_, its, n, r, e⟩ := h1.ok I.hok
  obtain ⟨_, its2, n2, r2, e2⟩ := h2.ok I.hok
  have l1 := r.length
  have l2 := r2.length
  refine PySem.P.add_list e e2 ?_ (by rw [List.size_toArray, List.size_toArray]; omega)
  have ea : its.toArray ++ its2.toArray = (its ++ its2).toArray := by simp
  rw [ea]
  exact ⟨.ref _, _, I.lnew (t' := s.toks) (r.append r2) (by rw [List.length_append]; omega), rfl, q _ I.fresh⟩
theorem op_bin (op : BOp) : OpR X (binaryOp (bop op)) (r2 P w X.K (binD op) (if op = .cat then .l else .s)) := by
  intro pins s σ H x y v u Q I rx ry h
  obtain ⟨W, ds, r, hw, hb, hf, q⟩ := h
  obtain ⟨d, e, rfl, bx, bye⟩ := bors2 hb
  have hf' : binD op d e = .ok r := hf
  cases op with
  | cat =>
    cases d <;> cases e <;> simp only [binD] at hf' <;> try cases hf'
    split at hf' <;> cases hf'
    rename_i hz
    rw [lim_line] at hz
    obtain ⟨a, xs, rfl, ha, ra⟩ := bx.lst
    obtain ⟨b, ys, rfl, hb', rb⟩ := bye.lst
    cases rx; cases ry
    have l1 := ra.length
    have l2 := rb.length
    exact cat_lists I ha hb' (by omega) fun p hp => q _ _ (same_new hp) (res_lst hp (ra.append rb))
  | add =>
    cases d <;> cases e <;> simp only [binD] at hf' <;> try cases hf'
    · cases bx.int; cases bye.int
      exact op_add pins s σ H _ _ _ _ _ I rx ry ⟨_, _, rfl, rfl, q _ _ (Same.refl H) (.int _)⟩
    · split at hf' <;> cases hf'
      rename_i hz
      rw [lim_line] at hz
      obtain ⟨rfl, _⟩ := bx.str
      obtain ⟨rfl, _⟩ := bye.str
      exact op_add_str pins s σ H _ _ _ _ _ I rx ry ⟨_, _, rfl, rfl, hz, q _ _ (Same.refl H) (.str _ (by rw [PySem.Str.length_append]; exact hz))⟩
    · split at hf' <;> cases hf'
      rename_i hz
      rw [lim_line] at hz
      obtain ⟨a, xs, rfl, ha, ra⟩ := bx.lst
      obtain ⟨b, ys, rfl, hb', rb⟩ := bye.lst
      cases rx; cases ry
      have l1 := ra.length
      have l2 := rb.length
      exact cat_lists I ha hb' (by omega) fun p hp => q _ _ (same_new hp) ((res_lst hp (ra.append rb)).to_s hw (same_new hp) (by decide))
  | sub =>
    cases d <;> cases e <;> simp only [binD] at hf' <;> cases hf'
    cases bx.int; cases bye.int
    exact op_sub pins s σ H _ _ _ _ _ I rx ry ⟨_, _, rfl, rfl, q _ _ (Same.refl H) (.int _)⟩
  | mul =>
    cases d <;> cases e <;> simp only [binD] at hf' <;> try cases hf'
    split at hf' <;> cases hf'
    rename_i hm
    cases bx.int; cases bye.int
    refine op_mul pins s σ H _ _ _ _ _ I rx ry ⟨_, _, rfl, rfl, ?_, q _ _ (Same.refl H) (.int _)⟩
    unfold mulOk at hm
    simp only [Bool.or_eq_true, Bool.and_eq_true, decide_eq_true_eq] at hm
    unfold CMul
    rcases hm with ⟨a, b⟩ | ⟨a, b⟩
    · exact .inl ⟨by omega, by omega⟩
    · exact .inr ⟨by omega, by omega⟩
  | mod =>
    cases d <;> cases e <;> simp only [binD] at hf' <;> try cases hf'
    split at hf' <;> cases hf'
    rename_i hm
    cases bx.int; cases bye.int
    exact op_modN pins s σ H _ _ _ _ _ I rx ry ⟨_, _, rfl, rfl, hm, q _ _ (Same.refl H) (.int _)⟩
  | fdiv =>
    cases d <;> cases e <;> simp only [binD] at hf' <;> try cases hf'
    split at hf' <;> cases hf'
    rename_i hm
    cases bx.int; cases bye.int
    exact op_fdivN pins s σ H _ _ _ _ _ I rx ry ⟨_, _, rfl, rfl, hm, q _ _ (Same.refl H) (.int _)⟩

def cop : CO → CmpOp
  | .eq => .Eq
  | .ne => .NotEq
  | .lt => .Lt
  | .le => .LtE
  | .gt => .Gt
  | .ge => .GtE
  | .isin => .In
  | .notin => .NotIn
  | .is => .Is
  | .isnot => .IsNot
def cmpB (op : CO) (d e : D) : R D := (cmpD op d e).bind fun b => .ok (.bl b)
/-- a flat key of a dict -/
theorem key_flat {H : Hp} {W : List Addr} {y : V} {kd : D} (h : Bor P w X.K H W y kd) (hf : flatKey kd = true) : ∃ k, y = kV k ∧ kd = keyD k ∧ KeyZ k := by
  cases kd <;> simp only [flatKey] at hf <;> try cases hf
  · exact ⟨.inl _, h.int, rfl, (fun s e => nomatch e)⟩
  · exact ⟨.inr _, h.str.1, rfl, (fun s e => by cases e; exact h.str.2)⟩
theorem keyD_inj {a b : Key} (h : keyD a = keyD b) : a = b := by
  cases a <;> cases b <;> simp [keyD] at h ⊢ <;> exact h
theorem repK_val {F : Hp} {K : PySem.W.Frag} (k : Key) : ∀ {kvs : List (Key × V)} {ds : List (D × D)}, RepK P w K F kvs ds → (∀ d, getKV ds (keyD k) = some d → ∃ v, valV kvs k = some v ∧ Rep P w K F v d) ∧ (getKV ds (keyD k) = none → valV kvs k = none)
  | _, _, .nil => ⟨fun d h => by simp [getKV] at h, fun _ => rfl⟩
  | _, _, .cons (k := k') (v := v') (vs := vs) (d := d') (ds := ds') z a b => by
    obtain ⟨h1, h2⟩ := repK_val k b
    by_cases e : k' = k
    · subst e
      refine ⟨fun d h => ?_, fun h => ?_⟩
      · simp [getKV] at h
        subst h
        exact ⟨v', by simp [valV], a⟩
      · simp [getKV] at h
    · have ne : ¬ keyD k' = keyD k := fun q => e (keyD_inj q)
      have e1 : getKV ((keyD k', d') :: ds') (keyD k) = getKV ds' (keyD k) := by simp [getKV, List.find?_cons, ne]
      have e2 : valV ((k', v') :: vs) k = valV vs k := by simp [valV, List.find?_cons, e]
      rw [e1, e2]
      exact ⟨h1, h2⟩
/-- a dict whose keys are flat is one of the layer's -/
theorem dic_flat {H : Hp} {W : List Addr} {v : V} {ds : List (D × D)} (h : Bor P w X.K H W v (.dic ds)) (hf : (ds.all fun p => flatKey p.1) = true) : ∃ a kvs, v = .ref a ∧ Rd H a (.dK kvs) ∧ RepK P w X.K (hid H W) kvs ds := by
  obtain ⟨a, rfl, ⟨kvs, h1, h2⟩ | ⟨es, h1, hn, h2⟩⟩ := h.dic
  · exact ⟨a, kvs, rfl, h1, h2⟩
  · cases h2 with
    | nil => exact absurd rfl hn
    | cons a b c e f g i =>
      rename_i kd d ds'
      have hf' : flatKey kd = true := by
        rw [List.all_eq_true] at hf
        exact hf _ List.mem_cons_self
      cases kd <;> first | (simp only [flatKey] at hf'; cases hf'; done) | (simp only [isTup] at b; cases b; done)
theorem op_cmp (hu : X.A.units + 110 < cLine) (op : CO) : OpR X (compareOp (cop op)) (r2 X.prog X.w X.K (cmpB op) .s) := by
  intro pins s σ H x y v u Q I rx ry h
  obtain ⟨W, ds, r, hw, hb, hf, q⟩ := h
  obtain ⟨d, e, rfl, bx, bye⟩ := bors2 hb
  have hf' : cmpB op d e = .ok r := hf
  obtain ⟨b, hc, hr⟩ := R.bind_eq_ok.mp hf'
  cases hr
  have q' : Q (.bl b) H := q _ _ (Same.refl H) (.bl b)
  have inS : ∀ (neg : Bool) (k : Bool), inD d e = .ok k → b = (if neg then !k else k) → wpAny (model X.prog X.w) X.A (compareOp (if neg then .NotIn else .In) v u) (EP X pins σ Q) X.xe s := by
    intro neg k hi hk
    subst hk
    have seq : ∀ zs, (e = .lst zs ∨ e = .tup zs) → inD d e = (if plain d && zs.all plain then .ok (zs.any fun y => y == d) else .bad) → wpAny (model X.prog X.w) X.A (compareOp (if neg then .NotIn else .In) v u) (EP X pins σ Q) X.xe s := by
      intro zs hz he
      rw [he] at hi
      split at hi <;> cases hi
      rename_i hp
      rw [Bool.and_eq_true] at hp
      cases neg with
      | true => exact op_notinM (P := X.prog) (w := X.w) (by omega) pins s σ H x y v u Q I rx ry ⟨d, zs, e, bx.rep, bye.rep, hz, hp.1, hp.2, q'⟩
      | false => exact op_inM (P := X.prog) (w := X.w) (by omega) pins s σ H x y v u Q I rx ry ⟨d, zs, e, bx.rep, bye.rep, hz, hp.1, hp.2, q'⟩
    cases e with
    | lst zs => exact seq zs (.inl rfl) (by cases d <;> rfl)
    | tup zs => exact seq zs (.inr rfl) (by cases d <;> rfl)
    | str z =>
      cases d <;> simp only [inD] at hi <;> cases hi
      obtain ⟨rfl, _⟩ := bx.str
      obtain ⟨rfl, _⟩ := bye.str
      cases neg with
      | true => exact op_notin_str pins s σ H _ _ v u Q I rx ry ⟨_, _, rfl, rfl, q'⟩
      | false => exact op_in_str pins s σ H _ _ v u Q I rx ry ⟨_, _, rfl, rfl, q'⟩
    | dic kvs =>
      have hi' : (if keyFor kvs d then R.ok (getKV kvs d).isSome else if tupFor kvs d then R.ok (getKV kvs d).isSome else .bad) = .ok k := by
        rw [← hi]; cases d <;> rfl
      by_cases hkf : keyFor kvs d = true
      case neg =>
        rw [if_neg hkf] at hi'
        split at hi' <;> cases hi'
        rename_i hk
        unfold tupFor at hk
        rw [Bool.and_eq_true] at hk
        have ht := hk.1
        unfold tupKey at ht
        rw [Bool.and_eq_true] at ht
        cases d <;> simp only [isTup] at ht <;> try (exact absurd ht.1 Bool.false_ne_true)
        obtain ⟨a, rfl, ha⟩ := bye.dic
        obtain rfl : u = Value.ref a := ry
        have hbx := bx.rep
        cases hbx with
        | tup sq rs =>
          rename_i b vs
          obtain rfl : v = Value.ref b := rx
          have done : ∀ es, RawRd X.prog X.w H a es → RepT X.prog X.w X.K (hid H W) es kvs → wpAny (model X.prog X.w) X.A (compareOp (if neg then .NotIn else .In) (.ref b) (.ref a)) (EP X pins σ Q) X.xe s := fun es g hr =>
            d_inT neg (by omega) I hid_le (Same.refl H) g hr (.tup sq rs) hk.1 fun s' I' => ⟨.bl _, H, I', rfl, q'⟩
          rcases ha with ⟨kk, hd, hr⟩ | ⟨es, hd, _, hr⟩
          · cases hr with
            | nil => exact done [] (.inr ⟨hd, rfl⟩) .nil
            | cons z r1 r2 =>
              rename_i k0 _ _ _ _
              have := hk.2
              rw [List.all_eq_true] at this
              have := this _ List.mem_cons_self
              unfold tupKey at this
              rw [Bool.and_eq_true] at this
              have := this.1
              cases k0 <;> cases this
          · exact done es (.inl hd) hr
      rw [if_pos hkf] at hi'
      cases hi'
      have hk := hkf
      unfold keyFor at hk
      rw [Bool.and_eq_true] at hk
      obtain ⟨key, rfl, rfl, kz⟩ := key_flat bx hk.1
      obtain ⟨a, kk, rfl, hd, hr⟩ := dic_flat bye hk.2
      obtain ⟨v1, v2⟩ := repK_val key hr
      have hv : (valV kk key).isSome = (getKV kvs (keyD key)).isSome := by
        cases hg : getKV kvs (keyD key) with
        | none => rw [v2 hg]; rfl
        | some z => obtain ⟨z', e1, _⟩ := v1 z hg; rw [e1]; rfl
      obtain rfl : u = Value.ref a := ry
      have g : DGet H a (kV key) (valV kk key) := .inl ⟨kk, key, hd, rfl, rfl⟩
      cases neg with
      | true => exact d_notIn (by omega) I g rx fun s' I' => ⟨.bl _, H, I', rfl, by rw [hv]; exact q'⟩
      | false => exact d_in (by omega) I g rx fun s' I' => ⟨.bl _, H, I', rfl, by rw [hv]; exact q'⟩
    | _ => cases d <;> simp [inD] at hi
  cases op with
  | eq => exact op_eqM (P := X.prog) (w := X.w) (by omega) pins s σ H x y v u Q I rx ry ⟨d, e, b, bx.rep, bye.rep, hc, q'⟩
  | ne =>
    obtain ⟨b', e1, e2⟩ := R.bind_eq_ok.mp hc
    cases e2
    exact op_neM (P := X.prog) (w := X.w) (by omega) pins s σ H x y v u Q I rx ry ⟨d, e, b', bx.rep, bye.rep, e1, q'⟩
  | lt =>
    cases d <;> cases e <;> simp only [cmpD] at hc <;> cases hc
    · cases bx.int; cases bye.int
      exact op_lt pins s σ H _ _ v u Q I rx ry ⟨_, _, rfl, rfl, q'⟩
    · obtain ⟨rfl, _⟩ := bx.str
      obtain ⟨rfl, _⟩ := bye.str
      exact op_lt_str pins s σ H _ _ v u Q I rx ry ⟨_, _, rfl, rfl, q'⟩
  | le =>
    cases d <;> cases e <;> simp only [cmpD] at hc <;> cases hc
    cases bx.int; cases bye.int
    exact op_le pins s σ H _ _ v u Q I rx ry ⟨_, _, rfl, rfl, q'⟩
  | gt =>
    cases d <;> cases e <;> simp only [cmpD] at hc <;> cases hc
    cases bx.int; cases bye.int
    exact op_gt pins s σ H _ _ v u Q I rx ry ⟨_, _, rfl, rfl, q'⟩
  | ge =>
    cases d <;> cases e <;> simp only [cmpD] at hc <;> cases hc
    cases bx.int; cases bye.int
    exact op_ge pins s σ H _ _ v u Q I rx ry ⟨_, _, rfl, rfl, q'⟩
  | isin => exact inS false b hc rfl
  | notin =>
    obtain ⟨b', e1, e2⟩ := R.bind_eq_ok.mp hc
    cases e2
    exact inS true b' e1 rfl
  | is =>
    cases e <;> simp only [cmpD] at hc <;> first | cases hc | skip
    obtain rfl := bye.non
    refine op_isN pins s σ H _ _ v u Q I rx ry ⟨rfl, ?_⟩
    rw [bx.non_iff]; exact q'
  | isnot =>
    cases e <;> simp only [cmpD] at hc <;> first | cases hc | skip
    obtain rfl := bye.non
    refine op_notN pins s σ H _ _ v u Q I rx ry ⟨rfl, ?_⟩
    rw [bx.non_iff]; exact q'
end
end MP
/-! Places, slices, built-ins and methods, by data. -/
namespace MP
open PySem PySem.Spec PyProof.Rows L2

section
variable {P : Program} {w : World} {K : PySem.W.Frag} {H : Hp} {W : List Addr} {v : V} {d : D}
/-- no owned part within -/
def Bor1 (P : Program) (w : World) (K : PySem.W.Frag) (H : Hp) (W : List Addr) (v : V) (d : D) : Prop := Rep P w K (hid H W) v d ∨ ∃ a, a ∈ W ∧ v = .ref a ∧ Root P w K H W a d
theorem Bor1.bor (h : Bor1 P w K H W v d) : Bor P w K H W v d := by
  rcases h with h | ⟨a, m, rfl, r⟩
  · exact .of_rep h
  · exact ⟨.li, some a, .li m r⟩
theorem Bor1.tup {ds : List D} (h : Bor1 P w K H W v (.tup ds)) : ∃ a vs, v = .ref a ∧ SqT K H a vs ∧ Reps P w K (hid H W) vs ds := by
  rcases h with h | ⟨a, m, rfl, r⟩
  · cases h with
    | tup a b => exact ⟨_, _, rfl, SqT.mono hid_le a, b⟩
  · cases r
theorem atD_get {ds : List D} {vs : List V} {F : Hp} {i : Int} (r : Reps P w K F vs ds) (h : atD ds i = .ok d) : ∃ v, atI vs i = some v ∧ Rep P w K F v d := by
  have hl := r.length
  unfold atD at h
  unfold atI ixN
  by_cases h0 : 0 ≤ i
  · rw [if_pos h0] at h
    cases e : ds[i.toNat]? with
    | none => rw [e] at h; cases h
    | some d' =>
      rw [e] at h; cases h
      have hlt := (List.getElem?_eq_some_iff.mp e).1
      obtain ⟨v, ev, rv⟩ := r.get e
      rw [if_pos h0, if_pos (by omega)]
      exact ⟨v, ev, rv⟩
  · rw [if_neg h0] at h
    split at h
    · rename_i h1
      cases e : ds[(i + ds.length).toNat]? with
      | none => rw [e] at h; cases h
      | some d' =>
        rw [e] at h; cases h
        obtain ⟨v, ev, rv⟩ := r.get e
        rw [if_neg h0, if_pos (by omega), hl]
        exact ⟨v, ev, rv⟩
    · cases h
theorem atD_str {cs : List Nat} {c : Nat} {i : Int} (h : atD cs i = .ok c) : atI cs i = some c := by
  unfold atD at h
  unfold atI ixN
  by_cases h0 : 0 ≤ i
  · rw [if_pos h0] at h
    cases e : cs[i.toNat]? with
    | none => rw [e] at h; cases h
    | some d' =>
      rw [e] at h; cases h
      have hlt := (List.getElem?_eq_some_iff.mp e).1
      rw [if_pos h0, if_pos (by omega)]
      exact e
  · rw [if_neg h0] at h
    split at h
    · rename_i h1
      cases e : cs[(i + cs.length).toNat]? with
      | none => rw [e] at h; cases h
      | some d' =>
        rw [e] at h; cases h
        rw [if_neg h0, if_pos (by omega)]
        exact e
    · cases h
theorem reps_cut {vs : List V} {ds : List D} {F : Hp} (r : Reps P w K F vs ds) (lo hi : Option Int) : Reps P w K F (cutV vs lo hi) (sliceL ds lo hi) := by
  unfold cutV sliceL
  rw [r.length]
  exact (r.drop _).take _
theorem reps_ints {F : Hp} : ∀ {vs : List V} {ds : List D} {ns : List Int}, Reps P w K F vs ds → intsOf ds = some ns → vs = ns.map V.int
  | _, _, ns, .nil, h => by simp [intsOf] at h; subst h; rfl
  | _, _, ns, .cons (d := d) a b, h => by
    cases d <;> simp only [intsOf] at h <;> first | cases h | skip
    cases e : intsOf _ with
    | none => rw [e] at h; cases h
    | some m =>
      rw [e] at h; cases h
      cases a
      rw [reps_ints b e]; rfl
theorem reps_strs {F : Hp} : ∀ {vs : List V} {ds : List D} {ns : List Str}, Reps P w K F vs ds → strsOf ds = some ns → vs = ns.map V.str
  | _, _, ns, .nil, h => by simp [strsOf] at h; subst h; rfl
  | _, _, ns, .cons (d := d) a b, h => by
    cases d <;> simp only [strsOf] at h <;> first | cases h | skip
    cases e : strsOf _ with
    | none => rw [e] at h; cases h
    | some m =>
      rw [e] at h; cases h
      cases a
      rw [reps_strs b e]; rfl
theorem reps_bls {F : Hp} : ∀ {vs : List V} {ds : List D} {ns : List Bool}, Reps P w K F vs ds → blsOf ds = some ns → vs = ns.map V.bl
  | _, _, ns, .nil, h => by simp [blsOf] at h; subst h; rfl
  | _, _, ns, .cons (d := d) a b, h => by
    cases d <;> simp only [blsOf] at h <;> first | cases h | skip
    cases e : blsOf _ with
    | none => rw [e] at h; cases h
    | some m =>
      rw [e] at h; cases h
      cases a
      rw [reps_bls b e]; rfl
theorem fold_max : ∀ (is : List Int) (i : Int), (is.foldl (fun a b => if b > a then b else a) i ∈ i :: is) ∧ ∀ y ∈ i :: is, y ≤ is.foldl (fun a b => if b > a then b else a) i
  | [], i => ⟨List.mem_cons_self, fun y h => by simp at h; subst h; exact Int.le_refl _⟩
  | j :: is, i => by
    rw [List.foldl_cons]
    obtain ⟨h1, h2⟩ := fold_max is (if j > i then j else i)
    refine ⟨?_, fun y hy => ?_⟩
    · rcases List.mem_cons.mp h1 with e | e
      · rw [e]
        by_cases q : j > i
        · rw [if_pos q]; exact List.mem_cons_of_mem _ List.mem_cons_self
        · rw [if_neg q]; exact List.mem_cons_self
      · exact List.mem_cons_of_mem _ (List.mem_cons_of_mem _ e)
    · have h3 := h2 (if j > i then j else i) List.mem_cons_self
      rcases List.mem_cons.mp hy with e | hy
      · subst e; refine Int.le_trans ?_ h3; split <;> omega
      · rcases List.mem_cons.mp hy with e | hy
        · subst e; refine Int.le_trans ?_ h3; split <;> omega
        · exact h2 y (List.mem_cons_of_mem _ hy)
end

section
variable {X : Cx} {P : Program} {w : World}
/-- a place: the item is shared -/
def rIdx (P : Program) (w : World) (K : PySem.W.Frag) : R2 := fun x y H Q => ∃ W d e r, (∀ a ∈ W, H a ≠ none) ∧ Bor1 P w K H W x d ∧ Bor P w K H W y e ∧ idxD d e = .ok r ∧ ∀ v H', Same H H' → Rep P w K (hid H' W) v r → Q v H'
theorem ix_M (hu : X.A.units + 110 < cLine) : IxR X (rIdx P w X.K) := by
  intro value slice pins s σ H x y v u Q I rx ry h hs
  obtain ⟨W, d, e, r, hw, bx, bye, hf, q⟩ := h
  cases d with
  | lst xs =>
    cases e <;> simp only [idxD] at hf <;> first | cases hf | skip
    cases bye.int
    obtain ⟨a, vs, rfl, ha, hr⟩ := bx.bor.lst
    obtain ⟨z, ez, rz⟩ := atD_get hr hf
    exact ix_list value slice pins s σ H _ _ v u Q I rx ry ⟨a, vs, _, z, rfl, rfl, .inl ha, ez, q _ _ (Same.refl H) rz⟩ hs
  | tup xs =>
    cases e <;> simp only [idxD] at hf <;> first | cases hf | skip
    cases bye.int
    obtain ⟨a, vs, rfl, ha, hr⟩ := bx.tup
    obtain ⟨z, ez, rz⟩ := atD_get hr hf
    exact ix_tup value slice pins s σ H _ _ v u Q I rx ry ⟨a, vs, _, z, rfl, rfl, ha, ez, q _ _ (Same.refl H) rz⟩ hs
  | str z =>
    cases e <;> simp only [idxD] at hf <;> first | cases hf | skip
    cases bye.int
    obtain ⟨rfl, hz⟩ := bx.bor.str
    obtain ⟨c, ec, er⟩ := R.bind_eq_ok.mp hf
    cases er
    exact ix_str value slice pins s σ H _ _ v u Q I rx ry ⟨z, _, c, rfl, rfl, hz, atD_str ec, q _ _ (Same.refl H) (.str _ (by rw [sizeLine_eq]; show 1 ≤ _; decide))⟩ hs
  | dic kvs =>
    simp only [idxD] at hf
    split at hf
    · rename_i hk
      unfold keyFor at hk
      rw [Bool.and_eq_true] at hk
      obtain ⟨key, rfl, rfl, kz⟩ := key_flat bye hk.1
      obtain ⟨a, kk, rfl, hd, hr⟩ := dic_flat bx.bor hk.2
      obtain ⟨v1, v2⟩ := repK_val key hr
      cases hg : getKV kvs (keyD key) with
      | none => rw [hg] at hf; cases hf
      | some z =>
        rw [hg] at hf; cases hf
        obtain ⟨z', e1, rz⟩ := v1 _ hg
        obtain rfl : v = Value.ref a := rx
        have g : DGet H a (kV key) (some z') := .inl ⟨kk, key, hd, rfl, e1.symm⟩
        exact tail_any (dict_typeIs I g) PySem.F.slot_dict_getitem.lookup (d_getItem (by omega) I g ry fun w' s3 I3 rw' => ⟨z', H, I3, rw', q _ _ (Same.refl H) rz⟩) hs
    · cases hf
  | _ => simp [idxD] at hf
/-- a slice -/
def rSli (P : Program) (w : World) (K : PySem.W.Frag) : V → Option Int → Option Int → Hp → VK → Prop := fun x lo hi H Q => ∃ W d r, (∀ a ∈ W, H a ≠ none) ∧ Bor1 P w K H W x d ∧ sliD d lo hi = .ok r ∧ ∀ v H', Same H H' → Rep P w K (hid H' W) v r → Q v H'
theorem sl_M : SlR X (rSli P w X.K) := by
  intro pins s σ H x v vl vu lo hi sl Q I rx hs pl pu h
  obtain ⟨W, d, r, hw, bx, hf, q⟩ := h
  cases d with
  | lst xs =>
    cases hf
    obtain ⟨a, vs, rfl, ha, hr⟩ := bx.bor.lst
    exact sl_list pins s σ H _ v vl vu lo hi sl Q I rx hs pl pu ⟨a, vs, rfl, .inl ha, fun p hp => q _ _ (same_new hp) ((res_lst hp (reps_cut hr lo hi)).to_s hw (same_new hp) (by decide))⟩
  | tup xs =>
    cases hf
    obtain ⟨a, vs, rfl, ha, hr⟩ := bx.tup
    refine sl_tupA pins s σ H _ v vl vu lo hi sl Q I rx hs pl pu ⟨a, vs, rfl, ha, fun hwh => q _ _ (Same.refl H) ?_, fun _ p hp => q _ _ (same_new hp) (res_tup hp hw (reps_cut hr lo hi))⟩
    have e : sliceL xs lo hi = xs := by
      unfold sliceL
      rw [hr.length] at hwh
      rw [hwh.1, hwh.2, List.drop_zero, Nat.sub_zero, List.take_of_length_le (Nat.le_refl _)]
    rw [e]
    rcases bx with b | ⟨a', _, _, r'⟩
    · exact b
    · cases r'
  | str z =>
    cases hf
    obtain ⟨rfl, hz⟩ := bx.bor.str
    exact sl_str pins s σ H _ v vl vu lo hi sl Q I rx hs pl pu ⟨z, rfl, hz, q _ _ (Same.refl H) (.str _ (Nat.le_trans (cutS_length z lo hi) hz))⟩
  | scr ns =>
    cases hf
    cases bx.bor.rep with
    | scr ha =>
      refine sl_list pins s σ H _ v vl vu lo hi sl Q I rx hs pl pu ⟨_, _, rfl, ha, fun p hp => q _ _ (same_new hp) ((res_lst hp ?_).to_s hw (same_new hp) (by decide))⟩
      have allI : ∀ l : List Int, Reps P w X.K (hid H W) (l.map V.int) (l.map D.int) := fun l => by
        induction l with
        | nil => exact .nil
        | cons a l ih => exact .cons (.int a) ih
      have e : cutV (ns.map V.int) lo hi = (sliceL ns lo hi).map V.int := by
        unfold cutV sliceL
        rw [List.length_map, ← List.map_drop, ← List.map_take]
      rw [e]
      exact allI _
  | _ => simp [sliD] at hf

/-! ### built-ins -/
def CF (X : Cx) (P : Program) (w : World) (f : Value) (g : List D → R D) (md : Md) : Prop := CallR X f (rF P w X.K g md)
theorem one {H : Hp} {W : List Addr} {xs : List V} {ds : List D} {f : List D → R D} {r : D} (hb : Bors P w X.K H W xs ds) (hf : f ds = .ok r) (h1 : ∀ e, f [] = .ok e → False) (h2 : ∀ a b l e, f (a :: b :: l) = .ok e → False) : ∃ x d, xs = [x] ∧ ds = [d] ∧ Bor P w X.K H W x d := by
  cases hb with
  | nil => exact (h1 _ hf).elim
  | cons a b =>
    cases b with
    | nil => exact ⟨_, _, rfl, rfl, a⟩
    | cons _ _ => exact (h2 _ _ _ _ hf).elim
theorem call_lenM : CF X P w (.builtin "len") (biD .len) .s := by
  intro pins s σ H xs us Q I r h
  obtain ⟨W, ds, e, hw, hb, hf, q⟩ := h
  obtain ⟨x, d, rfl, rfl, bx⟩ := one hb hf (fun _ z => nomatch z) (fun a b l e z => by cases a <;> simp [biD] at z)
  have fin : ∀ n : Int, e = .int n → Q (.int n) H := fun n z => by subst z; exact q _ _ (Same.refl H) (.int _)
  cases d <;> simp only [biD] at hf <;> try cases hf
  · obtain ⟨rfl, hz⟩ := bx.str
    exact call_len_str pins s σ H _ us Q I r ⟨_, rfl, hz, fin _ rfl⟩
  · obtain ⟨a, vs, rfl, ha, hr⟩ := bx.tup
    exact call_len_seq pins s σ H _ us Q I r ⟨a, vs, rfl, .inr ha, fin _ (by rw [hr.length])⟩
  · obtain ⟨a, vs, rfl, ha, hr⟩ := bx.lst
    exact call_len_seq pins s σ H _ us Q I r ⟨a, vs, rfl, .inl (.inl ha), fin _ (by rw [hr.length])⟩
theorem call_sortedL (hu : X.A.units + 110 < cLine) : CF X P w (.builtin "sorted") (biD .sorted) .l := by
  intro pins s σ H xs us Q I r h
  obtain ⟨W, ds, e, hw, hb, hf, q⟩ := h
  obtain ⟨x, d, rfl, rfl, bx⟩ := one hb hf (fun _ z => nomatch z) (fun a b l e z => by cases a <;> simp [biD] at z)
  cases d <;> simp only [biD] at hf <;> try cases hf
  unfold sortD at hf
  split at hf <;> cases hf
  rename_i hok
  obtain ⟨a, vs, rfl, ha, hr⟩ := bx.lst
  exact call_sortedM (P := P) (w := w) hu pins s σ H _ us Q I r ⟨a, vs, _, rfl, .inl ha, hr.mono hid_le, hok, fun ys p _ hy hp => q _ _ (same_new hp) (res_lst hp (hy _ hr))⟩
theorem call_tupleM : CallR X (.type "tuple") (fun vs H Q => ∃ W x d r, (∀ a ∈ W, H a ≠ none) ∧ vs = [x] ∧ Bor1 P w X.K H W x d ∧ biD .tuple [d] = .ok r ∧ ∀ v H', Same H H' → Rep P w X.K (hid H' W) v r → Q v H') := by
  intro pins s σ H xs us Q I r h
  obtain ⟨W, x, d, e, hw, rfl, bx, hf, q⟩ := h
  cases d <;> simp only [biD] at hf <;> try cases hf
  · obtain ⟨a, vs, rfl, ha, hr⟩ := bx.tup
    refine call_tuple_of pins s σ H _ us Q I r ⟨a, vs, rfl, .inr ⟨ha, q _ _ (Same.refl H) ?_⟩⟩
    rcases bx with bx | ⟨_, _, _, z⟩
    · exact bx
    · cases z
  · obtain ⟨a, vs, rfl, ha, hr⟩ := bx.bor.lst
    exact call_tuple_of pins s σ H _ us Q I r ⟨a, vs, rfl, .inl ⟨.inl ha, fun p hp => q _ _ (same_new hp) (res_tup hp hw hr)⟩⟩
theorem call_listM : CallR X (.type "list") (fun vs H Q => ∃ W x d r, (∀ a ∈ W, H a ≠ none) ∧ vs = [x] ∧ Bor1 P w X.K H W x d ∧ biD .list [d] = .ok r ∧ ∀ v H', Same H H' → Res P w X.K .l H H' W v r → Q v H') := by
  intro pins s σ H xs us Q I r h
  obtain ⟨W, x, d, e, hw, rfl, bx, hf, q⟩ := h
  cases d <;> simp only [biD] at hf <;> try cases hf
  · obtain ⟨a, vs, rfl, ha, hr⟩ := bx.tup
    exact call_list_of pins s σ H _ us Q I r ⟨a, vs, rfl, .inr ha, fun p hp => q _ _ (same_new hp) (res_lst hp hr)⟩
  · obtain ⟨a, vs, rfl, ha, hr⟩ := bx.bor.lst
    exact call_list_of pins s σ H _ us Q I r ⟨a, vs, rfl, .inl (.inl ha), fun p hp => q _ _ (same_new hp) (res_lst hp hr)⟩
theorem call_sumM (hc : X.calm = true) : CF X P w (.builtin "sum") (biD .sum) .s := by
  intro pins s σ H xs us Q I r h
  obtain ⟨W, ds, e, hw, hb, hf, q⟩ := h
  obtain ⟨x, d, rfl, rfl, bx⟩ := one hb hf (fun _ z => nomatch z) (fun a b l e z => by cases a <;> simp [biD] at z)
  cases d <;> simp only [biD] at hf <;> try cases hf
  obtain ⟨a, vs, rfl, ha, hr⟩ := bx.lst
  split at hf <;> cases hf
  rename_i ns hn
  have ev := reps_ints hr hn
  subst ev
  exact cr_sum hc pins s σ H _ us Q I r ⟨a, ns, rfl, .inl ha, q _ _ (Same.refl H) (.int _)⟩
theorem call_maxM (hc : X.calm = true) : CF X P w (.builtin "max") (biD .max) .s := by
  intro pins s σ H xs us Q I r h
  obtain ⟨W, ds, e, hw, hb, hf, q⟩ := h
  obtain ⟨x, d, rfl, rfl, bx⟩ := one hb hf (fun _ z => nomatch z) (fun a b l e z => by cases a <;> simp [biD] at z)
  cases d <;> simp only [biD] at hf <;> try cases hf
  obtain ⟨a, vs, rfl, ha, hr⟩ := bx.lst
  split at hf <;> cases hf
  rename_i i is hn
  have ev := reps_ints hr hn
  subst ev
  refine cr_max hc pins s σ H _ us Q I r ⟨a, i :: is, rfl, .inl ha, by simp, fun m hm hle => ?_⟩
  obtain ⟨f1, f2⟩ := fold_max is i
  have e : m = is.foldl (fun a b => if b > a then b else a) i := Int.le_antisymm (f2 m hm) (hle _ f1)
  rw [e]
  exact q _ _ (Same.refl H) (.int _)
theorem call_allM (hc : X.calm = true) : CF X P w (.builtin "all") (biD .all) .s := by
  intro pins s σ H xs us Q I r h
  obtain ⟨W, ds, e, hw, hb, hf, q⟩ := h
  obtain ⟨x, d, rfl, rfl, bx⟩ := one hb hf (fun _ z => nomatch z) (fun a b l e z => by cases a <;> simp [biD] at z)
  cases d <;> simp only [biD] at hf <;> try cases hf
  obtain ⟨a, vs, rfl, ha, hr⟩ := bx.lst
  split at hf <;> cases hf
  rename_i ns hn
  have ev := reps_bls hr hn
  subst ev
  exact cr_all hc pins s σ H _ us Q I r ⟨a, ns, rfl, .inl ha, q _ _ (Same.refl H) (.bl _)⟩
theorem call_intM : CF X P w (.type "int") (biD .int) .s := by
  intro pins s σ H xs us Q I r h
  obtain ⟨W, ds, e, hw, hb, hf, q⟩ := h
  obtain ⟨x, d, rfl, rfl, bx⟩ := one hb hf (fun _ z => nomatch z) (fun a b l e z => by cases a <;> simp [biD] at z)
  cases d <;> simp only [biD] at hf <;> try cases hf
  · cases bx.bl
    exact call_int1 pins s σ H _ us Q I r (.inr ⟨_, rfl, q _ _ (Same.refl H) (.int _)⟩)
  · obtain ⟨rfl, hz⟩ := bx.str
    split at hf
    · split at hf <;> cases hf
      rename_i n hn hl
      exact call_int_str pins s σ H _ us Q I r ⟨_, n, rfl, hn, hl, q _ _ (Same.refl H) (.int _)⟩
    · cases hf
theorem call_ordM : CF X P w (.builtin "ord") (biD .ord) .s := by
  intro pins s σ H xs us Q I r h
  obtain ⟨W, ds, e, hw, hb, hf, q⟩ := h
  obtain ⟨x, d, rfl, rfl, bx⟩ := one hb hf (fun _ z => nomatch z) (fun a b l e z => by cases a <;> simp [biD] at z)
  cases d <;> simp only [biD] at hf <;> try cases hf
  obtain ⟨rfl, hz⟩ := bx.str
  split at hf <;> cases hf
  rename_i h1
  exact call_ord pins s σ H _ us Q I r ⟨_, rfl, h1, q _ _ (Same.refl H) (.int _)⟩
/-- isinstance -/
theorem tyx_of {H : Hp} {v : V} {d : D} (h : Rep P w X.K H v d) : (match d with
    | .non => TyX X.K H v (.type "NoneType") | .bl _ => TyX X.K H v (.type "bool") | .int _ => TyX X.K H v (.type "int") | .str _ => TyX X.K H v (.type "str")
    | .tup _ => TyX X.K H v (.type "tuple") | .lst _ => TyX X.K H v (.type "list") | .dic _ => True | .scr _ => True) := by
  cases h with
  | non => exact .base .non
  | bl b => exact .base (.bl b)
  | int i => exact .base (.int i)
  | str x _ => exact .base (.str x)
  | tup a _ =>
    rcases a with (a | ⟨o, a⟩) | ⟨o, its, n, a, c, _⟩
    · exact .base (.tup a)
    · exact .fTuple a
    · exact .kTuple a c
  | lst a _ =>
    rcases a with a | ⟨o, a⟩
    · exact .base (.lst a)
    · exact .base (.frz a)
  | dic => trivial
  | dicT => trivial
  | scr => trivial
def isiT : BI → String
  | .isInt => "int"
  | .isBool => "bool"
  | .isStr => "str"
  | .isTuple => "tuple"
  | _ => "list"
def isIsi : BI → Bool
  | .isInt => true
  | .isBool => true
  | .isStr => true
  | .isTuple => true
  | .isList => true
  | _ => false
def noDic : D → Bool
  | .dic _ => false
  | .scr _ => false
  | _ => true
theorem call_isM (b : BI) (hb : isIsi b = true) : CallR X (.builtin "isinstance") (fun vs H Q => ∃ x d r, vs = [x, .ty (isiT b)] ∧ Rep P w X.K H x d ∧ noDic d = true ∧ biD b [d] = .ok r ∧ ∀ k, r = .bl k → Q (.bl k) H) := by
  intro pins s σ H xs us Q I r h
  obtain ⟨x, d, e, rfl, bx, nd, hf, q⟩ := h
  have go : ∀ (t : String) (k : Bool), TyX X.K H x (.type t) → kitB t (isiT b) = some k → e = .bl k → wpAny (model X.prog X.w) X.A (call (.builtin "isinstance") us) (EP X pins σ Q) X.xe s := fun t k ty hk he =>
    call_isi pins s σ H _ us Q I r ⟨x, .ty (isiT b), _, _, k, rfl, .ty _, ty, kit_ty hk, q k he⟩
  have ty := tyx_of bx
  cases d with
  | dic _ => cases nd
  | scr _ => cases nd
  | non => cases b <;> simp only [isIsi] at hb <;> first | (cases hb; done) | (simp only [biD] at hf; cases hf; exact go _ _ ty (by decide +kernel) rfl)
  | bl _ => cases b <;> simp only [isIsi] at hb <;> first | (cases hb; done) | (simp only [biD] at hf; cases hf; exact go _ _ ty (by decide +kernel) rfl)
  | int _ => cases b <;> simp only [isIsi] at hb <;> first | (cases hb; done) | (simp only [biD] at hf; cases hf; exact go _ _ ty (by decide +kernel) rfl)
  | str _ => cases b <;> simp only [isIsi] at hb <;> first | (cases hb; done) | (simp only [biD] at hf; cases hf; exact go _ _ ty (by decide +kernel) rfl)
  | tup _ => cases b <;> simp only [isIsi] at hb <;> first | (cases hb; done) | (simp only [biD] at hf; cases hf; exact go _ _ ty (by decide +kernel) rfl)
  | lst _ => cases b <;> simp only [isIsi] at hb <;> first | (cases hb; done) | (simp only [biD] at hf; cases hf; exact go _ _ ty (by decide +kernel) rfl)

/-! ### methods -/
def MF (X : Cx) (P : Program) (w : World) (id : String) (g : D → List D → R D) (md : Md) : Prop :=
  MtR X id (fun x xs H Q => ∃ W d ds r, (∀ a ∈ W, H a ≠ none) ∧ Bor P w X.K H W x d ∧ Bors P w X.K H W xs ds ∧ g d ds = .ok r ∧ ∀ v H', Same H H' → Res P w X.K md H H' W v r → Q v H')
theorem joinL_len (S : List Nat) : ∀ parts : List (List Nat), (TL.joinL S parts).length ≤ (parts.map (·.length)).sum + parts.length * S.length
  | [] => by simp [TL.joinL]
  | [p] => by simp [TL.joinL]
  | p :: p2 :: r => by
    have ih := joinL_len S (p2 :: r)
    simp only [TL.joinL, List.length_append, List.map_cons, List.sum_cons, List.length_cons] at ih ⊢
    have e : (r.length + 1 + 1) * S.length = (r.length + 1) * S.length + S.length := by rw [Nat.succ_mul]
    omega
theorem join_len (a : Str) (ys : List Str) : (Txt.join a ys).length ≤ (ys.map (·.length)).sum + ys.length * a.length := by
  rw [TL.join_eq, TL.len_tl, TL.tl_join, TL.len_tl a]
  refine Nat.le_trans (joinL_len _ _) ?_
  rw [List.map_map, List.length_map]
  have e : ((fun l : List Nat => l.length) ∘ TL.tl) = fun y : Str => y.length := by funext y; exact (TL.len_tl y).symm
  rw [e]
  exact Nat.le_refl _
theorem mt_joinM : MF X P w "str.join" (meD .join) .s := by
  intro pins s σ H x xs v us Q I rx rxs h
  obtain ⟨W, d, ds, e, hw, bx, bxs, hf, q⟩ := h
  cases d <;> simp only [meD] at hf <;> first | cases hf | skip
  obtain ⟨rfl, hz⟩ := bx.str
  cases bxs with
  | nil => cases hf
  | cons b1 b2 =>
    cases b2 with
    | cons _ _ => rename_i d _ _ _ _ _ _; cases d <;> cases hf
    | nil =>
      rename_i y d
      cases d <;> simp only [meD] at hf <;> first | cases hf | skip
      · obtain ⟨a, vs, rfl, ha, hr⟩ := b1.tup
        split at hf
        · split at hf <;> cases hf
          rename_i ys hy hl
          have ev := reps_strs hr hy
          subst ev
          rw [lim_line, sizeLine_eq] at hl
          exact mt_join pins s σ H _ _ v us Q I rx rxs ⟨_, a, ys, rfl, rfl, .inr ha, hl, q _ _ (Same.refl H) (.str _ (Nat.le_trans (join_len _ _) (by rw [sizeLine_eq]; exact hl)))⟩
        · cases hf
      · obtain ⟨a, vs, rfl, ha, hr⟩ := b1.lst
        split at hf
        · split at hf <;> cases hf
          rename_i ys hy hl
          have ev := reps_strs hr hy
          subst ev
          rw [lim_line, sizeLine_eq] at hl
          exact mt_join pins s σ H _ _ v us Q I rx rxs ⟨_, a, ys, rfl, rfl, .inl (.inl ha), hl, q _ _ (Same.refl H) (.str _ (Nat.le_trans (join_len _ _) (by rw [sizeLine_eq]; exact hl)))⟩
        · cases hf
theorem mt_findM : MF X P w "str.find" (meD .find) .s := by
  intro pins s σ H x xs v us Q I rx rxs h
  obtain ⟨W, d, ds, e, hw, bx, bxs, hf, q⟩ := h
  cases d <;> simp only [meD] at hf <;> first | cases hf | skip
  obtain ⟨rfl, hz⟩ := bx.str
  cases bxs with
  | nil => cases hf
  | cons b1 b2 =>
    cases b2 with
    | cons _ _ => rename_i d _ _ _ _ _ _; cases d <;> cases hf
    | nil =>
      rename_i y d
      cases d <;> simp only [meD] at hf <;> first | cases hf | skip
      obtain ⟨rfl, _⟩ := b1.str
      exact mt_find pins s σ H _ _ v us Q I rx rxs ⟨_, _, rfl, rfl, q _ _ (Same.refl H) (.int _)⟩
end
section
variable {P : Program} {w : World} {K : PySem.W.Frag} {F : Hp}
theorem keyD_eq {a b : Key} : decide (keyD a = keyD b) = decide (a = b) := by
  by_cases h : a = b
  · subst h; simp
  · rw [decide_eq_false h, decide_eq_false fun e => h (keyD_inj e)]
theorem RepK.append : ∀ {vs us : List (Key × V)} {ds es : List (MP.D × MP.D)}, RepK P w K F vs ds → RepK P w K F us es → RepK P w K F (vs ++ us) (ds ++ es)
  | _, _, _, _, .nil, t => t
  | _, _, _, _, .cons z a b, t => .cons z a (RepK.append b t)
theorem RepK.any (k : Key) : ∀ {vs : List (Key × V)} {ds : List (MP.D × MP.D)}, RepK P w K F vs ds → (vs.any fun kv => decide (kv.1 = k)) = ds.any fun p => decide (p.1 = keyD k)
  | _, _, .nil => rfl
  | _, _, .cons (k := k') z a b => by rw [List.any_cons, List.any_cons, RepK.any k b, keyD_eq]
theorem RepK.mapK (k : Key) {v : V} {d : MP.D} (r : Rep P w K F v d) : ∀ {vs : List (Key × V)} {ds : List (MP.D × MP.D)}, RepK P w K F vs ds → RepK P w K F (vs.map fun kv => if kv.1 = k then (kv.1, v) else kv) (ds.map fun p => if p.1 = keyD k then (p.1, d) else p)
  | _, _, .nil => .nil
  | _, _, .cons (k := k') z a b => by
    rw [List.map_cons, List.map_cons]
    by_cases h : k' = k
    · subst h
      rw [if_pos rfl, if_pos rfl]
      exact .cons z r (RepK.mapK _ r b)
    · rw [if_neg h, if_neg fun e => h (keyD_inj e)]
      exact .cons z a (RepK.mapK _ r b)
theorem RepK.put (k : Key) (kz : KeyZ k) {v : V} {d : MP.D} (r : Rep P w K F v d) {vs : List (Key × V)} {ds : List (MP.D × MP.D)} (h : RepK P w K F vs ds) : RepK P w K F (putK vs k v) (putKV ds (keyD k) d) := by
  unfold putK putKV
  rw [h.any k]
  split
  · exact h.mapK k r
  · exact h.append (.cons kz r .nil)
theorem RepK.length : ∀ {vs : List (Key × V)} {ds : List (MP.D × MP.D)}, RepK P w K F vs ds → vs.length = ds.length
  | _, _, .nil => rfl
  | _, _, .cons _ a b => by rw [List.length_cons, List.length_cons, RepK.length b]
end


section
variable {X : Cx} {P : Program} {w : World}
theorem merge_rep {F : Hp} {K : PySem.W.Frag} : ∀ {kvs : List (Key × V)} {ps : List (MP.D × MP.D)} {acc : List (Key × V)} {ds : List (MP.D × MP.D)}, RepK P w K F kvs ps → RepK P w K F acc ds → RepK P w K F (mergeK acc kvs) (putAll ds ps)
  | _, _, acc, ds, .nil, h => by unfold putAll mergeK; exact h
  | _, _, acc, ds, .cons (k := k) (v := v) (vs := vs) z a b, h => by
    unfold putAll
    exact merge_rep (kvs := vs) (acc := putK acc k v) b (RepK.put k z a h)
theorem pairs_rep {F : Hp} {K : PySem.W.Frag} : ∀ {vs : List V} {xs : List MP.D} {ps : List (MP.D × MP.D)}, Reps P w K F vs xs → pairsOf xs = some ps → (ps.all fun p => flatKey p.1) = true →
    ∃ (as : List Addr) (kvs : List (Key × V)), vs = as.map V.ref ∧ Paired (fun p kv => SqT K F p [kV kv.1, kv.2]) as kvs ∧ RepK P w K F kvs ps ∧ ∀ kv ∈ kvs, KeyZ kv.1
  | _, _, ps, .nil, h, _ => by
    cases h
    exact ⟨[], [], rfl, .nil, .nil, fun _ m => nomatch m⟩
  | _, _, ps, .cons (d := d) a b, h, hf => by
    have hd : ∃ x y, d = .tup [x, y] := by
      cases d <;> first | (cases h; done) | skip
      rename_i l
      match l, h with
      | [], h => cases h
      | [_], h => cases h
      | [x, y], h => exact ⟨x, y, rfl⟩
      | _ :: _ :: _ :: _, h => cases h
    obtain ⟨x, y, rfl⟩ := hd
    simp only [pairsOf] at h
    obtain ⟨qs, hq, rfl⟩ := Option.map_eq_some_iff.mp h
    rw [List.all_cons, Bool.and_eq_true] at hf
    obtain ⟨as, kvs, rfl, h1, h2, h3⟩ := pairs_rep b hq hf.2
    obtain ⟨p, vs', rfl, hp, hr⟩ := a.tup'
    cases hr with
    | @cons v1 _ _ _ r1 r2 =>
      cases r2 with
      | @cons v2 _ _ _ r3 r4 =>
        cases r4
        have hk : ∃ k : Key, v1 = kV k ∧ x = keyD k ∧ KeyZ k := by
          have hf1 : flatKey x = true := hf.1
          cases x <;> first | (cases hf1; done) | skip
          · cases r1; exact ⟨.inl _, rfl, rfl, (fun s e => nomatch e)⟩
          · cases r1 with
            | str _ e => exact ⟨.inr _, rfl, rfl, (fun s e' => by cases e'; exact e)⟩
        obtain ⟨k, rfl, rfl, kz⟩ := hk
        exact ⟨p :: as, (k, v2) :: kvs, rfl, .cons hp h1, .cons kz r3 h2, fun kv m => by
          rcases List.mem_cons.mp m with rfl | m
          · exact kz
          · exact h3 kv m⟩
theorem call_dictM (hc : X.calm = true) : CF X P w (.type "dict") (biD .dict) .l := by
  intro pins s σ H xs us Q I r h
  obtain ⟨W, ds, e, hw, hb, hf, q⟩ := h
  obtain ⟨x, d, rfl, rfl, bx⟩ := one hb hf (fun _ z => nomatch z) (fun a b l e z => by cases a <;> simp [biD] at z)
  cases d <;> simp only [biD] at hf <;> try cases hf
  · rename_i xs
    obtain ⟨a, vs, rfl, ha, hr⟩ := bx.lst
    split at hf
    · rename_i ps hp
      split at hf <;> cases hf
      rename_i hfl
      obtain ⟨as, kvs, rfl, h1, h2, h3⟩ := pairs_rep hr hp hfl
      refine call_dictP hc pins s σ H _ us Q I r ⟨a, as, kvs, rfl, .inl ha, ?_, fun p hp => q _ _ (same_new hp) (res_dic hp (merge_rep h2 .nil))⟩
      clear hp hr ha h2 h3
      induction h1 with
      | nil => exact .nil
      | cons a b ih => exact .cons (SqT.mono hid_le a) ih
    · cases hf
  · split at hf <;> cases hf
    rename_i hfl
    obtain ⟨a, kvs, rfl, h1, h2⟩ := dic_flat bx hfl
    exact call_dictD pins s σ H _ us Q I r ⟨a, kvs, rfl, h1, fun p hp => q _ _ (same_new hp) (res_dic hp h2)⟩
/-- what has no list within is no list of the asker's -/
theorem noL_rep {F G : Hp} {K : PySem.W.Frag} (hfg : ∀ a xs, Rd F a (.tup xs) → Rd G a (.tup xs)) : ∀ (n : Nat) {v : V} {d : MP.D}, Rep P w K F v d → noLN n d = true → Rep P w K G v d
  | n, _, _, .non, h => .non
  | n, _, _, .bl b, h => .bl b
  | n, _, _, .int b, h => .int b
  | n, _, _, .str b z, h => .str b z
  | 0, _, _, .tup a b, h => by simp [noLN] at h
  | n + 1, _, _, .tup (vs := vs) (ds := ds) a b, h => by
    rw [noLN, List.all_eq_true] at h
    refine .tup (a.imp (hfg _ _) id) ?_
    have go : ∀ {vs : List V} {ds : List MP.D}, Reps P w K F vs ds → (∀ x ∈ ds, noLN n x = true) → Reps P w K G vs ds := fun {vs ds} r => by
      induction ds generalizing vs with
      | nil => intro _; cases r; exact .nil
      | cons x xs ih =>
        intro hx
        cases r with
        | cons r1 r2 => exact .cons (noL_rep hfg n r1 (hx x List.mem_cons_self)) (ih r2 fun y m => hx y (List.mem_cons_of_mem _ m))
    exact go b h
  | n, _, _, .lst a b, h => by cases n <;> simp [noLN] at h
  | n, _, _, .dic a b, h => by cases n <;> simp [noLN] at h
  | n, _, _, .dicT a e b, h => by cases n <;> simp [noLN] at h
  | n, _, _, .scr a, h => by cases n <;> simp [noLN] at h
theorem rd_tup {H : Hp} {U W : List Addr} (hw : ∀ a ∈ W, ∃ o, H a = some o ∧ Mut (some o)) {a : Addr} {xs : List V} (h : Rd (hid H U) a (.tup xs)) : Rd (hid H W) a (.tup xs) := by
  rcases h with h | ⟨o, h⟩
  · obtain ⟨_, h2⟩ := hid_some.mp h
    refine .inl (hid_some.mpr ⟨fun m => ?_, h2⟩)
    obtain ⟨o, e, mu⟩ := hw a m
    rw [h2] at e; cases e; exact mu
  · obtain ⟨_, h2⟩ := hid_some.mp h
    refine .inr ⟨o, hid_some.mpr ⟨fun m => ?_, h2⟩⟩
    obtain ⟨o, e, mu⟩ := hw a m
    rw [h2] at e; cases e; exact mu
end
end MP
/-! Dicts whose keys are tuples: d[k] = v. -/
namespace MP
open PySem PySem.Spec PyProof.Rows L2

section
variable {X : Cx} {P : Program} {w : World} {H F : Hp} {pins : List (Addr × Obj)} {s : Shared} {σ : L2.St}
theorem repT_put {F : Hp} {K : PySem.W.Frag} {key : NestedKey} {kd vd : D} {b : Addr} {v : V} {u : Value} (hk : toKey kd = some key) (ht : isTup kd = true) (h8 : key.depth ≤ 8) (hb : Rep P w K F (.ref b) kd) (rv : RelV v u) (hv : Rep P w K F v vd) {es : List (NestedKey × Addr × Value)} {ds : List (D × D)}
    (r : RepT P w K F es ds) : RepT P w K F (storedH es key b u) (putKV ds kd vd) := by
  have e := repT_at hk r
  unfold storedH putKV
  rw [e]
  split
  · have go : ∀ {es : List (NestedKey × Addr × Value)} {ds : List (D × D)}, RepT P w K F es ds → RepT P w K F (es.map (putAt key u)) (ds.map fun p => if p.1 = kd then (p.1, vd) else p) := fun {es ds} r => by
      induction es generalizing ds with
      | nil => cases r; exact .nil
      | cons x es ih =>
        cases r with
        | @cons key' b' u' v' _ kd' d' ds' h1 h2 h3 h4 h5 h6 h7 =>
          rw [List.map_cons, List.map_cons]
          by_cases ek : key' = key
          · subst ek
            have z : kd' = kd := toKey_inj _ _ _ h1 hk
            subst z
            unfold putAt
            rw [if_pos rfl, if_pos rfl]
            exact .cons h1 h2 h3 h4 rv hv (ih h7)
          · have z : kd' ≠ kd := fun z => ek (by rw [z, hk] at h1; exact (Option.some.inj h1).symm)
            have e1 : putAt key u (key', b', u') = (key', b', u') := by unfold putAt; rw [if_neg ek]
            have e2 : (if (kd', d').1 = kd then ((kd', d').1, vd) else (kd', d')) = (kd', d') := if_neg z
            rw [e1, e2]
            exact .cons h1 h2 h3 h4 h5 h6 (ih h7)
    exact go r
  · have go : ∀ {es : List (NestedKey × Addr × Value)} {ds : List (D × D)}, RepT P w K F es ds → RepT P w K F (es ++ [(key, b, u)]) (ds ++ [(kd, vd)]) := fun {es ds} r => by
      induction es generalizing ds with
      | nil => cases r; exact .cons hk ht h8 hb rv hv .nil
      | cons x es ih =>
        cases r with
        | cons h1 h2 h3 h4 h5 h6 h7 => exact .cons h1 h2 h3 h4 h5 h6 (ih h7)
    exact go r
theorem repT_len {F : Hp} {K : PySem.W.Frag} : ∀ {es : List (NestedKey × Addr × Value)} {ds : List (D × D)}, RepT P w K F es ds → es.length = ds.length
  | _, _, .nil => rfl
  | _, _, .cons _ _ _ _ _ _ h => by rw [List.length_cons, List.length_cons, repT_len h]
theorem storedH_len (es : List (NestedKey × Addr × Value)) (k : NestedKey) (b : Addr) (u : Value) : (storedH es k b u).length ≤ es.length + 1 := by
  unfold storedH
  split
  · rw [List.length_map]; omega
  · rw [List.length_append]; exact Nat.le_refl _
theorem storedH_ne (es : List (NestedKey × Addr × Value)) (k : NestedKey) (b : Addr) (u : Value) : storedH es k b u ≠ [] := by
  unfold storedH
  split
  · rename_i h
    intro e
    have e := List.map_eq_nil_iff.mp e
    subst e
    cases h
  · simp
theorem d_setItemT {A : Around} {E : Value → Shared → Prop} {Q : Unit → Shared → Prop} {a b : Addr} {es : List (NestedKey × Addr × Value)} {ds : List (D × D)} {key : NestedKey} {kd : D} {r : Value} (hu : A.units + 10 < cLine) (I : L2.Inv X pins σ H s) (hF : Same F H) (g : RawAt X.prog X.w H a es)
    (hl : es.length < sizeLine) (hr : RepT P w X.K F es ds) (hb : Rep P w X.K F (.ref b) kd) (hk : toKey kd = some key) (h8 : key.depth ≤ 8) (h : ∀ s', L2.Inv X pins σ (upd H a (.ext (RawD X.prog X.w a (storedH es key b r)))) s' → Q () s') :
    wpAny (model X.prog X.w) A (setItem (.ref a) (.ref b) r) Q E s := by
  obtain ⟨hd, dd⟩ := rawAt_of I g (repT_is I hF hr)
  refine wpAny_setItem_heap (hsz := Nat.le_of_lt hl) (knd := nestedKind X.prog X.w) (by show A.units + 1 + 8 < cLine; omega) ⟨rep_nested I hF (.ref b) key hb hk rfl, h8⟩ dd fun h' dd' hs => h _ ?_
  obtain ⟨q, ents, ep, h1, h2, h3, h4, _, h5⟩ := dd'
  refine d_write I ?_ hs ⟨q, h1⟩ ⟨⟨hd, Nat.le_trans (storedH_len es key b r) hl, q, ents, ep, h1, h2, h3, h4, h5⟩, ⟨q, h1⟩, fun x y z keep => ?_⟩
  · rcases g with g | ⟨g, _⟩ <;> rw [g] <;> exact True.intro
  · obtain ⟨z1, z2, o, en, e, w1, w2⟩ := z
    exact ⟨z1, z2, o, en, e, keep o w1, w2⟩
def sPutX (P : Program) (w : World) (K : PySem.W.Frag) (td ty tv : TE) : TS := fun D σ H => tv σ H fun v H1 => td σ H1 fun x H2 => ty σ H2 fun y H3 => (∃ a H4, x = .ref a ∧ DPut H3 a y v H4 ∧ D.nx σ H4) ∨ rSetL x y v H3 (D.nx σ) ∨
  ∃ a b es ds key kd F, x = .ref a ∧ y = .ref b ∧ Same F H3 ∧ RawAt P w H3 a es ∧ es.length < sizeLine ∧ RepT P w K F es ds ∧ Rep P w K F (.ref b) kd ∧ toKey kd = some key ∧ key.depth ≤ 8 ∧ ∀ u, RelV v u → D.nx σ (upd H3 a (.ext (RawD P w a (storedH es key b u))))
theorem ps_putX {o i value : Expr} {td ty tv : TE} {pos pos' : Pos} (hu : X.A.units + 10 < cLine) (ho : PE X o td) (hi : PE X i ty) (hv : PE X value tv) (hs : swapsWith value (some (.Subscript o i pos')) pos.line X.env = pure false) :
    PS X (.Assign [.Subscript o i pos'] value pos) (sPutX X.prog X.w X.K td ty tv) := by
  refine ⟨fun pins s σ H D I h => ?_⟩
  refine wpAny_Assign_Subscript (thn (hv.run pins s σ H _ I h) fun r s1 ⟨v, H1, I1, rv, q1⟩ => thn (ho.run pins s1 σ H1 _ I1 q1) fun u s2 ⟨x, H2, I2, rx, q2⟩ => thn (hi.run pins s2 σ H2 _ I2 q2) fun iv s3 ⟨y, H3, I3, ry, q3⟩ => ?_) hs
  rcases q3 with ⟨a, H4, ex, g, q3⟩ | q3 | ⟨a, b, es, ds, key, kd, F, ex, ey, hF, g, hl, hr, hb, hk, h8, q3⟩
  · subst ex
    obtain rfl : u = Value.ref a := rx
    exact d_setItem (by omega) I3 g ry rv fun s4 I4 => ⟨σ, H4, I4, q3⟩
  · exact thn (set_list pins s3 σ H3 x y v u iv r _ I3 rx ry rv q3) fun _ s4 ⟨H4, I4, q4⟩ => ⟨σ, H4, I4, q4⟩
  · subst ex ey
    obtain rfl : u = Value.ref a := rx
    obtain rfl : iv = Value.ref b := ry
    exact d_setItemT hu I3 hF g hl hr hb hk h8 fun s4 I4 => ⟨σ, _, I4, q3 r rv⟩
theorem keyN_noL : ∀ (n : Nat) {d : D}, keyN n d = true → ∀ m, n ≤ m → noLN m d = true
  | n, .int _, _, m, _ => by cases m <;> rfl
  | n, .str _, _, m, _ => by cases m <;> rfl
  | 0, .tup xs, h, _, _ => by simp [keyN] at h
  | n + 1, .tup xs, h, m, hm => by
    obtain ⟨m, rfl⟩ : ∃ j, m = j + 1 := ⟨m - 1, by omega⟩
    have h : xs.all (keyN n) = true := by simpa only [keyN] using h
    rw [List.all_eq_true] at h
    rw [noLN, List.all_eq_true]
    exact fun x hx => keyN_noL n (h x hx) m (by omega)
  | n, .non, h, _, _ => by cases n <;> simp [keyN] at h
  | n, .bl _, h, _, _ => by cases n <;> simp [keyN] at h
  | n, .lst _, h, _, _ => by cases n <;> simp [keyN] at h
  | n, .dic _, h, _, _ => by cases n <;> simp [keyN] at h
  | n, .scr _, h, _, _ => by cases n <;> simp [keyN] at h
theorem tup_rep {P : Program} {w : World} {K : PySem.W.Frag} {H : Hp} {W : List Addr} {v : V} {d : D} (hw : ∀ a ∈ W, ∃ o, H a = some o ∧ Mut (some o)) (h : Rep P w K H v d) (hk : tupKey d = true) : Rep P w K (hid H W) v d := by
  unfold tupKey at hk
  rw [Bool.and_eq_true] at hk
  have e : Same H (hid H []) := fun a o h => hid_some.mpr ⟨(fun m => nomatch m), h⟩
  exact noL_rep (fun a xs r => rd_tup (U := []) hw r) 30 (h.mono e) (keyN_noL 8 hk.2 30 (by decide))
end
end MP
/-! The checker for expressions, and that what the evaluator tells is what Python does. -/
namespace MP
open PySem PySem.Spec PyProof.Rows L2

/-! ### the checker -/
def mdO : O → Md
  | .sh => .s
  | .li => .l
  | .tp k => .t k
  | .nl => .n
def ownV (own : List O) (i : Nat) : O := own.getD i .sh
section
variable (T : Str → Option Def) (own : List O)
def mdE : IE → Md
  | .var i => if ownV own i = .sh then .s else .b
  | .lst _ => .l
  | .edic => .l
  | .bin op _ _ => if op = .cat then .l else .s
  | .rev _ => .l
  | .call f _ => match T f with
    | some d => mdO d.ro
    | none => .b
  | .lend _ l _ => if l then .l else .s
  | .bi b _ => match b with
    | .dict => .l
    | .sorted => .l
    | .sortedKeys => .l
    | .sortedItems => .l
    | .list => .l
    | _ => .s
  | .comp _ _ _ _ => .l
  | _ => .s
/-- what can be shared -/
def sE (e : IE) : Bool := match mdE T own e with
  | .b => false
  | _ => true
/-- what has no owned part within -/
def oneE (e : IE) : Bool := match e with
  | .var i => match ownV own i with
    | .tp _ => false
    | _ => true
  | e => sE T own e
def visB (sc : Scope) (x : Str) : Bool := match sc.names.lookup x with
  | some .local => true
  | some .cell => true
  | some .free => true
  | _ => false
def glB (sc : Scope) (x : Str) : Bool := match sc.names.lookup x with
  | some .globalImplicit => true
  | _ => false
def biN : BI → Str
  | .dict => "dict" | .len => "len" | .sorted => "sorted" | .tuple => "tuple" | .list => "list" | .str => "str" | .int => "int" | .sum => "sum" | .max => "max" | .ord => "ord" | .all => "all"
  | _ => "isinstance"
def bltNames : List Str := ["len", "sorted", "tuple", "list", "str", "int", "sum", "max", "ord", "all", "isinstance", "bool", "range", "enumerate", "zip", "dict", "set"]
def bi1 : BI → Bool
  | .dict => true | .len => true | .sorted => true | .sum => true | .max => true | .ord => true | .all => true | .int => true
  | _ => false
def lineB (a c : Pos) : Bool := a.endLine == c.line
def strB (s : Str) : Bool := decide (s.length ≤ 100000)
def noRes (x : Str) : Bool := !(x == ("__debug__" : Str)) && !(x == ("__classdict__" : Str)) && !(x == ("__name__" : Str))
/-- a target of a comprehension: its own names with their places -/
def tgOwn (N : List Str) : IG → List (Str × Nat)
  | .nm i => [(N.getD i "", i)]
  | .tp is => is.map fun i => (N.getD i "", i)
def tgNm (N : List Str) (sc scope : Scope) (fnAll : Bool) (i : Nat) (e : Expr) : Bool := match e with
  | .Name x _ => N[i]? == some x && (sc.names.lookup x == some .local || (sc.names.lookup x == some .cell && (fnAll || scope.names.lookup x == some .cell)))
  | _ => false
def tgAll (N : List Str) (sc scope : Scope) (fnAll : Bool) : List Nat → List Expr → Bool
  | [], [] => true
  | i :: is, e :: es => tgNm N sc scope fnAll i e && tgAll N sc scope fnAll is es
  | _, _ => false
def ckG (N : List Str) (sc scope : Scope) (fnAll : Bool) (g : IG) (e : Expr) : Bool := match g with
  | .nm i => tgNm N sc scope fnAll i e && decide (ownV own i = .sh)
  | .tp is => match e with
    | .Tuple es _ _ => tgAll N sc scope fnAll is es && is.all fun i => decide (ownV own i = .sh)
    | _ => false
/-- no star, no set, no slice, no call without arguments -/
def okX : Expr → Bool
  | .Starred _ _ => false
  | .Set _ _ _ => false
  | .Slice _ _ _ _ => false
  | .SetComp _ _ _ _ => false
  | .DictComp _ _ _ _ _ => false
  | .Call (.Name _ _) [] [] _ => false
  | _ => true
mutual
def ckE (N : List Str) (sc : Scope) : IE → Expr → Bool
  | .var i, e => okX e && match e with
    | .Name x _ => N[i]? == some x && visB sc x && noRes x
    | _ => false
  | .int n, e => okX e && match e with
    | .Constant (.int m) _ _ => n == m
    | _ => false
  | .str n, e => okX e && match e with
    | .Constant (.str m) _ _ => n == m && strB n
    | _ => false
  | .bl n, e => okX e && match e with
    | .Constant (.bool m) _ _ => n == m
    | _ => false
  | .non, e => okX e && match e with
    | .Constant .none _ _ => true
    | _ => false
  | .tup es, e => okX e && match e with
    | .Tuple l _ _ => ckEs N sc true es l && decide (l.length ≤ 1000)
    | _ => false
  | .lst es, e => okX e && match e with
    | .List l _ => ckEs N sc true es l && decide (l.length ≤ 1000)
    | _ => false
  | .edic, e => okX e && match e with
    | .Dict [] [] _ => true
    | _ => false
  | .bin op a b, e => okX e && match e with
    | .BinOp x o y _ => decide (o = bop op) && ckE N sc a x && ckE N sc b y
    | _ => false
  | .neg a, e => okX e && match e with
    | .UnaryOp .USub x _ => ckE N sc a x
    | _ => false
  | .cmp op a b, e => okX e && match e with
    | .Compare x [o] [y] _ => decide (o = cop op) && ckE N sc a x && ckE N sc b y
    | _ => false
  | .chn o1 o2 a b c, e => okX e && match e with
    | .Compare x [p, q] [y, z] _ => decide (p = cop o1) && decide (q = cop o2) && ckE N sc a x && ckE N sc b y && ckE N sc c z
    | _ => false
  | .and es, e => okX e && match e with
    | .BoolOp .And (x :: l) _ => ckEs N sc false es (x :: l)
    | _ => false
  | .or es, e => okX e && match e with
    | .BoolOp .Or (x :: l) _ => ckEs N sc false es (x :: l)
    | _ => false
  | .not a, e => okX e && match e with
    | .UnaryOp .Not x _ => ckE N sc a x
    | _ => false
  | .ife c a b, e => okX e && match e with
    | .IfExp z x y _ => ckE N sc c z && ckE N sc a x && ckE N sc b y && sE T own a && sE T own b
    | _ => false
  | .idx a b, e => okX e && match e with
    | .Subscript x y _ => ckE N sc a x && ckE N sc b y && oneE T own a
    | _ => false
  | .sl a lo hi, e => okX e && match e with
    | .Subscript x (.Slice l h none _) _ => ckE N sc a x && ckO N sc lo l && ckO N sc hi h && oneE T own a
    | _ => false
  | .rev a, e => okX e && match e with
    | .Subscript x (.Slice none none (some (.UnaryOp .USub (.Constant (.int 1) _ _) _)) _) _ => ckE N sc a x
    | _ => false
  | .call f es, e => okX e && match e with
    | .Call (.Name x _) (a :: l) [] _ => x == f && glB sc x && noRes x && (T f).isSome && ckEs N sc true es (a :: l)
    | _ => false
  | .lend f l es, e => okX e && match e with
    | .Call (.Name x _) (a :: r) [] _ => x == f && glB sc x && noRes x && (match T f with
      | some d => (match d.ro with
        | .sh => !l
        | .li => l
        | .tp _ => false
        | .nl => false)
      | none => false) && ckEs N sc false es (a :: r)
    | _ => false
  | .bi b es, e => okX e && match es with
    | .cons a .nil => if b = .sortedKeys then (match e with
      | .Call (.Name x _) [.Call (.Attribute y nm ap) [] [] cp] [] _ => x == ("sorted" : Str) && glB sc x && nm == ("keys" : Str) && lineB ap cp && ckE N sc a y
      | _ => false) else if b = .sortedItems then (match e with
      | .Call (.Name x _) [.Call (.Attribute y nm ap) [] [] cp] [] _ => x == ("sorted" : Str) && glB sc x && nm == ("items" : Str) && lineB ap cp && ckE N sc a y
      | _ => false) else match e with
      | .Call (.Name x _) [y] [] _ => x == biN b && glB sc x && ckE N sc a y && (bi1 b || ((b == .tuple || b == .list) && oneE T own a))
      | .Call (.Name x _) [y, .Name t _] [] _ => x == ("isinstance" : Str) && glB sc x && isIsi b && ckE N sc a y && t == (isiT b : Str) && glB sc t
      | _ => false
    | _ => false
  | .me m a es, e => okX e && match es with
    | .cons b .nil => match e with
      | .Call (.Attribute x nm ap) [y] [] cp => lineB ap cp && ckE N sc a x && ckE N sc b y && ((m == .join && nm == ("join" : Str)) || (m == .find && nm == ("find" : Str)))
      | _ => false
    | .cons b (.cons c .nil) => match e with
      | .Call (.Attribute x nm ap) [y, z] [] cp => lineB ap cp && ckE N sc a x && ckE N sc b y && ckE N sc c z && m == .get && nm == ("get" : Str) && sE T own c
      | _ => false
    | _ => false
  | .comp g it c elt, e => okX e && match e with
    | .ListComp x [⟨tg, iter, ifs, 0⟩] scope _ => ckI N sc false tg it iter && ckG own N (relS scope sc) scope false g tg && blkC N sc scope (tgOwn N g) &&
        (match c with
          | .no => ifs.isEmpty
          | .yes ce => match ifs with
            | [z] => ckE N (relS scope sc) ce z
            | _ => false) && ckE N (relS scope sc) elt x && sE T own elt
    | _ => false
  | _, _ => false
def ckEs (N : List Str) (sc : Scope) (sh : Bool) : IEs → List Expr → Bool
  | .nil, l => l.isEmpty
  | .cons a es, l => match l with
    | x :: l => ckE N sc a x && (!sh || sE T own a) && ckEs N sc sh es l
    | _ => false
def ckO (N : List Str) (sc : Scope) : IO → Option Expr → Bool
  | .no, o => o.isNone
  | .yes a, o => match o with
    | some x => ckE N sc a x
    | _ => false
def ckI (N : List Str) (sc : Scope) (sh : Bool) (tg : Expr) : II → Expr → Bool
  | .of a, e => ckE N sc a e && (if sh then sE T own a else oneE T own a)
  | .rng1 a, e => match e with
    | .Call (.Name x _) [y] [] _ => x == ("range" : Str) && glB sc x && ckE N sc a y
    | _ => false
  | .rng2 a b, e => match e with
    | .Call (.Name x _) [y, z] [] _ => x == ("range" : Str) && glB sc x && ckE N sc a y && ckE N sc b z
    | _ => false
  | .zip a b, e => match e with
    | .Call (.Name x _) [y, z] [] _ => x == ("zip" : Str) && glB sc x && ckE N sc a y && ckE N sc b z && sE T own a && sE T own b && (match tg with
      | .Tuple _ _ _ => true
      | _ => false)
    | _ => false
  | _, _ => false
end
theorem ck_okX {N : List Str} {sc : Scope} {ie : IE} {e : Expr} (h : ckE T own N sc ie e = true) : okX e = true := by
  cases ie <;> unfold ckE at h <;> first | (cases h; done) | (rw [Bool.and_eq_true] at h; exact h.1)
end
section
variable {e : Expr} (h : okX e = true)
include h
theorem okX_star (es : List Expr) (env : PySem.Env) : starEach (e :: es) env = (false, eval e env) :: starEach es env := by
  cases e <;> first | rfl | (simp [okX] at h)
theorem okX_set (env : PySem.Env) (x : Value) : foldedSetIterable e env x = pure x := by
  cases e <;> first | rfl | (simp [okX] at h)
theorem okX_mark (op : CmpOp) : behindInMarks op e = false := by
  cases e <;> first | rfl | (simp [okX] at h)
theorem okX_swap (hl : ∀ a b c d, e ≠ .ListComp a b c d) (t : Option Expr) (l : Nat) (env : PySem.Env) : swapsWith e t l env = pure false := by
  cases e <;> first | rfl | (simp [okX] at h; done) | (exact absurd rfl (hl _ _ _ _))
theorem okX_ix : PlainIx e := by
  intro o i
  cases e <;> first | rfl | (simp [okX] at h)
theorem okX_base (attr : Str) (env : PySem.Env) : attributeBase e attr env (eval e env) = eval e env := by
  cases e with
  | Call f args kws pos =>
    cases f <;> first | rfl | skip
    cases args <;> first | rfl | skip
    cases kws <;> first | rfl | skip
    simp [okX] at h
  | _ => rfl
end
theorem plain_back : ∀ {es : List Expr} {env : PySem.Env} {pos : Pos}, (es.all okX) = true → (backTo pos (starEach es env)).any (·.1) = false
  | [], _, _, _ => rfl
  | e :: es, env, pos, h => by
    rw [List.all_cons, Bool.and_eq_true] at h
    rw [okX_star h.1]
    have ih := plain_back (env := env) (pos := pos) h.2
    show ((false, _) :: backTo pos (starEach es env)).any (·.1) = false
    rw [List.any_cons, ih]
    rfl
end MP
/-! What the evaluator tells of an expression is what Python does: each form by itself. -/
namespace MP
open PySem PySem.Spec PyProof.Rows L2

section
variable {X : Cx} {e tg : Expr} {es : List Expr}
theorem PEi {t u : TE} (h : PE X e t) (i : ∀ σ H Q, u σ H Q → t σ H Q) : PE X e u := ⟨fun pins s σ H Q I hw => h.run pins s σ H Q I (i σ H Q hw)⟩
theorem PTi {t u : TT} (h : PT X e t) (i : ∀ σ H Q, u σ H Q → t σ H Q) : PT X e u := ⟨fun pins s σ H Q I hw => h.run pins s σ H Q I (i σ H Q hw)⟩
theorem PWi {t u : TT} (h : PW X e t) (i : ∀ σ H Q, u σ H Q → t σ H Q) : PW X e u := ⟨fun wh pins s σ H Q I hw => h.run wh pins s σ H Q I (i σ H Q hw)⟩
theorem PAi {t u : TA} (h : PA X es t) (i : ∀ σ H Q, u σ H Q → t σ H Q) : PA X es u := ⟨fun pos pins s σ H Q I hw => h.run pos pins s σ H Q I (i σ H Q hw)⟩
theorem POi {o : Option Expr} {t u : TO} (h : PO X o t) (i : ∀ σ H Q, u σ H Q → t σ H Q) : PO X o u := ⟨fun pins s σ H Q I hw => h.run pins s σ H Q I (i σ H Q hw)⟩
end

section
variable (P : Program) (w : World) (K : PySem.W.Frag) (own : List O)
def tX (f : Env → R D) (md : Md) : TE := fun σ H Q => ∃ L W ρ Ro d, SR P w K own H L W σ ρ Ro ∧ f ρ = .ok d ∧ ∀ v H', Same H H' → Res P w K md H H' (L ++ W) v d → Q v H'
def tX1 (f : Env → R D) : TE := fun σ H Q => ∃ L W ρ Ro d, SR P w K own H L W σ ρ Ro ∧ f ρ = .ok d ∧ ∀ v H', Same H H' → Bor1 P w K H' (L ++ W) v d → Q v H'
def tXT (f : Env → R Bool) : TT := fun σ H Q => ∃ L W ρ Ro b, SR P w K own H L W σ ρ Ro ∧ f ρ = .ok b ∧ ∀ H', Same H H' → Q b H'
def tXs (f : Env → R (List D)) (sh : Bool) : TA := fun σ H Q => ∃ L W ρ Ro ds, SR P w K own H L W σ ρ Ro ∧ f ρ = .ok ds ∧
  ∀ vs H', Same H H' → Bors P w K H' (L ++ W) vs ds → (sh = true → Reps P w K (hid H' (L ++ W)) vs ds) → Q vs H'
def tXO (f : Env → R (Option Int)) : TO := fun σ H Q => ∃ L W ρ Ro b, SR P w K own H L W σ ρ Ro ∧ f ρ = .ok b ∧ ∀ H', Same H H' → Q b H'
end
abbrev PEX (X : Cx) (own : List O) (e : Expr) (f : Env → R D) (md : Md) : Prop := PE X e (tX X.prog X.w X.K own f md)
abbrev PEX1 (X : Cx) (own : List O) (e : Expr) (f : Env → R D) : Prop := PE X e (tX1 X.prog X.w X.K own f)
abbrev PTX (X : Cx) (own : List O) (e : Expr) (f : Env → R Bool) : Prop := PT X e (tXT X.prog X.w X.K own f)
abbrev PWX (X : Cx) (own : List O) (e : Expr) (f : Env → R Bool) : Prop := PW X e (tXT X.prog X.w X.K own f)
abbrev PAX (X : Cx) (own : List O) (es : List Expr) (f : Env → R (List D)) (sh : Bool) : Prop := PA X es (tXs X.prog X.w X.K own f sh)
abbrev POX (X : Cx) (own : List O) (o : Option Expr) (f : Env → R (Option Int)) : Prop := PO X o (tXO X.prog X.w X.K own f)

section
variable {P : Program} {w : World} {K : PySem.W.Frag} {own : List O} {H H' H1 : Hp} {L W : List Addr} {σ : L2.St} {ρ : Env} {Ro : Nat → Option Addr} {md : Md} {v : V} {d : D}
theorem none_back {a : Addr} (hs : Same H H1) (h : H1 a = none) : H a = none := by
  cases e : H a with
  | none => rfl
  | some o => rw [hs _ _ e] at h; cases h
theorem Res.back (hs : Same H H1) (h : Res P w K md H1 H' W v d) : Res P w K md H H' W v d := by
  cases md with
  | b => exact h
  | s => exact h
  | l => obtain ⟨a, e, n, r⟩ := h; exact ⟨a, e, none_back hs n, r⟩
  | t k => obtain ⟨a, n, r⟩ := h; exact ⟨a, none_back hs n, r⟩
  | n =>
    obtain ⟨a, vs, ds, e1, e2, n, h1, h2, h3, h4⟩ := h
    exact ⟨a, vs, ds, e1, e2, none_back hs n, h1, h2, h3, fun u m => by
      obtain ⟨b, us, e, n', h5⟩ := h4 u m
      exact ⟨b, us, e, none_back hs n', h5⟩⟩
theorem SR.hw (S : SR P w K own H L W σ ρ Ro) : ∀ a ∈ L ++ W, H a ≠ none := fun a m => by
  obtain ⟨o, e, _⟩ := S.wm a m
  exact ne_none_of e
theorem unbl_ok {d : D} {b : Bool} (h : unbl d = .ok b) : d = .bl b := by
  cases d <;> simp only [unbl] at h <;> cases h
  rfl
theorem unint_ok {d : D} {b : Int} (h : unint d = .ok b) : d = .int b := by
  cases d <;> simp only [unint] at h <;> cases h
  rfl
/-- one operand, two -/
theorem one_of {fa : Env → R D} {ma : Md} {x : D} (S : SR P w K own H L W σ ρ Ro) (hx : fa ρ = .ok x) {Z : V → Hp → Prop}
    (h : ∀ v H1, Same H H1 → Bor P w K H1 (L ++ W) v x → SR P w K own H1 L W σ ρ Ro → Z v H1) : tX P w K own fa ma σ H Z :=
  ⟨L, W, ρ, Ro, x, S, hx, fun v H1 s1 r => h v H1 s1 (r.to_b S.hw s1) (S.same s1)⟩
theorem two_of {fa fb : Env → R D} {ma mb : Md} {x y : D} (S : SR P w K own H L W σ ρ Ro) (hx : fa ρ = .ok x) (hy : fb ρ = .ok y) {Z : V → V → Hp → Prop}
    (h : ∀ v u H2, Same H H2 → Bor P w K H2 (L ++ W) v x → Bor P w K H2 (L ++ W) u y → SR P w K own H2 L W σ ρ Ro → Z v u H2) :
    tX P w K own fa ma σ H fun v H1 => tX P w K own fb mb σ H1 fun u H2 => Z v u H2 :=
  one_of S hx fun v H1 s1 bv S1 => one_of S1 hy fun u H2 s2 bu S2 => h v u H2 (s1.trans s2) (bv.mono s2) bu S2
end

section
variable {X : Cx} {own : List O} {a b c : Expr} {fa fb fc : Env → R D} {ma mb mc : Md} {pos : Pos}
theorem x_imp {f g : Env → R D} {md md' : Md} {e : Expr} (h : PEX X own e f md) (hf : ∀ r, g r = f r) (hm : md' = md) : PEX X own e g md' := by
  obtain rfl : g = f := funext hf
  subst hm
  exact h
theorem t_imp {f g : Env → R Bool} {e : Expr} (h : PTX X own e f) (hf : ∀ r, g r = f r) : PTX X own e g := by
  obtain rfl : g = f := funext hf
  exact h
theorem a_imp {f g : Env → R (List D)} {es : List Expr} {sh : Bool} (h : PAX X own es f sh) (hf : ∀ r, g r = f r) : PAX X own es g sh := by
  obtain rfl : g = f := funext hf
  exact h
theorem x_var {i : Nat} {x : Str} (hN : X.N[i]? = some x) (hv : Vis X.env.scope x) (hd : (x == ("__debug__" : Str)) = false) (hcd : (x == ("__classdict__" : Str)) = false) :
    PEX X own (.Name x pos) (varE i) (if ownV own i = .sh then .s else .b) :=
  PEi (pe_var hN hv hd hcd) fun σ H Q ⟨L, W, ρ, Ro, d, S, hf, q⟩ => by
    unfold varE at hf
    split at hf
    · rename_i d' e
      cases hf
      obtain ⟨v, ev, ow⟩ := S.val i d e
      refine ⟨v, ev, q v H (Same.refl H) ?_⟩
      by_cases ho : ownV own i = .sh
      · rw [if_pos ho]
        unfold ownV at ho
        rw [ho] at ow
        exact ow.none_of_sh.2
      · rw [if_neg ho]
        exact ⟨_, _, ow⟩
    · cases hf
theorem x_var1 {i : Nat} {x : Str} (hN : X.N[i]? = some x) (hv : Vis X.env.scope x) (hd : (x == ("__debug__" : Str)) = false) (hcd : (x == ("__classdict__" : Str)) = false) (ho : ∀ k, ownV own i ≠ .tp k) :
    PEX1 X own (.Name x pos) (varE i) :=
  PEi (pe_var hN hv hd hcd) fun σ H Q ⟨L, W, ρ, Ro, d, S, hf, q⟩ => by
    unfold varE at hf
    split at hf
    · rename_i d' e
      cases hf
      obtain ⟨v, ev, ow⟩ := S.val i d e
      refine ⟨v, ev, q v H (Same.refl H) ?_⟩
      unfold ownV at ho
      generalize own.getD i .sh = o at ow ho
      generalize Ro i = ri at ow
      cases ow with
      | sh r => exact .inl r
      | li m r => exact .inr ⟨_, m, rfl, r⟩
      | tp => exact absurd rfl (ho _)
    · cases hf
theorem x_one {e : Expr} {f : Env → R D} {md : Md} (h : PEX X own e f md) (hm : md ≠ .b) : PEX1 X own e f :=
  PEi h fun σ H Q ⟨L, W, ρ, Ro, d, S, hf, q⟩ => ⟨L, W, ρ, Ro, d, S, hf, fun v H' hs r => q v H' hs (.inl (r.to_s S.hw hs hm))⟩
theorem x_int {i : Int} {j : Nat} : PEX X own (.Constant (.int i) j pos) (fun _ => .ok (.int i)) .s :=
  PEi pe_int fun σ H Q ⟨L, W, ρ, Ro, d, S, hf, q⟩ => by cases hf; exact q _ H (Same.refl H) (.int i)
theorem x_bl {i : Bool} {j : Nat} : PEX X own (.Constant (.bool i) j pos) (fun _ => .ok (.bl i)) .s :=
  PEi pe_bl fun σ H Q ⟨L, W, ρ, Ro, d, S, hf, q⟩ => by cases hf; exact q _ H (Same.refl H) (.bl i)
theorem x_non {j : Nat} : PEX X own (.Constant .none j pos) (fun _ => .ok .non) .s :=
  PEi pe_non fun σ H Q ⟨L, W, ρ, Ro, d, S, hf, q⟩ => by cases hf; exact q _ H (Same.refl H) .non
theorem x_str {i : Str} {j : Nat} (h : strB i = true) : PEX X own (.Constant (.str i) j pos) (fun _ => .ok (.str i)) .s :=
  PEi pe_str fun σ H Q ⟨L, W, ρ, Ro, d, S, hf, q⟩ => by
    cases hf
    refine q _ H (Same.refl H) (.str i ?_)
    unfold strB at h
    have := of_decide_eq_true h
    rw [sizeLine_eq]; omega

/-! arguments -/
theorem x_nil {sh : Bool} : PAX X own [] (fun _ => .ok []) sh := PAi pa_nil fun σ H Q ⟨L, W, ρ, Ro, ds, S, hf, q⟩ => by
  cases hf
  exact q [] H (Same.refl H) .nil fun _ => .nil
theorem x_cons {es : List Expr} {f : Env → R (List D)} {sh : Bool} (ha : PEX X own a fa ma) (hes : PAX X own es f sh) (hok : okX a = true) (hm : sh = true → ma ≠ .b) :
    PAX X own (a :: es) (fun r => (fa r).bind fun x => (f r).bind fun xs => .ok (x :: xs)) sh :=
  PAi (pa_cons ha hes (okX_star hok _ _)) fun σ H Q ⟨L, W, ρ, Ro, ds, S, hf, q⟩ => by
    obtain ⟨x, hx, hf⟩ := R.bind_eq_ok.mp hf
    obtain ⟨xs, hxs, hf⟩ := R.bind_eq_ok.mp hf
    cases hf
    refine ⟨L, W, ρ, Ro, x, S, hx, fun v H1 s1 r1 => ⟨L, W, ρ, Ro, xs, S.same s1, hxs, fun vs H2 s2 b2 r2 => ?_⟩⟩
    exact q _ H2 (s1.trans s2) (.cons ((r1.to_b S.hw s1).mono s2) b2) fun h => .cons ((r1.to_s S.hw s1 (hm h)).mono (hid_same s2)) (r2 h)
theorem x_args1 (ha : PEX X own a fa ma) (hok : okX a = true) : PAX X own [a] (fun r => (fa r).bind fun x => .ok [x]) false :=
  a_imp (x_cons ha x_nil hok (fun h => nomatch h)) fun r => by cases fa r <;> rfl
theorem x_tup {es : List Expr} {f : Env → R (List D)} {k : Nat} (h : PAX X own es f true) (hl : ∀ ρ ds, f ρ = .ok ds → ds.length ≤ 1000) : PEX X own (.Tuple es k pos) (fun r => (f r).bind fun ds => .ok (.tup ds)) .s :=
  PEi (pe_tup h) fun σ H Q ⟨L, W, ρ, Ro, d, S, hf, q⟩ => by
    obtain ⟨xs, hxs, hf⟩ := R.bind_eq_ok.mp hf
    cases hf
    refine ⟨L, W, ρ, Ro, xs, S, hxs, fun vs H1 s1 b1 r1 => ?_⟩
    have hl' := (r1 rfl).length
    have := hl _ _ hxs
    refine ⟨by rw [sizeLine_eq]; omega, fun p hp => q _ _ (s1.trans (same_new hp)) ?_⟩
    exact Res.back s1 (res_tup hp (S.same s1).hw (r1 rfl))
theorem x_lst {es : List Expr} {f : Env → R (List D)} (h : PAX X own es f true) (hl : ∀ ρ ds, f ρ = .ok ds → ds.length ≤ 1000) : PEX X own (.List es pos) (fun r => (f r).bind fun ds => .ok (.lst ds)) .l :=
  PEi (pe_lst h) fun σ H Q ⟨L, W, ρ, Ro, d, S, hf, q⟩ => by
    obtain ⟨xs, hxs, hf⟩ := R.bind_eq_ok.mp hf
    cases hf
    refine ⟨L, W, ρ, Ro, xs, S, hxs, fun vs H1 s1 b1 r1 => ?_⟩
    have hl' := (r1 rfl).length
    have := hl _ _ hxs
    refine ⟨by rw [sizeLine_eq]; omega, fun p hp => q _ _ (s1.trans (same_new hp)) ?_⟩
    exact Res.back s1 (res_lst hp (r1 rfl))
theorem x_edic : PEX X own (.Dict [] [] pos) (fun _ => .ok (.dic [])) .l :=
  PEi pe_dnewK fun σ H Q ⟨L, W, ρ, Ro, d, S, hf, q⟩ => by
    cases hf
    exact fun p hp => q _ _ (same_new hp) (res_dic hp .nil)

/-! operators -/
theorem x_bin (op : BOp) (ha : PEX X own a fa ma) (hb : PEX X own b fb mb) : PEX X own (.BinOp a (bop op) b pos) (fun r => (fa r).bind fun x => (fb r).bind fun y => binD op x y) (if op = .cat then .l else .s) :=
  PEi (pe_op (op_bin (P := X.prog) (w := X.w) op) ha hb) fun σ H Q ⟨L, W, ρ, Ro, d, S, hf, q⟩ => by
    obtain ⟨x, hx, hf⟩ := R.bind_eq_ok.mp hf
    obtain ⟨y, hy, hf⟩ := R.bind_eq_ok.mp hf
    exact two_of S hx hy fun v u H2 s2 bv bu S2 => ⟨L ++ W, [x, y], d, S2.hw, .cons bv (.cons bu .nil), hf, fun z H3 s3 r => q z H3 (s2.trans s3) (r.back s2)⟩
theorem x_neg (ha : PEX X own a fa ma) : PEX X own (.UnaryOp .USub a pos) (fun r => (fa r).bind fun x => (unint x).bind fun i => .ok (.int (-i))) .s :=
  PEi (pe_un un_neg ha) fun σ H Q ⟨L, W, ρ, Ro, d, S, hf, q⟩ => by
    obtain ⟨x, hx, hf⟩ := R.bind_eq_ok.mp hf
    obtain ⟨i, hi, hf⟩ := R.bind_eq_ok.mp hf
    cases hf
    cases unint_ok hi
    exact one_of S hx fun v H1 s1 bv S1 => ⟨i, bv.int, q _ H1 s1 (.int _)⟩
theorem x_cmp (hu : X.A.units + 110 < cLine) (op : CO) (ha : PEX X own a fa ma) (hb : PEX X own b fb mb) (hok : okX b = true) :
    PEX X own (.Compare a [cop op] [b] pos) (fun r => (fa r).bind fun x => (fb r).bind fun y => (cmpD op x y).bind fun k => .ok (.bl k)) .s :=
  PEi (pe_cmpR (op_cmp hu op) ha hb (okX_mark hok _)) fun σ H Q ⟨L, W, ρ, Ro, d, S, hf, q⟩ => by
    obtain ⟨x, hx, hf⟩ := R.bind_eq_ok.mp hf
    obtain ⟨y, hy, hf⟩ := R.bind_eq_ok.mp hf
    exact two_of S hx hy fun v u H2 s2 bv bu S2 => ⟨L ++ W, [x, y], d, S2.hw, .cons bv (.cons bu .nil), hf, fun z H3 s3 r => q z H3 (s2.trans s3) (r.back s2)⟩
theorem rep_bl {P : Program} {w : World} {K : PySem.W.Frag} {F : Hp} {v : V} {b : Bool} (h : Rep P w K F v (.bl b)) : v = .bl b := by cases h; rfl
theorem t_cmp (hu : X.A.units + 110 < cLine) (op : CO) (ha : PEX X own a fa ma) (hb : PEX X own b fb mb) (hok : okX b = true) :
    PTX X own (.Compare a [cop op] [b] pos) (fun r => (fa r).bind fun x => (fb r).bind fun y => cmpD op x y) :=
  PTi (pt_cmpR (op_cmp hu op) ha hb (okX_mark hok _)) fun σ H Q ⟨L, W, ρ, Ro, d, S, hf, q⟩ => by
    obtain ⟨x, hx, hf⟩ := R.bind_eq_ok.mp hf
    obtain ⟨y, hy, hf⟩ := R.bind_eq_ok.mp hf
    refine two_of S hx hy fun v u H2 s2 bv bu S2 => ⟨L ++ W, [x, y], .bl d, S2.hw, .cons bv (.cons bu .nil), ?_, fun z H3 s3 r => ⟨d, rep_bl r, q H3 (s2.trans s3)⟩⟩
    show (cmpD op x y).bind _ = _
    rw [hf]; rfl
theorem last_mark {op op' : CmpOp} {b c : Expr} (h : okX c = true) : lastMarks [op, op'] [b, c] = false := by
  show behindInMarks op' c = false
  exact okX_mark h _
theorem x_chn (hu : X.A.units + 110 < cLine) (o1 o2 : CO) (ha : PEX X own a fa ma) (hb : PEX X own b fb mb) (hc : PEX X own c fc mc) (hok : okX c = true) :
    PEX X own (.Compare a [cop o1, cop o2] [b, c] pos) (fun r => (fa r).bind fun x => (fb r).bind fun y => (cmpD o1 x y).bind fun k => if k then (fc r).bind fun z => (cmpD o2 y z).bind fun k => .ok (.bl k) else .ok (.bl false)) .s :=
  PEi (pe_chain (op_cmp hu o1) (op_cmp hu o2) ha hb hc (last_mark hok)) fun σ H Q ⟨L, W, ρ, Ro, d, S, hf, q⟩ => by
    obtain ⟨x, hx, hf⟩ := R.bind_eq_ok.mp hf
    obtain ⟨y, hy, hf⟩ := R.bind_eq_ok.mp hf
    obtain ⟨k, hk, hf⟩ := R.bind_eq_ok.mp hf
    refine two_of S hx hy fun v u H2 s2 bv bu S2 => ⟨L ++ W, [x, y], .bl k, S2.hw, .cons bv (.cons bu .nil), ?_, fun z H3 s3 r => ⟨k, rep_bl r, ?_⟩⟩
    · show (cmpD o1 x y).bind _ = _
      rw [hk]; rfl
    · cases k with
      | false => rw [if_neg (by decide)] at hf ⊢; cases hf; exact q _ H3 (s2.trans s3) (.bl false)
      | true =>
        rw [if_pos rfl] at hf ⊢
        obtain ⟨z', hz, hf⟩ := R.bind_eq_ok.mp hf
        exact one_of (S2.same s3) hz fun u' H4 s4 bu' S4 => ⟨L ++ W, [y, z'], d, S4.hw, .cons ((bu.mono s3).mono s4) (.cons bu' .nil), hf, fun z H5 s5 r => q z H5 ((s2.trans s3).trans (s4.trans s5)) (r.back ((s2.trans s3).trans s4))⟩
theorem t_chn (hu : X.A.units + 110 < cLine) (o1 o2 : CO) (ha : PEX X own a fa ma) (hb : PEX X own b fb mb) (hc : PEX X own c fc mc) (hok : okX c = true) :
    PTX X own (.Compare a [cop o1, cop o2] [b, c] pos) (fun r => (fa r).bind fun x => (fb r).bind fun y => (cmpD o1 x y).bind fun k => if k then (fc r).bind fun z => cmpD o2 y z else .ok false) :=
  PTi (pt_chain (op_cmp hu o1) (op_cmp hu o2) ha hb hc (last_mark hok)) fun σ H Q ⟨L, W, ρ, Ro, d, S, hf, q⟩ => by
    obtain ⟨x, hx, hf⟩ := R.bind_eq_ok.mp hf
    obtain ⟨y, hy, hf⟩ := R.bind_eq_ok.mp hf
    obtain ⟨k, hk, hf⟩ := R.bind_eq_ok.mp hf
    refine two_of S hx hy fun v u H2 s2 bv bu S2 => ⟨L ++ W, [x, y], .bl k, S2.hw, .cons bv (.cons bu .nil), ?_, fun z H3 s3 r => ⟨k, rep_bl r, ?_⟩⟩
    · show (cmpD o1 x y).bind _ = _
      rw [hk]; rfl
    · cases k with
      | false => rw [if_neg (by decide)] at hf ⊢; cases hf; exact ⟨false, rfl, q H3 (s2.trans s3)⟩
      | true =>
        rw [if_pos rfl] at hf ⊢
        obtain ⟨z', hz, hf⟩ := R.bind_eq_ok.mp hf
        refine one_of (S2.same s3) hz fun u' H4 s4 bu' S4 => ⟨L ++ W, [y, z'], .bl d, S4.hw, .cons ((bu.mono s3).mono s4) (.cons bu' .nil), ?_, fun z H5 s5 r => ⟨d, rep_bl r, q H5 ((s2.trans s3).trans (s4.trans s5))⟩⟩
        show (cmpD o2 y z').bind _ = _
        rw [hf]; rfl

/-! tests -/
theorem t_val (ha : PEX X own a fa ma) (he : ∀ whole, isTrue a X.env whole = (do let v ← whole; standAt a.pos; holding [v] (truthy v))) : PTX X own a (fun r => (fa r).bind unbl) :=
  PTi (pt_val ha he) fun σ H Q ⟨L, W, ρ, Ro, d, S, hf, q⟩ => by
    obtain ⟨x, hx, hf⟩ := R.bind_eq_ok.mp hf
    cases unbl_ok hf
    exact one_of S hx fun v H1 s1 bv S1 => ⟨d, bv.bl, q H1 s1⟩
theorem x_not (ha : PEX X own a fa ma) : PEX X own (.UnaryOp .Not a pos) (fun r => (fa r).bind fun x => (unbl x).bind fun b => .ok (.bl (!b))) .s :=
  PEi (pe_not ha) fun σ H Q ⟨L, W, ρ, Ro, d, S, hf, q⟩ => by
    obtain ⟨x, hx, hf⟩ := R.bind_eq_ok.mp hf
    obtain ⟨i, hi, hf⟩ := R.bind_eq_ok.mp hf
    cases hf
    cases unbl_ok hi
    exact one_of S hx fun v H1 s1 bv S1 => ⟨i, bv.bl, q _ H1 s1 (.bl _)⟩
theorem t_not {f : Env → R Bool} (ha : PTX X own a f) : PTX X own (.UnaryOp .Not a pos) (fun r => (f r).bind fun b => .ok (!b)) :=
  PTi (pt_not ha) fun σ H Q ⟨L, W, ρ, Ro, d, S, hf, q⟩ => by
    obtain ⟨x, hx, hf⟩ := R.bind_eq_ok.mp hf
    cases hf
    exact ⟨L, W, ρ, Ro, x, S, hx, q⟩
theorem x_ife {f : Env → R Bool} (hc : PTX X own c f) (ha : PEX X own a fa ma) (hb : PEX X own b fb mb) (h1 : ma ≠ .b) (h2 : mb ≠ .b) : PEX X own (.IfExp c a b pos) (fun r => (f r).bind fun k => if k then fa r else fb r) .s :=
  PEi (pe_ifExp hc ha hb) fun σ H Q ⟨L, W, ρ, Ro, d, S, hf, q⟩ => by
    obtain ⟨k, hk, hf⟩ := R.bind_eq_ok.mp hf
    refine ⟨L, W, ρ, Ro, k, S, hk, fun H1 s1 => ?_⟩
    cases k with
    | true =>
      rw [if_pos rfl] at hf ⊢
      exact ⟨L, W, ρ, Ro, d, S.same s1, hf, fun v H2 s2 r => q v H2 (s1.trans s2) (r.to_s (S.same s1).hw s2 h1)⟩
    | false =>
      rw [if_neg (by decide)] at hf ⊢
      exact ⟨L, W, ρ, Ro, d, S.same s1, hf, fun v H2 s2 r => q v H2 (s1.trans s2) (r.to_s (S.same s1).hw s2 h2)⟩
abbrev blR (f : Env → R Bool) : Env → R D := fun r => (f r).bind fun b => .ok (.bl b)
theorem x_bool1 {op : BoolOp} (ha : PEX X own a fa ma) : PEX X own (.BoolOp op [a] pos) (blR fun r => (fa r).bind unbl) .s :=
  PEi (pe_one ha) fun σ H Q ⟨L, W, ρ, Ro, d, S, hf, q⟩ => by
    obtain ⟨k, hk, hf⟩ := R.bind_eq_ok.mp hf
    obtain ⟨x, hx, hk⟩ := R.bind_eq_ok.mp hk
    cases hf
    cases unbl_ok hk
    exact one_of S hx fun v H1 s1 bv S1 => q v H1 s1 (by rw [bv.bl]; exact .bl k)
theorem x_and {g : Env → R Bool} {rest : List Expr} (ha : PEX X own a fa ma) (hb : PEX X own (.BoolOp .And (b :: rest) pos) (blR g) .s) :
    PEX X own (.BoolOp .And (a :: b :: rest) pos) (blR fun r => (fa r).bind fun x => (unbl x).bind fun k => if k then g r else .ok false) .s :=
  PEi (pe_and ha hb) fun σ H Q ⟨L, W, ρ, Ro, d, S, hf, q⟩ => by
    obtain ⟨k, hk, hf⟩ := R.bind_eq_ok.mp hf
    obtain ⟨x, hx, hk1⟩ := R.bind_eq_ok.mp hk
    obtain ⟨i, hi, hk2⟩ := R.bind_eq_ok.mp hk1
    cases hf
    cases unbl_ok hi
    refine one_of S hx fun v H1 s1 bv S1 => ⟨i, bv.bl, ?_⟩
    cases i with
    | true =>
      rw [if_pos rfl] at hk2 ⊢
      exact ⟨L, W, ρ, Ro, .bl k, S1, by show (g ρ).bind _ = _; rw [hk2]; rfl, fun v H2 s2 r => q v H2 (s1.trans s2) r⟩
    | false =>
      rw [if_neg (by decide)] at hk2 ⊢
      cases hk2
      exact q _ H1 s1 (.bl false)
theorem x_or {g : Env → R Bool} {rest : List Expr} (ha : PEX X own a fa ma) (hb : PEX X own (.BoolOp .Or (b :: rest) pos) (blR g) .s) :
    PEX X own (.BoolOp .Or (a :: b :: rest) pos) (blR fun r => (fa r).bind fun x => (unbl x).bind fun k => if k then .ok true else g r) .s :=
  PEi (pe_or ha hb) fun σ H Q ⟨L, W, ρ, Ro, d, S, hf, q⟩ => by
    obtain ⟨k, hk, hf⟩ := R.bind_eq_ok.mp hf
    obtain ⟨x, hx, hk1⟩ := R.bind_eq_ok.mp hk
    obtain ⟨i, hi, hk2⟩ := R.bind_eq_ok.mp hk1
    cases hf
    cases unbl_ok hi
    refine one_of S hx fun v H1 s1 bv S1 => ⟨i, bv.bl, ?_⟩
    cases i with
    | false =>
      rw [if_neg (by decide)] at hk2 ⊢
      exact ⟨L, W, ρ, Ro, .bl k, S1, by show (g ρ).bind _ = _; rw [hk2]; rfl, fun v H2 s2 r => q v H2 (s1.trans s2) r⟩
    | true =>
      rw [if_pos rfl] at hk2 ⊢
      cases hk2
      exact q _ H1 s1 (.bl true)
theorem w_and1 {f : Env → R Bool} (ha : PTX X own a f) : PWX X own (.BoolOp .And [a] pos) f := pw_and1 ha
theorem w_or1 {f : Env → R Bool} (ha : PTX X own a f) : PWX X own (.BoolOp .Or [a] pos) f := pw_or1 ha
theorem w_and {f g : Env → R Bool} {rest : List Expr} (ha : PTX X own a f) (hb : PWX X own (.BoolOp .And (b :: rest) pos) g) :
    PWX X own (.BoolOp .And (a :: b :: rest) pos) (fun r => (f r).bind fun k => if k then g r else .ok false) :=
  PWi (pw_and ha hb) fun σ H Q ⟨L, W, ρ, Ro, d, S, hf, q⟩ => by
    obtain ⟨k, hk, hf⟩ := R.bind_eq_ok.mp hf
    refine ⟨L, W, ρ, Ro, k, S, hk, fun H1 s1 => ?_⟩
    cases k with
    | true => rw [if_pos rfl] at hf ⊢; exact ⟨L, W, ρ, Ro, d, S.same s1, hf, fun H2 s2 => q H2 (s1.trans s2)⟩
    | false => rw [if_neg (by decide)] at hf ⊢; cases hf; exact q H1 s1
theorem w_or {f g : Env → R Bool} {rest : List Expr} (ha : PTX X own a f) (hb : PWX X own (.BoolOp .Or (b :: rest) pos) g) :
    PWX X own (.BoolOp .Or (a :: b :: rest) pos) (fun r => (f r).bind fun k => if k then .ok true else g r) :=
  PWi (pw_or ha hb) fun σ H Q ⟨L, W, ρ, Ro, d, S, hf, q⟩ => by
    obtain ⟨k, hk, hf⟩ := R.bind_eq_ok.mp hf
    refine ⟨L, W, ρ, Ro, k, S, hk, fun H1 s1 => ?_⟩
    cases k with
    | false => rw [if_neg (by decide)] at hf ⊢; exact ⟨L, W, ρ, Ro, d, S.same s1, hf, fun H2 s2 => q H2 (s1.trans s2)⟩
    | true => rw [if_pos rfl] at hf ⊢; cases hf; exact q H1 s1

/-! places, slices -/
theorem x_idx (hu : X.A.units + 110 < cLine) (ha : PEX1 X own a fa) (hb : PEX X own b fb mb) (hok : okX b = true) : PEX X own (.Subscript a b pos) (fun r => (fa r).bind fun x => (fb r).bind fun y => idxD x y) .s :=
  PEi (pe_ix (ix_M (P := X.prog) (w := X.w) hu) ha hb (okX_ix hok)) fun σ H Q ⟨L, W, ρ, Ro, d, S, hf, q⟩ => by
    obtain ⟨x, hx, hf⟩ := R.bind_eq_ok.mp hf
    obtain ⟨y, hy, hf⟩ := R.bind_eq_ok.mp hf
    refine ⟨L, W, ρ, Ro, x, S, hx, fun v H1 s1 bv => one_of (S.same s1) hy fun u H2 s2 bu S2 => ⟨L ++ W, x, y, d, S2.hw, ?_, bu, hf, fun z H3 s3 r => q z H3 ((s1.trans s2).trans s3) r⟩⟩
    rcases bv with bv | ⟨p, m, e, r⟩
    · exact .inl (bv.mono (hid_same s2))
    · exact .inr ⟨p, m, e, r.mono (s2 _) (hid_same s2)⟩
theorem o_none : POX X own none (fun _ => .ok none) := POi po_none fun σ H Q ⟨L, W, ρ, Ro, d, S, hf, q⟩ => by cases hf; exact q H (Same.refl H)
theorem o_some (ha : PEX X own a fa ma) : POX X own (some a) (fun r => (fa r).bind fun x => (unint x).bind fun i => .ok (some i)) := POi (po_some ha) fun σ H Q ⟨L, W, ρ, Ro, d, S, hf, q⟩ => by
  obtain ⟨x, hx, hf⟩ := R.bind_eq_ok.mp hf
  obtain ⟨i, hi, hf⟩ := R.bind_eq_ok.mp hf
  cases hf
  cases unint_ok hi
  exact one_of S hx fun v H1 s1 bv S1 => ⟨i, bv.int, q H1 s1⟩
theorem x_sl {lo hi : Option Expr} {fl fh : Env → R (Option Int)} {p2 : Pos} (ha : PEX1 X own a fa) (hl : POX X own lo fl) (hh : POX X own hi fh) :
    PEX X own (.Subscript a (.Slice lo hi none p2) pos) (fun r => (fa r).bind fun x => (fl r).bind fun l => (fh r).bind fun h => sliD x l h) .s :=
  PEi (pe_slice (sl_M (P := X.prog) (w := X.w)) ha hl hh) fun σ H Q ⟨L, W, ρ, Ro, d, S, hf, q⟩ => by
    obtain ⟨x, hx, hf⟩ := R.bind_eq_ok.mp hf
    obtain ⟨l, hl, hf⟩ := R.bind_eq_ok.mp hf
    obtain ⟨h, hh, hf⟩ := R.bind_eq_ok.mp hf
    refine ⟨L, W, ρ, Ro, x, S, hx, fun v H1 s1 bv => ⟨L, W, ρ, Ro, l, S.same s1, hl, fun H2 s2 => ⟨L, W, ρ, Ro, h, (S.same s1).same s2, hh, fun H3 s3 =>
      ⟨L ++ W, x, d, (((S.same s1).same s2).same s3).hw, ?_, hf, fun z H4 s4 r => q z H4 (s1.trans (s2.trans (s3.trans s4))) r⟩⟩⟩⟩
    have s23 := s2.trans s3
    rcases bv with bv | ⟨p, m, e, r⟩
    · exact .inl (bv.mono (hid_same s23))
    · exact .inr ⟨p, m, e, r.mono (s23 _) (hid_same s23)⟩
theorem x_rev {k : Nat} {p1 p2 p3 : Pos} (ha : PEX X own a fa ma) : PEX X own (.Subscript a (.Slice none none (some (.UnaryOp .USub (.Constant (.int 1) k p1) p2)) p3) pos)
    (fun r => (fa r).bind fun x => match x with
      | .lst xs => .ok (.lst xs.reverse)
      | _ => .bad) .l :=
  PEi (pe_revL ha) fun σ H Q ⟨L, W, ρ, Ro, d, S, hf, q⟩ => by
    obtain ⟨x, hx, hf⟩ := R.bind_eq_ok.mp hf
    cases x <;> simp only at hf <;> cases hf
    refine one_of S hx fun v H1 s1 bv S1 => ?_
    obtain ⟨p, vs, rfl, hp, hr⟩ := bv.lst
    exact ⟨p, vs, rfl, .inl hp, fun p' hp' => q _ _ (s1.trans (same_new hp')) (Res.back s1 (res_lst hp' hr.reverse))⟩
/-! d.get(k, default) -/
theorem m2_of {X : Cx} {o b c : Expr} {name : Str} {apos cpos : Pos} (ho : okX o = true) (hb : okX b = true) (hc : okX c = true) (hl : lineB apos cpos = true) : M2 X o name apos b c cpos :=
  ⟨okX_base ho _ _, by rw [okX_star hb, okX_star hc]; rfl, hl, by rw [okX_star hb, okX_star hc]; rfl⟩
theorem x_get2 {apos : Pos} (hu : X.A.units + 110 < cLine) (ha : PEX X own a fa ma) (hb : PEX X own b fb mb) (hc : PEX X own c fc mc) (hm : mc ≠ .b) (oa : okX a = true) (ob : okX b = true) (oc : okX c = true) (hl : lineB apos pos = true) :
    PEX X own (.Call (.Attribute a "get" apos) [b, c] [] pos) (fun r => (fa r).bind fun x => (fb r).bind fun y => (fc r).bind fun z => meD .get x [y, z]) .s :=
  PEi (pe_dget2 (by omega) ha hb hc (m2_of oa ob oc hl)) fun σ H Q ⟨L, W, ρ, Ro, d, S, hf, q⟩ => by
    obtain ⟨x, hx, hf⟩ := R.bind_eq_ok.mp hf
    obtain ⟨y, hy, hf⟩ := R.bind_eq_ok.mp hf
    obtain ⟨z, hz, hf⟩ := R.bind_eq_ok.mp hf
    obtain ⟨kvs, rfl⟩ : ∃ kvs, x = .dic kvs := by cases x <;> first | exact ⟨_, rfl⟩ | (cases hf; done)
    simp only [meD] at hf
    have hk : keyFor kvs y = true := by
      by_cases hk : keyFor kvs y = true
      · exact hk
      · rw [if_neg hk] at hf; cases hf
    rw [if_pos hk] at hf
    cases hf
    unfold keyFor at hk
    rw [Bool.and_eq_true] at hk
    refine one_of S hx fun v H1 s1 bv S1 => ?_
    obtain ⟨p, kk, rfl, hd, hr⟩ := dic_flat bv hk.2
    refine ⟨p, rfl, .inl ⟨kk, hd⟩, one_of S1 hy fun u H2 s2 bu S2 => ?_⟩
    obtain ⟨key, rfl, rfl, kz⟩ := key_flat bu hk.1
    refine ⟨L, W, ρ, Ro, z, S2, hz, fun t H3 s3 rt => ⟨valV kk key, .inl ⟨kk, key, Rd.mono (s2.trans s3) hd, rfl, rfl⟩, q _ H3 (s1.trans (s2.trans s3)) ?_⟩⟩
    obtain ⟨v1, v2⟩ := repK_val key hr
    cases hg : getKV kvs (keyD key) with
    | none => rw [v2 hg]; exact rt.to_s S2.hw s3 hm
    | some w0 =>
      obtain ⟨w1, e1, r1⟩ := v1 w0 hg
      rw [e1]
      exact r1.mono (hid_same (s2.trans s3))
end
end MP
/-! Calls, built-ins, methods; targets; what is walked; comprehensions. -/
namespace MP
open PySem PySem.Spec PyProof.Rows L2

/-! ### defs -/
/-- a def's promise: shared arguments, by data -/
def spD (P : Program) (w : World) (K : PySem.W.Frag) (F : Orc) (f : Str) (d : Def) : Sp := fun vs H Q _ => ∃ W ds r, (∀ a ∈ W, ∃ o, H a = some o ∧ Mut (some o)) ∧ Reps P w K (hid H W) vs ds ∧ ds.length = d.np ∧ F f ds = .ok r ∧
  ∀ v H', Same H H' → Res P w K (mdO d.ro) H H' W v r → Q v H'
structure MCtx (X : Cx) (T : Str → Option Def) (F : Orc) (n : Nat) (N : List Str) (sc : Scope) : Prop where
  hN : X.N = N
  nd : N.Nodup
  sc : X.env.scope = sc
  calm : X.calm = true
  room : Room n X.A
  blt : ∀ x ∈ bltNames, X.mg x = none
  fns : ∀ f d, T f = some d → C8.Cal X.prog X.w X.K X.mg X.base n f (spD X.prog X.w X.K F f d) []
  len : ∀ f d ds r, T f = some d → F f ds = .ok r → ds.length = d.np
section
variable {X : Cx} {T : Str → Option Def} {F : Orc} {n : Nat} {N : List Str} {sc : Scope} {own : List O} {a b c : Expr} {fa fb fc : Env → R D} {ma mb mc : Md} {pos p : Pos} {es : List Expr} {f : Env → R (List D)}
theorem MCtx.hu (C : MCtx X T F n N sc) : X.A.units + 110 < cLine := by have := C.room.un; omega
theorem MCtx.gl (C : MCtx X T F n N sc) {x : Str} (h : glB sc x = true) : Gl X x := by
  unfold glB at h
  show X.env.scope.names.lookup x = _
  rw [C.sc]
  split at h
  · assumption
  · cases h
theorem MCtx.vis (C : MCtx X T F n N sc) {x : Str} (h : visB sc x = true) : Vis X.env.scope x := by
  unfold visB at h
  unfold Vis
  rw [C.sc]
  split at h
  · exact .inl (by assumption)
  · exact .inr (.inl (by assumption))
  · exact .inr (.inr (by assumption))
  · cases h
theorem noRes_1 {x : Str} (h : noRes x = true) : (x == ("__debug__" : Str)) = false ∧ (x == ("__classdict__" : Str)) = false := by
  unfold noRes at h
  simp only [Bool.and_eq_true, Bool.not_eq_true'] at h
  exact ⟨h.1.1, h.1.2⟩
theorem x_call (C : MCtx X T F n N sc) {x : Str} {d : Def} (hT : T x = some d) (hg : glB sc x = true) (hn : noRes x = true) (ha : PAX X own (a :: es) f true) (hok : ((a :: es).all okX) = true) :
    PEX X own (.Call (.Name x p) (a :: es) [] pos) (fun r => (f r).bind fun ds => F x ds) (mdO d.ro) := by
  rw [List.all_cons, Bool.and_eq_true] at hok
  refine PEi (C8.pe_c (C.fns x d hT) C.room (Nat.le_refl _) (C.gl hg) ha (noRes_1 hn).1 (okX_star hok.1 _ _) (plain_back hok.2)) fun σ H Q ⟨L, W, ρ, Ro, r, S, hf, q⟩ => ?_
  obtain ⟨ds, hds, hf⟩ := R.bind_eq_ok.mp hf
  refine ⟨L, W, ρ, Ro, ds, S, hds, fun vs H1 s1 b1 r1 => ⟨L ++ W, ds, r, (S.same s1).wm, by rw [List.append_nil]; exact r1 rfl, C.len x d ds r hT hf, hf, fun v H2 s2 rr => q v H2 (s1.trans s2) (rr.back s1)⟩⟩

/-! ### a call that is lent lists of one's own -/
section
variable {P : Program} {w : World} {K : PySem.W.Frag} {F G : Hp}
theorem Reps.lift : ∀ {vs : List V} {ds : List D}, Reps P w K F vs ds → (∀ u e, e ∈ ds → Rep P w K F u e → Rep P w K G u e) → Reps P w K G vs ds
  | _, _, .nil, _ => .nil
  | _, _, .cons a b, h => .cons (h _ _ List.mem_cons_self a) (Reps.lift b fun u e m => h u e (List.mem_cons_of_mem _ m))
theorem RepK.lift : ∀ {vs : List (Key × V)} {ds : List (D × D)}, RepK P w K F vs ds → (∀ u k e, (k, e) ∈ ds → Rep P w K F u e → Rep P w K G u e) → RepK P w K G vs ds
  | _, _, .nil, _ => .nil
  | _, _, .cons z a b, h => .cons z (h _ _ _ List.mem_cons_self a) (RepK.lift b fun u k e m => h u k e (List.mem_cons_of_mem _ m))
theorem RepT.lift : ∀ {vs : List (NestedKey × Addr × Value)} {ds : List (D × D)}, RepT P w K F vs ds → (∀ u (p : D × D) e, p ∈ ds → (e = p.1 ∨ e = p.2) → Rep P w K F u e → Rep P w K G u e) → RepT P w K G vs ds
  | _, _, .nil, _ => .nil
  | _, _, .cons a b c e f g i, h => .cons a b c (h _ _ _ List.mem_cons_self (.inl rfl) e) f (h _ _ _ List.mem_cons_self (.inr rfl) g) (RepT.lift i fun u p e m => h u p e (List.mem_cons_of_mem _ m))
end
theorem bors_lent {P : Program} {w : World} {K : PySem.W.Frag} {H : Hp} {U : List Addr} : ∀ {vs : List V} {ds : List D}, Bors P w K H U vs ds → ∃ A : List Addr, ∀ W' : List Addr, (∀ a ∈ W', a ∈ U ∧ a ∉ A) → Reps P w K (hid H W') vs ds
  | _, _, .nil => ⟨[], fun _ _ => .nil⟩
  | _, _, .cons ⟨o, r, q⟩ b => by
    obtain ⟨A, h⟩ := bors_lent b
    refine ⟨r.toList ++ A, fun W' hw => .cons (q.rep (fun a e u hu => hid_some.mpr ⟨fun m => (hw a m).2 (List.mem_append_left _ (by rw [e]; exact List.mem_singleton.mpr rfl)), hu⟩) (hid_sub fun a m => (hw a m).1)) (h W' fun a m => ⟨(hw a m).1, fun z => (hw a m).2 (List.mem_append_right _ z)⟩)⟩
theorem x_lend (C : MCtx X T F n N sc) {x : Str} {d : Def} {l : Bool} (hT : T x = some d) (hl : d.ro = if l then .li else .sh) (hg : glB sc x = true) (hn : noRes x = true) (ha : PAX X own (a :: es) f false) (hok : ((a :: es).all okX) = true) :
    PEX X own (.Call (.Name x p) (a :: es) [] pos) (fun r => (f r).bind fun ds => (F x ds).bind fun v => if noR l v then .ok v else .bad) (if l then .l else .s) := by
  rw [List.all_cons, Bool.and_eq_true] at hok
  refine PEi (C8.pe_c (C.fns x d hT) C.room (Nat.le_refl _) (C.gl hg) ha (noRes_1 hn).1 (okX_star hok.1 _ _) (plain_back hok.2)) fun σ H Q ⟨L, W, ρ, Ro, r, S, hf, q⟩ => ?_
  obtain ⟨ds, hds, hf⟩ := R.bind_eq_ok.mp hf
  obtain ⟨v0, hv0, hf⟩ := R.bind_eq_ok.mp hf
  split at hf
  · rename_i hnr
    cases hf
    refine ⟨L, W, ρ, Ro, ds, S, hds, fun vs H1 s1 b1 _ => ?_⟩
    have S1 := S.same s1
    obtain ⟨A, hA⟩ := bors_lent b1
    let W' := (L ++ W).filter fun a => !A.contains a
    have hW' : ∀ a ∈ W', a ∈ L ++ W ∧ a ∉ A := fun a m => by
      obtain ⟨m1, m2⟩ := List.mem_filter.mp m
      exact ⟨m1, by simpa using m2⟩
    refine ⟨W', ds, r, fun a m => S1.wm a (hW' a m).1, by rw [List.append_nil]; exact hA W' hW', C.len x d ds r hT hv0, hv0, fun v H2 s2 rr => q v H2 (s1.trans s2) ?_⟩
    have wm2 : ∀ a ∈ L ++ W, ∃ o, H2 a = some o ∧ Mut (some o) := (S1.same s2).wm
    rw [hl] at rr
    cases l with
    | false =>
      have rr : Rep X.prog X.w X.K (hid H2 W') v r := rr
      exact noL_rep (fun a xs h => rd_tup wm2 h) 30 rr hnr
    | true =>
      obtain ⟨p, rfl, hp, ro⟩ := rr
      refine ⟨p, rfl, none_back s1 hp, ?_⟩
      have wm3 : ∀ a ∈ p :: (L ++ W), ∃ o, H2 a = some o ∧ Mut (some o) := fun a m => by
        rcases List.mem_cons.mp m with rfl | m
        · exact ro.there
        · exact wm2 a m
      have lift : ∀ (u : V) (e : D), noL e = true → Rep X.prog X.w X.K (hid H2 (p :: W')) u e → Rep X.prog X.w X.K (hid H2 (p :: (L ++ W))) u e := fun u e he re => noL_rep (fun a xs h => rd_tup wm3 h) 30 re he
      cases ro with
      | lst h1 h2 =>
        have hnr : (List.all _ noL) = true := hnr
        rw [List.all_eq_true] at hnr
        refine .lst h1 ?_
        exact Reps.lift h2 fun u e m re => lift u e (hnr e m) re
      | dic h1 h2 =>
        have hnr : (List.all _ fun p : D × D => noL p.1 && noL p.2) = true := hnr
        rw [List.all_eq_true] at hnr
        refine .dic h1 ?_
        exact RepK.lift h2 fun u k e m re => lift u e (by have := hnr _ m; rw [Bool.and_eq_true] at this; exact this.2) re
      | dicT h1 hn h2 =>
        have hnr : (List.all _ fun p : D × D => noL p.1 && noL p.2) = true := hnr
        rw [List.all_eq_true] at hnr
        refine .dicT h1 hn ?_
        exact RepT.lift h2 fun u k e m hk re => lift u e (by have := hnr _ m; rw [Bool.and_eq_true] at this; rcases hk with rfl | rfl; exact this.1; exact this.2) re
  · cases hf

/-! ### built-ins -/
theorem boot_dict : bootBuiltins "dict" = some (.type "dict") := by decide +kernel
theorem x_cf {g : List D → R D} {md : Md} {r : List V → Hp → VK → Prop} (hr : r = rF X.prog X.w X.K g md) {e : Expr} (h : PE X e (tCB r (tXs X.prog X.w X.K own f false))) : PEX X own e (fun r => (f r).bind g) md := by
  subst hr
  refine PEi h fun σ H Q ⟨L, W, ρ, Ro, d, S, hf, q⟩ => ?_
  obtain ⟨ds, hds, hf⟩ := R.bind_eq_ok.mp hf
  exact ⟨L, W, ρ, Ro, ds, S, hds, fun vs H1 s1 b1 r1 => ⟨L ++ W, ds, d, (S.same s1).hw, b1, hf, fun v H2 s2 rr => q v H2 (s1.trans s2) (rr.back s1)⟩⟩
theorem bm (x : Str) (h : bltNames.contains x = true) : x ∈ bltNames := List.contains_iff_mem.mp h
def mdB : BI → Md
  | .dict => .l
  | .sorted => .l
  | .sortedKeys => .l
  | .sortedItems => .l
  | .list => .l
  | _ => .s
theorem bind_args {fa : Env → R D} {g : List D → R D} (r : Env) : (((fa r).bind fun x => .ok [x]).bind g) = (fa r).bind fun x => g [x] := by
  cases fa r <;> rfl
theorem boot_sorted : bootBuiltins "sorted" = some (.builtin "sorted") := by decide +kernel
theorem boot_sum : bootBuiltins "sum" = some (.builtin "sum") := by decide +kernel
theorem boot_max : bootBuiltins "max" = some (.builtin "max") := by decide +kernel
theorem boot_ord : bootBuiltins "ord" = some (.builtin "ord") := by decide +kernel
theorem boot_all : bootBuiltins "all" = some (.builtin "all") := by decide +kernel
theorem boot_isi : bootBuiltins "isinstance" = some (.builtin "isinstance") := by decide +kernel
theorem x_bi (C : MCtx X T F n N sc) (bi : BI) (hb : bi1 bi = true) (hg : glB sc (biN bi) = true) (ha : PEX X own a fa ma) (hok : okX a = true) :
    PEX X own (.Call (.Name (biN bi) p) [a] [] pos) (fun r => (fa r).bind fun x => biD bi [x]) (mdB bi) := by
  have hu := C.hu
  have g := C.gl hg
  have st := okX_star hok [] X.env
  have ar := x_args1 (X := X) (own := own) ha hok
  refine x_imp (md := mdB bi) (f := fun r => ((fa r).bind fun x => .ok [x]).bind (biD bi)) ?_ (fun r => (bind_args r).symm) rfl
  cases bi <;> simp only [bi1] at hb <;> first | (cases hb; done) | skip
  · exact x_cf rfl (pe_callB call_lenM g (C.blt _ (bm _ (by decide +kernel))) boot_len ar (by decide) (by decide) st rfl)
  · exact x_cf rfl (pe_callB (call_sortedL hu) g (C.blt _ (bm _ (by decide +kernel))) boot_sorted ar (by decide) (by decide) st rfl)
  · exact x_cf rfl (pe_callTy (call_dictM C.calm) g (C.blt _ (bm _ (by decide +kernel))) boot_dict ar (by decide) (by decide) st rfl)
  · exact x_cf rfl (pe_callTy call_intM g (C.blt _ (bm _ (by decide +kernel))) boot_int ar (by decide) (by decide) st rfl)
  · exact x_cf rfl (pe_callB (call_sumM C.calm) g (C.blt _ (bm _ (by decide +kernel))) boot_sum ar (by decide) (by decide) st rfl)
  · exact x_cf rfl (pe_callB (call_maxM C.calm) g (C.blt _ (bm _ (by decide +kernel))) boot_max ar (by decide) (by decide) st rfl)
  · exact x_cf rfl (pe_callB call_ordM g (C.blt _ (bm _ (by decide +kernel))) boot_ord ar (by decide) (by decide) st rfl)
  · exact x_cf rfl (pe_callB (call_allM C.calm) g (C.blt _ (bm _ (by decide +kernel))) boot_all ar (by decide) (by decide) st rfl)
/-- tuple(..), list(..) -/
theorem x_args1' (ha : PEX1 X own a fa) (hok : okX a = true) : PA X [a] (fun σ H Q => tX1 X.prog X.w X.K own fa σ H fun v H1 => Q [v] H1) :=
  PAi (pa_cons ha pa_nil (okX_star hok _ _)) fun σ H Q ⟨L, W, ρ, Ro, d, S, hf, q⟩ => ⟨L, W, ρ, Ro, d, S, hf, fun v H1 s1 b => q v H1 s1 b⟩
theorem x_tuple (C : MCtx X T F n N sc) (hg : glB sc "tuple" = true) (ha : PEX1 X own a fa) (hok : okX a = true) : PEX X own (.Call (.Name "tuple" p) [a] [] pos) (fun r => (fa r).bind fun x => biD .tuple [x]) .s :=
  PEi (pe_callTy (call_tupleM (P := X.prog) (w := X.w)) (C.gl hg) (C.blt _ (bm _ (by decide +kernel))) boot_tuple (x_args1' ha hok) (by decide) (by decide) (okX_star hok _ _) rfl) fun σ H Q ⟨L, W, ρ, Ro, d, S, hf, q⟩ => by
    obtain ⟨x, hx, hf⟩ := R.bind_eq_ok.mp hf
    exact ⟨L, W, ρ, Ro, x, S, hx, fun v H1 s1 bv => ⟨L ++ W, v, x, d, (S.same s1).hw, rfl, bv, hf, fun z H2 s2 r => q z H2 (s1.trans s2) r⟩⟩
theorem x_list (C : MCtx X T F n N sc) (hg : glB sc "list" = true) (ha : PEX1 X own a fa) (hok : okX a = true) : PEX X own (.Call (.Name "list" p) [a] [] pos) (fun r => (fa r).bind fun x => biD .list [x]) .l :=
  PEi (pe_callTy (call_listM (P := X.prog) (w := X.w)) (C.gl hg) (C.blt _ (bm _ (by decide +kernel))) boot_list (x_args1' ha hok) (by decide) (by decide) (okX_star hok _ _) rfl) fun σ H Q ⟨L, W, ρ, Ro, d, S, hf, q⟩ => by
    obtain ⟨x, hx, hf⟩ := R.bind_eq_ok.mp hf
    exact ⟨L, W, ρ, Ro, x, S, hx, fun v H1 s1 bv => ⟨L ++ W, v, x, d, (S.same s1).hw, rfl, bv, hf, fun z H2 s2 r => q z H2 (s1.trans s2) (r.back s1)⟩⟩
/-- isinstance(e, T) -/
theorem x_isi (C : MCtx X T F n N sc) (bi : BI) (hb : isIsi bi = true) (hg : glB sc "isinstance" = true) (ht : glB sc (isiT bi : Str) = true) (ha : PEX X own a fa ma) (hok : okX a = true) {p2 : Pos} :
    PEX X own (.Call (.Name "isinstance" p) [a, .Name (isiT bi : Str) p2] [] pos) (fun r => (fa r).bind fun x => biD bi [x]) .s := by
  have hv : bootBuiltins (isiT bi : Str) = some (.type (isiT bi)) := by cases bi <;> first | decide +kernel | cases hb
  have hm : (isiT bi : Str) ∈ bltNames := bm _ (by cases bi <;> first | decide +kernel | cases hb)
  have n1 : (isiT bi : Str) ≠ "__name__" := by cases bi <;> first | decide | cases hb
  have n2 : ((isiT bi : Str) == ("__debug__" : Str)) = false := by cases bi <;> first | decide | cases hb
  have ty : PE X (.Name (isiT bi : Str) p2) (tC (.ty (isiT bi))) := pe_bltn (C.gl ht) (C.blt _ hm) hv rfl n1 n2
  have ar := pa_cons ha (pa_cons ty pa_nil rfl) (okX_star hok _ _)
  refine PEi (pe_callB (call_isM (P := X.prog) (w := X.w) bi hb) (C.gl hg) (C.blt _ (bm _ (by decide +kernel))) boot_isi ar (by decide) (by decide) (okX_star hok _ _) rfl) fun σ H Q ⟨L, W, ρ, Ro, d, S, hf, q⟩ => ?_
  obtain ⟨x, hx, hf⟩ := R.bind_eq_ok.mp hf
  have hnd : noDic x = true := by
    cases x <;> first | rfl | (cases bi <;> first | (cases hb; done) | (simp [biD] at hf; done))
  exact one_of S hx fun v H1 s1 bv S1 => ⟨v, x, d, rfl, bv.rep, hnd, hf, fun k e => q _ H1 s1 (by rw [e]; exact .bl k)⟩

/-! ### methods -/
theorem x_me {id : String} {name : Str} {m : ME} {apos : Pos} (slot : Slot "str" name id) (ty : typeOf (.builtin id) = pure (.type "method_descriptor")) (hm : MF X X.prog X.w id (meD m) .s)
    (hs : ∀ d ds r, meD m d ds = .ok r → ∃ s, d = .str s) (ha : PEX X own a fa ma) (hb : PEX X own b fb mb) (ho : okX a = true) (hob : okX b = true) (hl : lineB apos pos = true) :
    PEX X own (.Call (.Attribute a name apos) [b] [] pos) (fun r => (fa r).bind fun x => (fb r).bind fun y => meD m x [y]) .s :=
  PEi (pe_m1 slot ty hm ha hb (okX_star hob _ _) (okX_base ho _ _) hl) fun σ H Q ⟨L, W, ρ, Ro, d, S, hf, q⟩ => by
    obtain ⟨x, hx, hf⟩ := R.bind_eq_ok.mp hf
    obtain ⟨y, hy, hf⟩ := R.bind_eq_ok.mp hf
    obtain ⟨s, rfl⟩ := hs _ _ _ hf
    refine one_of S hx fun v H1 s1 bv S1 => ⟨⟨s, bv.str.1⟩, one_of S1 hy fun u H2 s2 bu S2 => ⟨L ++ W, .str s, [y], d, S2.hw, bv.mono s2, .cons bu .nil, hf, fun z H3 s3 r => q z H3 ((s1.trans s2).trans s3) r⟩⟩
end

/-! ### targets -/
def gV : IG → List Nat
  | .nm i => [i]
  | .tp is => is
section
variable (P : Program) (w : World) (K : PySem.W.Frag) (own : List O)
def tXG (g : IG) : TG := fun v σ H Q => ∃ L W ρ Ro d ρ', SR P w K own H L W σ ρ Ro ∧ Rep P w K (hid H (L ++ W)) v d ∧ asgG g d ρ = .ok ρ' ∧
  ∀ σ' Ro', SR P w K own H L W σ' ρ' Ro' → (∀ k, k ∉ gV g → σ'[k]? = σ[k]?) → Q σ' H
def tXGs (is : List Nat) : TGs := fun vs σ H Q => ∃ L W ρ Ro ds, SR P w K own H L W σ ρ Ro ∧ Reps P w K (hid H (L ++ W)) vs ds ∧ ds.length = is.length ∧
  ∀ σ' Ro', SR P w K own H L W σ' (setMany ρ is ds) Ro' → (∀ k, k ∉ is → σ'[k]? = σ[k]?) → Q σ' H
end
theorem PGi {X : Cx} {e : Expr} {t u : TG} (h : PG X e t) (i : ∀ v σ H Q, u v σ H Q → t v σ H Q) : PG X e u := ⟨fun pins s σ H v u' Q I r hw => h.run pins s σ H v u' Q I r (i v σ H Q hw)⟩
theorem PGsi {X : Cx} {e : List Expr} {t u : TGs} (h : PGs X e t) (i : ∀ v σ H Q, u v σ H Q → t v σ H Q) : PGs X e u := ⟨fun pins s σ H v u' Q I r hw => h.run pins s σ H v u' Q I r (i v σ H Q hw)⟩
section
variable {X : Cx} {N : List Str} {sc scope : Scope} {fnAll : Bool} {own : List O}
/-- what the context must grant for stores -/
structure Sto (X : Cx) (N : List Str) (sc scope : Scope) (fnAll : Bool) : Prop where
  hN : X.N = N
  nd : N.Nodup
  sc : X.env.scope = sc
  calm : X.calm = true
  fn : ∀ x, fnAll = true ∨ scope.names.lookup x = some .cell → X.fn x = true
theorem nm_of (S : Sto X N sc scope fnAll) {i : Nat} {e : Expr} (h : tgNm N sc scope fnAll i e = true) : ∃ x p, e = .Name x p ∧ PG X e (gName i) := by
  unfold tgNm at h
  split at h
  · rename_i x p
    simp only [Bool.and_eq_true, Bool.or_eq_true, beq_iff_eq] at h
    refine ⟨x, p, rfl, ?_⟩
    have hN : X.N[i]? = some x := by rw [S.hN]; exact h.1
    have hd : X.N.Nodup := by rw [S.hN]; exact S.nd
    rcases h.2 with h2 | ⟨h2, h3⟩
    · exact pg_name hd hN (by rw [S.sc]; exact .inl h2) (.inr (by rw [S.sc]; exact h2))
    · exact pg_name hd hN (by rw [S.sc]; exact .inr h2) (.inl (S.fn x h3))
  · cases h
theorem g_nm (S : Sto X N sc scope fnAll) {i : Nat} {e : Expr} (h : tgNm N sc scope fnAll i e = true) (ho : own.getD i .sh = .sh) : PG X e (tXG X.prog X.w X.K own (.nm i)) := by
  obtain ⟨x, p, rfl, hp⟩ := nm_of S h
  refine PGi hp fun v σ H Q ⟨L, W, ρ, Ro, d, ρ', Sr, hr, hf, q⟩ => ?_
  cases hf
  exact q _ _ (Sr.store ho hr) fun k hk => List.getElem?_set_ne fun e => hk (by rw [← e]; exact List.mem_singleton.mpr rfl)
theorem gs_of (S : Sto X N sc scope fnAll) : ∀ (is : List Nat) (es : List Expr), tgAll N sc scope fnAll is es = true → (is.all fun i => decide (ownV own i = .sh)) = true →
    PGs X es (tXGs X.prog X.w X.K own is) ∧ (assignEach es X.env).length = is.length ∧ (assignEach es X.env).findIdx? (·.1) = none
  | [], [], _, _ => ⟨PGsi pgs_nil fun vs σ H Q ⟨L, W, ρ, Ro, ds, Sr, hr, hl, q⟩ => by
      cases ds with
      | cons _ _ => simp at hl
      | nil =>
        cases hr
        exact ⟨rfl, q _ _ Sr fun _ _ => rfl⟩, rfl, rfl⟩
  | [], _ :: _, h, _ => by simp [tgAll] at h
  | _ :: _, [], h, _ => by simp [tgAll] at h
  | i :: is, e :: es, h, ho => by
    rw [tgAll, Bool.and_eq_true] at h
    rw [List.all_cons, Bool.and_eq_true] at ho
    obtain ⟨p1, p2, p3⟩ := gs_of S is es h.2 ho.2
    obtain ⟨x, p, rfl, hp⟩ := nm_of S h.1
    have ho1 : own.getD i .sh = .sh := of_decide_eq_true ho.1
    refine ⟨PGsi (pgs_cons hp p1 rfl) fun vs σ H Q ⟨L, W, ρ, Ro, ds, Sr, hr, hl, q⟩ => ?_, ?_, ?_⟩
    · cases ds with
      | nil => simp at hl
      | cons d ds =>
        cases hr with
        | cons r1 r2 =>
          refine ⟨_, _, rfl, L, W, _, _, ds, Sr.store ho1 r1, r2, by simpa using hl, fun σ' Ro' S' fr => q σ' Ro' S' fun k hk => ?_⟩
          rw [fr k fun m => hk (List.mem_cons_of_mem _ m)]
          exact List.getElem?_set_ne fun e => hk (by rw [← e]; exact List.mem_cons_self)
    · show (assignEach es X.env).length + 1 = is.length + 1
      rw [p2]
    · show List.findIdx? _ ((false, _) :: assignEach es X.env) = none
      rw [List.findIdx?_cons, p3]
      rfl
theorem g_of (S : Sto X N sc scope fnAll) {g : IG} {e : Expr} (h : ckG own N sc scope fnAll g e = true) : PG X e (tXG X.prog X.w X.K own g) := by
  cases g with
  | nm i =>
    simp only [ckG, Bool.and_eq_true] at h
    exact g_nm S h.1 (of_decide_eq_true h.2)
  | tp is =>
    simp only [ckG] at h
    split at h
    · rename_i es k p
      rw [Bool.and_eq_true] at h
      obtain ⟨p1, p2, p3⟩ := gs_of S is es h.1 h.2
      refine PGi (pg_tup S.calm p1 p2 p3) fun v σ H Q ⟨L, W, ρ, Ro, d, ρ', Sr, hr, hf, q⟩ => ?_
      cases d <;> simp only [asgG] at hf <;> first | cases hf | skip
      rename_i ds
      split at hf <;> cases hf
      rename_i hl
      obtain ⟨a, vs, rfl, ha, hr'⟩ := hr.tup'
      exact ⟨a, vs, rfl, SqT.mono hid_le ha, by rw [hr'.length, hl], L, W, ρ, Ro, ds, Sr, hr', hl, q⟩
    · cases h
end
end MP
/-! What is walked; comprehensions. -/
namespace MP
open PySem PySem.Spec PyProof.Rows L2

/-- the iterator J walks the data ds: as long as what was seen (sh), or all that stood, stands -/
def WalkD (P : Program) (w : World) (K : PySem.W.Frag) (sh : Bool) (J : It) (H0 : Hp) (W : List Addr) (ds : List D) : Prop :=
  ∀ i H U, (sh = false → Same H0 H) → Same (hid H0 W) (hid H U) → (∀ a ∈ U, H a ≠ none) → (∀ d, ds[i]? = some d → J.go i H ∧ ∀ x H', J.yld i H x H' → Same H H' ∧ Rep P w K (hid H' U) x d) ∧ (ds.length ≤ i → J.stop i H)
def tXI (P : Program) (w : World) (K : PySem.W.Frag) (own : List O) (sh : Bool) (f : Env → R (List D)) : TI := fun σ H Z => ∃ L W ρ Ro ds, SR P w K own H L W σ ρ Ro ∧ f ρ = .ok ds ∧ ∀ J H', Same H H' → WalkD P w K sh J H' (L ++ W) ds → Z J H'
section
variable {P : Program} {w : World} {K : PySem.W.Frag} {H H0 : Hp} {W : List Addr} {vs : List V} {ds : List D} {sh : Bool} {a : Addr}
theorem walk_list (h : SqL K (if sh = true then hid H0 W else H0) a vs) (r : Reps P w K (hid H0 W) vs ds) : WalkD P w K sh (Itl K a) H0 W ds := by
  intro i H U h1 h2 hU
  have hq : SqL K H a vs := by
    cases sh with
    | true => exact SqL.mono (Same.trans h2 hid_le) h
    | false => exact SqL.mono (h1 rfl) h
  refine ⟨fun d e => ?_, fun hl => ⟨vs, hq, by rw [r.length]; exact hl⟩⟩
  obtain ⟨v, ev, rv⟩ := r.get e
  refine ⟨⟨vs, v, hq, ev⟩, ?_⟩
  rintro x H' ⟨rfl, hx⟩
  have e2 := hx vs hq
  rw [ev] at e2; cases e2
  exact ⟨Same.refl _, rv.mono h2⟩
theorem walk_tup (h : SqT K (if sh = true then hid H0 W else H0) a vs) (r : Reps P w K (hid H0 W) vs ds) : WalkD P w K sh (Itt K a) H0 W ds := by
  intro i H U h1 h2 hU
  have hq : SqT K H a vs := by
    cases sh with
    | true => exact SqT.mono (Same.trans h2 hid_le) h
    | false => exact SqT.mono (h1 rfl) h
  refine ⟨fun d e => ?_, fun hl => ⟨vs, hq, by rw [r.length]; exact hl⟩⟩
  obtain ⟨v, ev, rv⟩ := r.get e
  refine ⟨⟨vs, v, hq, ev⟩, ?_⟩
  rintro x H' ⟨rfl, hx⟩
  have e2 := hx vs hq
  rw [ev] at e2; cases e2
  exact ⟨Same.refl _, rv.mono h2⟩
theorem walk_str (s : Str) : WalkD P w K sh (Its s) H0 W (s.cps.toList.map fun c => .str ⟨#[c]⟩) := by
  intro i H U h1 h2 hU
  refine ⟨fun d e => ?_, fun hl => ?_⟩
  · rw [List.getElem?_map] at e
    obtain ⟨c, hc, rfl⟩ := Option.map_eq_some_iff.mp e
    have hc' : s.cps[i]? = some c := by rw [← Array.getElem?_toList]; exact hc
    refine ⟨?_, ?_⟩
    · show i < s.cps.size
      exact (Array.getElem?_eq_some_iff.mp hc').1
    · rintro x H' ⟨rfl, c2, hc2, rfl⟩
      rw [hc'] at hc2; cases hc2
      exact ⟨Same.refl _, .str _ (by rw [sizeLine_eq]; show 1 ≤ _; decide)⟩
  · show s.cps.size ≤ i
    simpa using hl
theorem walk_rng (lo : Int) (n : Nat) : WalkD P w K sh (Itr lo n) H0 W ((List.range n).map fun (i : Nat) => D.int (lo + i)) := by
  intro i H U h1 h2 hU
  refine ⟨fun d e => ?_, fun hl => ?_⟩
  · rw [List.getElem?_map] at e
    obtain ⟨c, hc, rfl⟩ := Option.map_eq_some_iff.mp e
    obtain ⟨hlt, hc⟩ := List.getElem?_eq_some_iff.mp hc
    rw [List.getElem_range] at hc
    subst hc
    refine ⟨?_, ?_⟩
    · show i < n
      simpa using hlt
    · rintro x H' ⟨rfl, rfl⟩
      exact ⟨Same.refl _, .int _⟩
  · show n ≤ i
    simpa using hl
end
section
variable {X : Cx} {T : Str → Option Def} {F : Orc} {n : Nat} {N : List Str} {sc : Scope} {own : List O} {a b c tg : Expr} {fa fb fc : Env → R D} {ma mb mc : Md} {pos p : Pos}
abbrev PIX (X : Cx) (own : List O) (tg e : Expr) (sh : Bool) (f : Env → R (List D)) : Prop := PI X tg e (tXI X.prog X.w X.K own sh f)
theorem i_of {sh : Bool} (ha : PEX1 X own a fa) (hs : sh = true → ∃ md, md ≠ .b ∧ PEX X own a fa md) : PIX X own tg a sh (fun r => (fa r).bind seqD) := by
  refine ⟨fun pins s σ H Z I h => ?_⟩
  obtain ⟨L, W, ρ, Ro, ds, S, hf, q⟩ := h
  obtain ⟨x, hx, hf⟩ := R.bind_eq_ok.mp hf
  -- the value, seen as a sequence
  have key : ∀ (t : TE) (Z' : V → Hp → Prop), (∀ v H1, Same H H1 → Bor1 X.prog X.w X.K H1 (L ++ W) v x → (sh = true → Rep X.prog X.w X.K (hid H1 (L ++ W)) v x) → Z' v H1) → ∃ t, PE X a t ∧ t σ H Z' := fun _ Z' hz => by
    cases sh with
    | true =>
      obtain ⟨md, hm, hp⟩ := hs rfl
      exact ⟨_, hp, L, W, ρ, Ro, x, S, hx, fun v H1 s1 r => hz v H1 s1 (.inl (r.to_s S.hw s1 hm)) fun _ => r.to_s S.hw s1 hm⟩
    | false => exact ⟨_, ha, L, W, ρ, Ro, x, S, hx, fun v H1 s1 r => hz v H1 s1 r fun e => nomatch e⟩
  cases x <;> simp only [seqD] at hf <;> cases hf
  · rename_i z
    obtain ⟨t, hp, ht⟩ := key (fun _ _ _ => True) (fun v H1 => ∃ x, v = .str x ∧ Z (Its x) H1) fun v H1 s1 b1 r1 => ⟨z, b1.bor.str.1, q _ H1 s1 (walk_str z)⟩
    exact (pi_str hp).run pins s σ H Z I ht
  · obtain ⟨t, hp, ht⟩ := key (fun _ _ _ => True) (fun x H1 => ∃ a, x = .ref a ∧ (∃ xs, SqT X.K H1 a xs) ∧ Z (Itt X.K a) H1) fun v H1 s1 b1 r1 => by
      obtain ⟨p, vs, rfl, hp, hr⟩ := b1.tup
      refine ⟨p, rfl, ⟨vs, hp⟩, q _ H1 s1 ?_⟩
      cases sh with
      | false => exact walk_tup hp hr
      | true =>
        obtain ⟨p', vs', e, hp', hr'⟩ := (r1 rfl).tup'
        cases e
        exact walk_tup hp' hr'
    exact (pi_tup hp).run pins s σ H Z I ht
  · obtain ⟨t, hp, ht⟩ := key (fun _ _ _ => True) (fun x H1 => ∃ a, x = .ref a ∧ (∃ xs, SqL X.K H1 a xs) ∧ Z (Itl X.K a) H1) fun v H1 s1 b1 r1 => by
      obtain ⟨p, vs, rfl, hp, hr⟩ := b1.bor.lst
      refine ⟨p, rfl, ⟨vs, .inl hp⟩, q _ H1 s1 ?_⟩
      cases sh with
      | false => exact walk_list (.inl hp) hr
      | true =>
        have := r1 rfl
        cases this with
        | lst h1 h2 => exact walk_list (.inl h1) h2
    exact (pi_list hp).run pins s σ H Z I ht
theorem ite_ok {c : Prop} [Decidable c] {α : Type} {a b : α} (h : (if c then R.ok a else R.bad) = R.ok b) : c ∧ a = b := by
  split at h
  · cases h; exact ⟨by assumption, rfl⟩
  · cases h
theorem small_of {i : Int} (h : small62 i = true) : -(2 ^ 62) ≤ i ∧ i < 2 ^ 62 := by
  unfold small62 at h
  simp only [Bool.and_eq_true, decide_eq_true_eq] at h
  exact ⟨by omega, by omega⟩
theorem i_rng1 {sh : Bool} (hg : Gl X "range") (hm : X.mg "range" = none) (ha : PEX X own a fa ma) (hok : okX a = true) :
    PIX X own tg (.Call (.Name "range" p) [a] [] pos) sh (fun r => (fa r).bind fun x => (unint x).bind fun n => if small62 n then .ok ((List.range n.toNat).map fun (i : Nat) => D.int i) else .bad) := by
  refine ⟨fun pins s σ H Z I h => (pi_range1 hg hm (pa_cons ha pa_nil (okX_star hok _ _)) (okX_star hok _ _)).run pins s σ H Z I ?_⟩
  obtain ⟨L, W, ρ, Ro, ds, S, hf, q⟩ := h
  obtain ⟨x, hx, hf⟩ := R.bind_eq_ok.mp hf
  obtain ⟨n, hn, hf⟩ := R.bind_eq_ok.mp hf
  obtain ⟨hs, rfl⟩ := ite_ok hf
  cases unint_ok hn
  obtain ⟨h1, h2⟩ := small_of hs
  refine one_of S hx fun v H1 s1 bv S1 => ⟨n, by rw [bv.int], h1, h2, q _ H1 s1 ?_⟩
  have := walk_rng (P := X.prog) (w := X.w) (K := X.K) (sh := sh) (H0 := H1) (W := L ++ W) 0 n.toNat
  simpa using this
theorem i_rng2 {sh : Bool} (hg : Gl X "range") (hm : X.mg "range" = none) (ha : PEX X own a fa ma) (hb : PEX X own b fb mb) (hok : okX a = true) (hok2 : okX b = true) :
    PIX X own tg (.Call (.Name "range" p) [a, b] [] pos) sh (fun r => (fa r).bind fun x => (unint x).bind fun m => (fb r).bind fun y => (unint y).bind fun n => if small62 m && small62 n then .ok ((List.range (n - m).toNat).map fun (i : Nat) => D.int (m + i)) else .bad) := by
  refine ⟨fun pins s σ H Z I h => (pi_range2 hg hm (pa_cons ha (pa_cons hb pa_nil (okX_star hok2 _ _)) (okX_star hok _ _)) (by rw [okX_star hok, okX_star hok2]; rfl) (okX_star hok2 _ _)).run pins s σ H Z I ?_⟩
  obtain ⟨L, W, ρ, Ro, ds, S, hf, q⟩ := h
  obtain ⟨x, hx, hf⟩ := R.bind_eq_ok.mp hf
  obtain ⟨m, hm', hf⟩ := R.bind_eq_ok.mp hf
  obtain ⟨y, hy, hf⟩ := R.bind_eq_ok.mp hf
  obtain ⟨n, hn, hf⟩ := R.bind_eq_ok.mp hf
  obtain ⟨hs, rfl⟩ := ite_ok hf
  rw [Bool.and_eq_true] at hs
  cases unint_ok hn
  cases unint_ok hm'
  obtain ⟨h1, h2⟩ := small_of hs.1
  obtain ⟨h3, h4⟩ := small_of hs.2
  exact two_of S hx hy fun v u H2 s2 bv bu S2 => ⟨m, n, by rw [bv.int, bu.int], ⟨h1, h2, h3, h4⟩, q _ H2 s2 (walk_rng m _)⟩
end

section
variable {P : Program} {w : World} {K : PySem.W.Frag} {H H0 : Hp} {W : List Addr} {xs ys : List V} {ds es : List D} {sh : Bool} {a b : Addr}
theorem zip_get {ds es : List D} {i : Nat} {d : D} (h : (ds.zipWith (fun u v => D.tup [u, v]) es)[i]? = some d) : ∃ u v, ds[i]? = some u ∧ es[i]? = some v ∧ d = .tup [u, v] := by
  rw [List.getElem?_zipWith] at h
  cases e1 : ds[i]? with
  | none => rw [e1] at h; simp at h
  | some u =>
    cases e2 : es[i]? with
    | none => rw [e1, e2] at h; simp at h
    | some v =>
      rw [e1, e2] at h
      simp at h
      exact ⟨u, v, rfl, rfl, h.symm⟩
theorem zip_rep {U : List Addr} {T : Addr} {x y : V} {u v : D} (hT : H T = none) (hU : ∀ a ∈ U, H a ≠ none) (hx : Rep P w K (hid H U) x u) (hy : Rep P w K (hid H U) y v) : Same H (upd H T (.tup [x, y])) ∧ Rep P w K (hid (upd H T (.tup [x, y])) U) (.ref T) (.tup [u, v]) := by
  have hs := same_new (o := .tup [x, y]) hT
  exact ⟨hs, .tup (.inl (.inl (hid_some.mpr ⟨fun m => hU T m hT, upd_same⟩))) (.cons (hx.mono (hid_same hs)) (.cons (hy.mono (hid_same hs)) .nil))⟩
theorem walk_zipL (h : SqL K (if sh = true then hid H0 W else H0) a xs) (h' : SqL K (if sh = true then hid H0 W else H0) b ys) (r : Reps P w K (hid H0 W) xs ds) (r' : Reps P w K (hid H0 W) ys es) : WalkD P w K sh (Itz K a b) H0 W (ds.zipWith (fun u v => .tup [u, v]) es) := by
  intro i H U h1 h2 hU
  have mv : ∀ {a : Addr} {xs : List V}, SqL K (if sh = true then hid H0 W else H0) a xs → SqL K H a xs := fun {a xs} h => by
    cases sh with
    | true => exact SqL.mono (Same.trans h2 hid_le) h
    | false => exact SqL.mono (h1 rfl) h
  refine ⟨fun d e => ?_, fun hl => ⟨xs, ys, mv h, mv h', ?_⟩⟩
  · obtain ⟨u, v, e1, e2, rfl⟩ := zip_get e
    obtain ⟨x, ex, rx⟩ := r.get e1
    obtain ⟨y, ey, ry⟩ := r'.get e2
    refine ⟨⟨xs, ys, x, y, mv h, mv h', ex, ey⟩, ?_⟩
    rintro z H' ⟨T, x', y', rfl, hT, rfl, f1, f2⟩
    have e3 := f1 xs (mv h)
    have e4 := f2 ys (mv h')
    rw [ex] at e3; rw [ey] at e4
    cases e3; cases e4
    exact zip_rep hT hU (rx.mono h2) (ry.mono h2)
  · rw [List.length_zipWith] at hl
    rw [r.length, r'.length]
    omega
theorem walk_zipT (h : SqT K (if sh = true then hid H0 W else H0) a xs) (h' : SqT K (if sh = true then hid H0 W else H0) b ys) (r : Reps P w K (hid H0 W) xs ds) (r' : Reps P w K (hid H0 W) ys es) : WalkD P w K sh (RZ.ItzT K a b) H0 W (ds.zipWith (fun u v => .tup [u, v]) es) := by
  intro i H U h1 h2 hU
  have mv : ∀ {a : Addr} {xs : List V}, SqT K (if sh = true then hid H0 W else H0) a xs → SqT K H a xs := fun {a xs} h => by
    cases sh with
    | true => exact SqT.mono (Same.trans h2 hid_le) h
    | false => exact SqT.mono (h1 rfl) h
  refine ⟨fun d e => ?_, fun hl => ⟨xs, ys, mv h, mv h', ?_⟩⟩
  · obtain ⟨u, v, e1, e2, rfl⟩ := zip_get e
    obtain ⟨x, ex, rx⟩ := r.get e1
    obtain ⟨y, ey, ry⟩ := r'.get e2
    refine ⟨⟨xs, ys, x, y, mv h, mv h', ex, ey⟩, ?_⟩
    rintro z H' ⟨T, x', y', rfl, hT, rfl, f1, f2⟩
    have e3 := f1 xs (mv h)
    have e4 := f2 ys (mv h')
    rw [ex] at e3; rw [ey] at e4
    cases e3; cases e4
    exact zip_rep hT hU (rx.mono h2) (ry.mono h2)
  · rw [List.length_zipWith] at hl
    rw [r.length, r'.length]
    omega
end
theorem i_zip {X : Cx} {own : List O} {a b : Expr} {fa fb : Env → R D} {ma mb : Md} {elts : List Expr} {kk : Nat} {tpos p pos : Pos} {sh : Bool} (hg : Gl X "zip") (hm : X.mg "zip" = none) (ha : PEX X own a fa ma) (hb : PEX X own b fb mb) (h1 : ma ≠ .b) (h2 : mb ≠ .b) (hok : okX a = true) (hok2 : okX b = true) :
    PIX X own (.Tuple elts kk tpos) (.Call (.Name "zip" p) [a, b] [] pos) sh (fun r => (fa r).bind fun x => (fb r).bind fun y => zipD x y) := by
  have hp := x_cons (sh := true) ha (x_cons (sh := true) hb x_nil hok2 fun _ => h2) hok fun _ => h1
  refine ⟨fun pins s σ H Z I h => (RZ.pi_zipA hg hm hp (okX_star hok _ _) (plain_back (by rw [List.all_cons, hok2]; rfl))).run pins s σ H Z I ?_⟩
  obtain ⟨L, W, ρ, Ro, ds, S, hf, q⟩ := h
  obtain ⟨x, hx, hf⟩ := R.bind_eq_ok.mp hf
  obtain ⟨y, hy, hf⟩ := R.bind_eq_ok.mp hf
  refine ⟨L, W, ρ, Ro, [x, y], S, by show ((fa ρ).bind _) = _; rw [hx]; show (((fb ρ).bind _).bind _) = _; rw [hy]; rfl, fun vs H1 s1 b1 r1 => ?_⟩
  have r1 := r1 rfl
  have se : Same (hid H1 (L ++ W)) H1 := hid_le
  have mkL : ∀ {c : Addr} {zs : List V}, SqL X.K (hid H1 (L ++ W)) c zs → SqL X.K (if sh = true then hid H1 (L ++ W) else H1) c zs := fun {c zs} h => by
    cases sh with
    | true => exact h
    | false => exact SqL.mono se h
  have mkT : ∀ {c : Addr} {zs : List V}, SqT X.K (hid H1 (L ++ W)) c zs → SqT X.K (if sh = true then hid H1 (L ++ W) else H1) c zs := fun {c zs} h => by
    cases sh with
    | true => exact h
    | false => exact SqT.mono se h
  cases r1 with
  | cons c1 c2 =>
    cases c2 with
    | cons c3 c4 =>
      cases c4
      cases c1 with
      | tup h1 h2 =>
        cases c3 with
        | tup h3 h4 =>
          cases hf
          exact ⟨_, _, _, _, rfl, .inr ⟨SqT.mono se h1, SqT.mono se h3, q _ H1 s1 (walk_zipT (mkT h1) (mkT h3) h2 h4)⟩⟩
        | _ => cases hf
      | lst h1 h2 =>
        cases c3 with
        | lst h3 h4 =>
          cases hf
          exact ⟨_, _, _, _, rfl, .inl ⟨.inl (Rd.mono se h1), .inl (Rd.mono se h3), q _ H1 s1 (walk_zipL (mkL (.inl h1)) (mkL (.inl h3)) h2 h4)⟩⟩
        | _ => cases hf
      | _ => cases c3 <;> cases hf

/-! ### comprehensions -/
section
variable {P : Program} {w : World} {K : PySem.W.Frag} {own : List O} {H H' : Hp} {L W : List Addr} {σ : L2.St} {ρ : Env} {Ro : Nat → Option Addr}
theorem wipe_get (σ : L2.St) (k : Nat) : ∀ vs : List Nat, (wipe σ vs)[k]? = if k ∈ vs then (if k < σ.length then some none else none) else σ[k]?
  | [] => by simp [wipe]
  | v :: vs => by
    unfold wipe
    by_cases hv : v = k
    · subst hv
      rw [if_pos List.mem_cons_self]
      by_cases hl : v < σ.length
      · rw [List.getElem?_set_self (by rw [wipe_length]; exact hl), if_pos hl]
      · rw [List.getElem?_eq_none (by rw [List.length_set, wipe_length]; omega), if_neg hl]
    · rw [List.getElem?_set_ne hv, wipe_get σ k vs]
      have e : (k ∈ v :: vs) ↔ k ∈ vs := by rw [List.mem_cons]; exact ⟨fun z => z.resolve_left fun z => hv z.symm, .inr⟩
      simp only [e]
theorem wipe_eq {σ σ2 : L2.St} {vs : List Nat} (hl : σ2.length = σ.length) (h : ∀ k, k ∉ vs → σ2[k]? = (wipe σ vs)[k]?) : wipe σ2 vs = wipe σ vs := by
  refine List.ext_getElem? fun k => ?_
  rw [wipe_get, wipe_get]
  by_cases hk : k ∈ vs
  · rw [if_pos hk, if_pos hk, hl]
  · rw [if_neg hk, if_neg hk, h k hk, wipe_get, if_neg hk]
theorem killR_get (k : Nat) : ∀ (vs : List Nat) (ρ : Env) (d : D), (killR vs ρ)[k]? = some (some d) → k ∉ vs ∧ ρ[k]? = some (some d)
  | [], ρ, d, h => ⟨by simp, h⟩
  | v :: vs, ρ, d, h => by
    obtain ⟨h1, h2⟩ := killR_get k vs (ρ.set v none) d h
    by_cases hv : v = k
    · subst hv
      by_cases hl : v < ρ.length
      · rw [List.getElem?_set_self hl] at h2; cases h2
      · rw [List.getElem?_eq_none (by rw [List.length_set]; omega)] at h2; cases h2
    · rw [List.getElem?_set_ne hv] at h2
      exact ⟨fun z => (List.mem_cons.mp z).elim (fun z => hv z.symm) h1, h2⟩
theorem SR.wipe (S : SR P w K own H L W σ ρ Ro) (vs : List Nat) : SR P w K own H L W (wipe σ vs) (killR vs ρ) Ro := by
  have S' := S.kills vs
  refine ⟨by rw [S'.len, wipe_length], fun i d e => ?_, S'.loc, S'.inj, S'.wm⟩
  obtain ⟨hi, e'⟩ := killR_get i vs ρ d e
  obtain ⟨v, ev, ow⟩ := S.val i d e'
  exact ⟨v, by rw [wipe_get, if_neg hi]; exact ev, ow⟩
theorem mem3 {a p : Addr} : a ∈ L ++ p :: W ↔ a = p ∨ a ∈ L ++ W := by
  simp only [List.mem_append, List.mem_cons]
  constructor
  · rintro (h | h | h)
    · exact .inr (.inl h)
    · exact .inl h
    · exact .inr (.inr h)
  · rintro (h | h | h)
    · exact .inr (.inl h)
    · exact .inl h
    · exact .inr (.inr h)
theorem SR.moreW (S : SR P w K own H L W σ ρ Ro) {p : Addr} {o : HO} (h : H p = none) (m : Mut (some o)) : SR P w K own (upd H p o) L (p :: W) σ ρ Ro := by
  have hs := same_new (o := o) h
  refine ⟨S.len, fun i d e => ?_, fun i d a e r => ?_, S.inj, fun a q => ?_⟩
  · obtain ⟨v, e1, q⟩ := S.val i d e
    refine ⟨v, e1, q.mono (fun a ra => ⟨mem3.mpr (.inr (List.mem_append_left _ (S.loc i d a e ra).1)), hs _⟩) (hid_new hs fun a z => ?_)⟩
    rcases mem3.mp z with rfl | z
    · exact .inr h
    · exact .inl z
  · obtain ⟨h1, h2⟩ := S.loc i d a e r
    refine ⟨h1, fun z => ?_⟩
    rcases List.mem_cons.mp z with rfl | z
    · exact S.fresh h (List.mem_append_left _ h1)
    · exact h2 z
  · rcases mem3.mp q with rfl | q
    · exact ⟨o, upd_same, m⟩
    · obtain ⟨u, e, m⟩ := S.wm a q
      exact ⟨u, hs _ _ e, m⟩
/-- what no name owns is written -/
theorem SR.poke (S : SR P w K own H L W σ ρ Ro) {p : Addr} {o : HO} (h : p ∈ W) (m : Mut (some o)) : SR P w K own (upd H p o) L W σ ρ Ro := by
  have hp : p ∈ L ++ W := List.mem_append_right _ h
  refine ⟨S.len, fun i d e => ?_, S.loc, S.inj, fun a q => ?_⟩
  · obtain ⟨v, e1, q⟩ := S.val i d e
    refine ⟨v, e1, q.mono (fun a ra => ⟨List.mem_append_left _ (S.loc i d a e ra).1, fun o' e' => ?_⟩) (by rw [hid_upd hp]; exact Same.refl _)⟩
    rw [upd_ne]
    · exact e'
    · rintro rfl; exact (S.loc i d _ e ra).2 h
  · by_cases hb : a = p
    · subst hb; exact ⟨o, upd_same, m⟩
    · obtain ⟨u, e, mu⟩ := S.wm a q
      exact ⟨u, by rw [upd_ne hb]; exact e, mu⟩
end
theorem set_swap {α : Type} (l : List α) (i j : Nat) (a b : α) (h : i ≠ j) : (l.set i a).set j b = (l.set j b).set i a := List.set_comm a b h
theorem set_kill (i : Nat) (x : Option D) : ∀ (is : List Nat) (ρ : Env), i ∉ is → (killR is ρ).set i x = killR is (ρ.set i x)
  | [], ρ, _ => rfl
  | j :: is, ρ, h => by
    show (killR is (ρ.set j none)).set i x = killR is ((ρ.set i x).set j none)
    rw [set_kill i x is _ (fun m => h (List.mem_cons_of_mem _ m)), List.set_comm _ _ (fun e : j = i => h (by rw [← e]; exact List.mem_cons_self))]
theorem setMany_set (i : Nat) (x : Option D) : ∀ (is : List Nat) (ds : List D) (ρ : Env), i ∈ is → is.length = ds.length → setMany (ρ.set i x) is ds = setMany ρ is ds
  | [], _, _, h, _ => nomatch h
  | j :: is, [], _, _, hl => by simp at hl
  | j :: is, d :: ds, ρ, h, hl => by
    show setMany ((ρ.set i x).set j (some d)) is ds = setMany (ρ.set j (some d)) is ds
    by_cases e : i = j
    · subst e; rw [List.set_set]
    · rw [List.set_comm _ _ e]
      exact setMany_set i x is ds _ ((List.mem_cons.mp h).resolve_left e) (by simpa using hl)
theorem setMany_kill : ∀ (ks is : List Nat) (ds : List D) (ρ : Env), (∀ k ∈ ks, k ∈ is) → is.length = ds.length → setMany (killR ks ρ) is ds = setMany ρ is ds
  | [], _, _, _, _, _ => rfl
  | k :: ks, is, ds, ρ, h, hl => by
    show setMany (killR ks (ρ.set k none)) is ds = _
    rw [setMany_kill ks is ds _ (fun j m => h j (List.mem_cons_of_mem _ m)) hl, setMany_set k none is ds ρ (h k List.mem_cons_self) hl]
theorem setMany_len : ∀ (is : List Nat) (ds : List D) (ρ : Env), (setMany ρ is ds).length = ρ.length
  | [], _, _ => by unfold setMany; rfl
  | j :: is, [], _ => by unfold setMany; rfl
  | j :: is, d :: ds, ρ => by
    show (setMany (ρ.set j (some d)) is ds).length = _
    rw [setMany_len is ds, List.length_set]
theorem asgG_len {g : IG} {d : D} {ρ ρ' : Env} (h : asgG g d ρ = .ok ρ') : ρ'.length = ρ.length := by
  cases g with
  | nm i => cases h; rw [List.length_set]
  | tp is =>
    cases d <;> simp only [asgG] at h <;> first | cases h | skip
    split at h
    · cases h; exact setMany_len _ _ _
    · cases h
theorem asgG_kill (g : IG) (d : D) (ρ : Env) : asgG g d (killR (gV g) ρ) = asgG g d ρ := by
  cases g with
  | nm i =>
    show R.ok ((ρ.set i none).set i (some d)) = _
    rw [List.set_set]; rfl
  | tp is =>
    cases d <;> simp only [asgG]
    rename_i ds
    split
    · rename_i hl
      simp only [gV]
      rw [setMany_kill is is ds ρ (fun _ m => m) hl.symm]
    · rfl
section
variable {X : Cx} {own : List O} {tg iter elt : Expr} {ifs : List Expr} {scope : Scope} {oN : List (Str × Nat)} {pos : Pos} {me : Md} {fi : Env → R (List D)} {fc : Env → R Bool} {fe : Env → R D} {g : IG}
abbrev PTsX (X : Cx) (own : List O) (ifs : List Expr) (f : Env → R Bool) : Prop := PTs X ifs (tXT X.prog X.w X.K own f)
theorem ts_nil : PTsX X own [] (fun _ => .ok true) := ⟨fun pins s σ H Q I ⟨L, W, ρ, Ro, d, S, hf, q⟩ => by
  cases hf
  exact pts_nil.run pins s σ H Q I (q H (Same.refl H))⟩
/-- one turn -/
abbrev turnF (g : IG) (fc : Env → R Bool) (fe : Env → R D) (r : Env) (x : D) : R (Option D) := (asgG g x r).bind fun r' => (fc r').bind fun b => if b then (fe r').bind fun y => .ok (some y) else .ok none
theorem x_comp (hc : X.calm = true) (hN : X.N.Nodup) (hi : PIX X own tg iter false fi) (ok : BlkOk X.N X.env.scope scope oN) (hv : oN.map (·.2) = gV g)
    (hg : ∀ (s : Shared) (H : Hp) (C : Addr) (cl : List (Str × Addr)) (fp : List Addr), PG (X.blk s H scope (compEnvC scope cl C X.env) fp) tg (tXG X.prog X.w X.K own g))
    (ht : ∀ (s : Shared) (H : Hp) (C : Addr) (cl : List (Str × Addr)) (fp : List Addr), PTsX (X.blk s H scope (compEnvC scope cl C X.env) fp) own ifs fc)
    (he : ∀ (s : Shared) (H : Hp) (C : Addr) (cl : List (Str × Addr)) (fp : List Addr), PEX (X.blk s H scope (compEnvC scope cl C X.env) fp) own elt fe me) (hm : me ≠ .b) (hs : ∀ x, foldedSetIterable iter X.env x = pure x) :
    ∀ σ H Q, tX X.prog X.w X.K own (fun r => (fi r).bind fun xs => (compL (turnF g fc fe r) xs).bind fun ys => if ys.length ≤ lim then .ok (.lst ys) else .bad) .l σ H Q →
      tLc (tXI X.prog X.w X.K own false fi) (tXG X.prog X.w X.K own g) (tXT X.prog X.w X.K own fc) (tX X.prog X.w X.K own fe me) (oN.map (·.2)) σ H Q := by
  rintro σ H Q ⟨L, W, ρ, Ro, d, S, hf, q⟩
  obtain ⟨xs, hxs, hf⟩ := R.bind_eq_ok.mp hf
  obtain ⟨ys, hys, hf⟩ := R.bind_eq_ok.mp hf
  obtain ⟨hz, rfl⟩ := ite_ok hf
  rw [lim_line] at hz
  rw [hv]
  refine ⟨L, W, ρ, Ro, xs, S, hxs, fun J H1 s1 wk D hD => ?_⟩
  have S1 := S.same s1
  let Pv : Nat → Hp → Prop := fun i Hc => ∃ acc done rest, Hc D = some (.lst acc) ∧ Same H1 Hc ∧ Reps X.prog X.w X.K (hid Hc (L ++ D :: W)) acc done ∧ compL (turnF g fc fe ρ) (xs.drop i) = .ok rest ∧ done ++ rest = ys ∧
    SR X.prog X.w X.K own Hc L (D :: W) (wipe σ (gV g)) (killR (gV g) ρ) Ro
  have hidD : ∀ {Hc : Hp}, Same H1 Hc → Same (hid H1 (L ++ W)) (hid Hc (L ++ D :: W)) := fun hs => hid_new hs fun a z => by
    rcases mem3.mp z with rfl | z
    · exact .inr hD
    · exact .inl z
  refine ⟨fun i m Hc => m = xs.length - i ∧ i ≤ xs.length ∧ Pv i Hc, ⟨xs.length, rfl, Nat.zero_le _, [], [], ys, upd_same, same_new hD, .nil, hys, rfl, (S1.moreW (o := .lst []) hD trivial).wipe _⟩, ?_⟩
  rintro i m Hc ⟨rfl, hi, acc, done, rest, hDc, sc, ra, hr, hd, Sc⟩
  obtain ⟨w1, w2⟩ := wk i Hc (L ++ D :: W) (fun _ => sc) (hidD sc) Sc.hw
  by_cases hlt : i < xs.length
  · have hgi : xs[i]? = some xs[i] := List.getElem?_eq_getElem hlt
    obtain ⟨go, yl⟩ := w1 _ hgi
    refine .inr ⟨go, Pv (i + 1), fun H' p' => ⟨xs.length - (i + 1), by omega, rfl, hlt, p'⟩, fun x H2 y => ?_⟩
    obtain ⟨s2, rx⟩ := yl x H2 y
    rw [List.drop_eq_getElem_cons hlt] at hr
    obtain ⟨o, ho, hr⟩ := R.bind_eq_ok.mp hr
    obtain ⟨zs, hzs, hr⟩ := R.bind_eq_ok.mp hr
    obtain ⟨ρ', hρ, ho⟩ := R.bind_eq_ok.mp ho
    obtain ⟨b, hb, ho⟩ := R.bind_eq_ok.mp ho
    cases hr
    refine ⟨L, D :: W, killR (gV g) ρ, Ro, xs[i], ρ', Sc.same s2, rx, by rw [asgG_kill]; exact hρ, fun σ2 Ro2 S2 fr => ⟨wipe_eq ?_ fun k hk => fr k hk, L, D :: W, ρ', Ro2, b, S2, hb, fun H3 s3 => ?_⟩⟩
    · have e1 : ρ'.length = σ2.length := S2.len
      have e2 : (killR (gV g) ρ).length = (wipe σ (gV g)).length := Sc.len
      rw [wipe_length] at e2
      rw [← e1, ← e2]
      rw [← asgG_kill] at hρ
      rw [asgG_len hρ]
    · have hD3 : H3 D = some (.lst acc) := s3 _ _ (s2 _ _ hDc)
      have ra3 := ra.mono (hid_same (W := L ++ D :: W) (s2.trans s3))
      cases b with
      | false =>
        show Pv (i + 1) H3
        rw [if_neg (by decide)] at ho
        cases ho
        exact ⟨acc, done, zs, hD3, sc.trans (s2.trans s3), ra3, hzs, hd, (Sc.same s2).same s3⟩
      | true =>
        rw [if_pos rfl] at ho
        obtain ⟨yv, hyv, ho⟩ := R.bind_eq_ok.mp ho
        cases ho
        show tX X.prog X.w X.K own fe me σ2 H3 fun y H4 => ∃ acc, H4 D = some (HO.lst acc) ∧ acc.length < sizeLine ∧ Pv (i + 1) (upd H4 D (HO.lst (acc ++ [y])))
        have S3 := S2.same s3
        refine ⟨L, D :: W, ρ', Ro2, yv, S3, hyv, fun v H4 s4 rv => ?_⟩
        have rv' := rv.to_s S3.hw s4 hm
        have hD4 := s4 _ _ hD3
        have hl : acc.length = done.length := ra.length
        have hy : (done ++ yv :: zs).length ≤ sizeLine := by rw [hd]; exact hz
        rw [List.length_append, List.length_cons] at hy
        have s5 : Same H1 H4 := sc.trans (s2.trans (s3.trans s4))
        have hDW : D ∈ L ++ D :: W := mem3.mpr (.inl rfl)
        refine ⟨acc, hD4, by omega, acc ++ [v], done ++ [yv], zs, upd_same, fun a o e => ?_, ?_, hzs, ?_, ?_⟩
        · have hne : a ≠ D := by rintro rfl; rw [hD] at e; cases e
          rw [upd_ne hne]; exact s5 _ _ e
        · rw [hid_upd hDW]
          exact (ra3.mono (hid_same s4)).append (.cons rv' .nil)
        · rw [List.append_assoc]; exact hd
        · exact (((Sc.same s2).same s3).same s4).poke List.mem_cons_self trivial
  · have e : i = xs.length := by omega
    subst e
    refine .inl ⟨w2 (Nat.le_refl _), q _ Hc (s1.trans sc) ?_⟩
    rw [List.drop_length] at hr
    cases hr
    rw [List.append_nil] at hd
    subst hd
    refine Res.back s1 ⟨D, rfl, hD, .lst hDc (ra.mono (hid_sub fun a m => ?_))⟩
    rcases List.mem_cons.mp m with rfl | m
    · exact mem3.mpr (.inl rfl)
    · exact mem3.mpr (.inr m)
end
end MP
/-! sorted(d.keys()). -/
namespace MP
open PySem PySem.Spec PyProof.Rows L2 PySem.Calls

section
variable {X : Cx} {P : Program} {w : World}
theorem sort_core {pins : List (Addr × Obj)} {s : Shared} {σ : L2.St} {H : Hp} {its : List Value} {xs : List V} {ds : List D} {Goal : List Value → Prop} {Final : Prop} (hu : X.A.units + 110 < cLine) (I : L2.Inv X pins σ H s) (rv : Vals xs its) (hr : Reps P w X.K H xs ds) (hok : sortOk ds = true)
    (runner : ∀ ltv : Value → Value → Bool, SrtO.Swo ltv → (2 ≤ its.length → ∀ (s₁ : Shared) (b : Addr), (∀ c o, s.heap.get? c = some o → c ≠ b ∧ s₁.heap.get? c = some o) → SrtO.SortableO X.prog X.w X.A.in1.in1 s₁ b its ltv) →
      (∀ out : List Value, SrtO.Srtd ltv out → SrtO.Stb ltv out its → Goal out) → Final)
    (fin : ∀ (out : List Value) (l' : List (Value × V × D)), (its.zip (xs.zip ds)).Perm l' → l'.map (·.1) = out → l'.map (·.2.2) = sortL ds → Goal out) : Final := by
  classical
  have n1 : its.length = xs.length := rv.length.symm
  have n2 : xs.length = ds.length := hr.length
  obtain ⟨e1, e2, e3⟩ := zip3 n1 n2
  by_cases h2 : ds.length < 2
  · refine runner (fun _ _ => false) ⟨(fun _ _ z => nomatch z), (fun _ _ _ _ _ => rfl)⟩ (fun hh => absurd hh (by omega)) fun out hso hb => ?_
    obtain ⟨l', hp, ho⟩ := perm_lift (fun t : Value × V × D => t.1) hb.perm.symm e1
    refine fin out l' hp ho ?_
    have hd : (l'.map (·.2.2)).Perm ds := by
      have := hp.symm.map (fun t : Value × V × D => t.2.2)
      rw [e3] at this
      exact this
    match ds, h2, hd with
    | [], _, hd =>
      rw [List.perm_nil.mp hd]
      simp [sortL]
    | [d], _, hd =>
      rw [List.perm_singleton.mp hd]
      simp [sortL]
    | _ :: _ :: _, h2, _ => simp at h2; omega
  · obtain ⟨k, k1, hk, hk1, hk4, hall, hcmp⟩ := sortOk_two hok h2
    have hpl : ∀ d ∈ ds, plainN 30 d = true := fun d hd => (hall d hd).2.2
    have hli : LiesL s.heap its ds := Reps.lies I 30 ds xs its hpl hr rv
    let g : Value → D := fun u => if h : ∃ d, d ∈ ds ∧ Lies s.heap u d then Classical.choose h else .non
    have hg : ∀ u d, d ∈ ds → Lies s.heap u d → g u = d := fun u d hd hu' => by
      have he : ∃ d, d ∈ ds ∧ Lies s.heap u d := ⟨d, hd, hu'⟩
      show (if h : ∃ d, d ∈ ds ∧ Lies s.heap u d then Classical.choose h else .non) = d
      rw [dif_pos he]
      exact Lies.inj _ _ _ (Classical.choose_spec he).2 hu'
    have gp : ∀ u, plainN 30 (g u) = true := fun u => by
      show plainN 30 (if h : ∃ d, d ∈ ds ∧ Lies s.heap u d then Classical.choose h else .non) = true
      by_cases he : ∃ d, d ∈ ds ∧ Lies s.heap u d
      · rw [dif_pos he]; exact hpl _ (Classical.choose_spec he).1
      · rw [dif_neg he]; rfl
    have O := ord_plain 30
    have O2 : SrtO.Swo fun u v => dlt (g u) (g v) := by
      refine ⟨fun x y hxy => ?_, fun x y z h1 h2 => le_trans' O (gp x) (gp y) (gp z) h1 h2⟩
      cases hq : dlt (g y) (g x) with
      | false => rfl
      | true =>
        have := O.trn _ _ _ (gp x) (gp y) (gp x) hxy hq
        rw [O.irr _ (gp x)] at this
        cases this
    refine runner (fun u v => dlt (g u) (g v)) O2 (fun _ s₁ b kk => ?_) fun out hso hb => ?_
    · intro h' keep
      have kp : ∀ c o, s.heap.get? c = some o → h'.get? c = some o := fun c o e => keep c o (kk c o e).1 (kk c o e).2
      have hli' : LiesL h' its ds := hli.keep kp
      have item : ∀ u ∈ its, ∃ d, d ∈ ds ∧ Lies h' u d ∧ g u = d := fun u hm => by
        obtain ⟨j, hj, rfl⟩ := List.mem_iff_getElem.mp hm
        obtain ⟨d, ed, ld⟩ := hli'.get hj
        obtain ⟨d2, ed2, ld2⟩ := hli.get hj
        rw [ed] at ed2; cases ed2
        exact ⟨d, List.mem_of_getElem? ed, ld, hg _ d (List.mem_of_getElem? ed) ld2⟩
      have hz2 : 2 ≤ its.length := by omega
      have hu2 : X.A.in1.in1.units + 100 < cLine := by show X.A.units + 1 + 1 + 100 < cLine; omega
      by_cases h3 : k = 3
      · refine ⟨tuples' (typeT k1 != .type "tuple"), fun Q' E' hq => ?_, fun p p' m m' => ?_⟩
        · obtain ⟨fs, f1, f2, f3⟩ := firsts_made (M := model X.prog X.w) (h := h') (k := k1) (its := its) (fun u m => by
            obtain ⟨d, md, ld, _⟩ := item u m
            exact ⟨d, ld, (hall d md).1.trans h3, (hall d md).2.1⟩) hk1
          exact PySem.W.kat_kind (T := typeT k1) f1 (by omega) f3 (typeT_self _) hq
        · obtain ⟨d, md, ld, gd⟩ := item _ m
          obtain ⟨e, me, le, ge⟩ := item _ m'
          obtain ⟨c1, c2, c3⟩ := hall d md
          obtain ⟨c4, c5, c6⟩ := hall e me
          have hc := hcmp d md e me
          show wpAny (model X.prog X.w) X.A.in1.in1 (keyLt' (tuples' (typeT k1 != .type "tuple")) p.1 p'.1) (fun r s' => s' = { s₁ with heap := h' } ∧ r = dlt (g p.1) (g p'.1)) (fun _ _ => False) { s₁ with heap := h' }
          generalize p.1 = u1 at ld gd ⊢
          generalize p'.1 = u2 at le ge ⊢
          cases ld with
          | @tup ad ud xd t1 t2 =>
            cases le with
            | @tup ae ue xe t3 t4 =>
              have r := tup_true (s := { s₁ with heap := h' }) (A := X.A.in1.in1) (prog := X.prog) (w := X.w) (E := fun _ _ => False) (Q := fun r s' => s' = { s₁ with heap := h' } ∧ r = dlt (g (Value.ref ad)) (g (Value.ref ae))) (.tup t1 t2) (.tup t3 t4) c3 c6 (c2.trans c5.symm) (by rw [c2]; exact hk1) (by rw [c2]; exact hk4) hc hu2 ⟨rfl, by rw [gd, ge]⟩
              rw [c2] at r
              exact r
            | _ => rw [h3] at c4; simp [kindD] at c4
          | _ => rw [h3] at c1; simp [kindD] at c1
      · refine ⟨oneType', fun Q' E' hq => ?_, fun p p' m m' => ?_⟩
        · refine PySem.W.kas_kind (T := typeT k) hz2 (fun v m => ?_) ?_ (typeT_self _) hq
          · obtain ⟨d, md, ld, _⟩ := item v m
            rw [← (hall d md).1]
            exact looks_kind ld (by rw [(hall d md).1]; exact hk)
          · unfold typeT
            split <;> first | decide | exact absurd rfl h3
        · obtain ⟨d, md, ld, gd⟩ := item _ m
          obtain ⟨e, me, le, ge⟩ := item _ m'
          obtain ⟨c1, c2, c3⟩ := hall d md
          obtain ⟨c4, c5, c6⟩ := hall e me
          have r := one_true (s := { s₁ with heap := h' }) (A := X.A.in1.in1) (prog := X.prog) (w := X.w) (E := fun _ _ => False) (Q := fun r s' => s' = { s₁ with heap := h' } ∧ r = dlt (g p.1) (g p'.1)) ld le c3 c6 (c1.trans c4.symm) (by rw [c1]; exact hk) (by rw [c1]; exact h3) (hcmp d md e me) hu2 ⟨rfl, by rw [gd, ge]⟩
          exact r
    · obtain ⟨l', hp, ho⟩ := perm_lift (fun t : Value × V × D => t.1) hb.perm.symm e1
      refine fin out l' hp ho ?_
      have hd : (l'.map (·.2.2)).Perm ds := by
        have := hp.symm.map (fun t : Value × V × D => t.2.2)
        rw [e3] at this
        exact this
      have gt : ∀ t ∈ l', g t.1 = t.2.2 := fun t m => by
        have m' := hp.mem_iff.mpr m
        refine hg _ _ ?_ (lies_zip (xs := xs) hli n2 t m')
        rw [← e3]
        exact List.mem_map.mpr ⟨t, m', rfl⟩
      refine srtd_uniq O (fun x hx => hpl x (hd.mem_iff.mp hx)) (hd.trans (sortL_perm ds).symm) ?_ (sortL_srtd O hpl)
      have hs2 : out.Pairwise fun x y => dlt (g y) (g x) = false := hso
      rw [← ho, List.pairwise_map] at hs2
      rw [List.pairwise_map]
      exact hs2.imp_of_mem fun {x y} hx hy hxy => by rw [← gt x hx, ← gt y hy]; exact hxy

end

/-! ### the view -/
def keysO (p d : Addr) : HO := .ext fun h => PySem.W.KdlKeysView h p d
theorem keysO_ok {P : Program} {w : World} {H : Hp} {h : Heap} {p d : Addr} (e : h.get? p = some { cls := .type "dict_keys", data := .fields #[.ref d] }) : ObjOk P w H h p (keysO p d) :=
  ⟨⟨_, e, rfl, rfl⟩, ⟨_, e⟩, fun h1 h2 x k => let ⟨o, ho, r⟩ := x; ⟨o, k o ho, r⟩⟩
section
variable {prog : Program} {w : World} {A : Around} {E : Value → Shared → Prop} {s : Shared} {r d : Addr} {T : String} {n : Nat} {Pv : Nat → Value → Prop} {OK : Heap → Prop}
open PySem.W in
/-- the items of a source gathered -/
theorem kdl_collect {R : List Value → Shared → Prop} (K : KdlSrc prog w T r d n Pv OK) (hh : A.handled = none) (hok : OK s.heap) (hn : n ≤ sizeLine)
    (h : ∀ (h' : Heap) (tk : Nat) (vs : List Value), (∀ b o, s.heap.get? b = some o → h'.get? b = some o) → vs.length = n → (∀ j v, vs[j]? = some v → Pv j v) → R vs { s with heap := h', toks := tk }) :
    wpAny (model prog w) A (collect (.ref r)) R E s := by
  obtain ⟨hr, hd⟩ := K.there _ hok
  unfold collect
  refine wpAny_bind (wpAny_runValue (codeAny_builtin entry_proto_collect' ?_))
  rw [Around.under_plainId PySem.F.plain_proto_collect _]
  show wpAny _ A.in1 (newList [] >>= fun l => again (.builtin "list.__iadd__" ⟨[l, .ref r], []⟩)) _ _ s
  refine wpAny_bind (wpAny_newObj_type ?_)
  refine wpAny_pure ⟨plainId_quiet PySem.F.plain_list_iadd _, codeAny_builtin entry_list_iadd' ?_⟩
  rw [Around.under_plainId PySem.F.plain_list_iadd _]
  have hS₁ : (s.heap.push { cls := .type "list", data := .seq ([] : List Value).toArray }).get? s.heap.objs.size = some { cls := .type "list", data := .seq #[] } := Heap.get?_push_size _ rfl
  show wpAny _ A.in1 (Builtin.List.listExtendWith (.ref s.heap.objs.size) (.ref r) (.ref s.heap.objs.size)) _ _ _
  have key := kdl_extend (prog := prog) (w := w) (A := A) (s := { s with heap := s.heap.push { cls := .type "list", data := .seq ([] : List Value).toArray } })
    (R := fun (q : Result) (s' : Shared) => ∃ (h' : Heap) (tk : Nat) (acc' : Array Value) (c' : Nat), q = .ok (.ret (.ref s.heap.objs.size)) ∧ s' = { s with heap := h', toks := tk } ∧
      (∀ b o, s.heap.get? b = some o → h'.get? b = some o) ∧ h'.get? s.heap.objs.size = some { cls := .type "list", dict := none, data := .seq acc' c', slots := #[] } ∧ ItemsOf Pv acc' n)
    K hh (K.keep _ _ hok fun b _ o e => Heap.get?_push_of_some _ e) s.heap.objs.size (Nat.ne_of_gt hr) (Nat.ne_of_gt hd) (.ref s.heap.objs.size) 0 hS₁
    (fun h' tk acc' c' hk hS' hacc => ⟨h', tk, acc', c', rfl, rfl, fun b o e => hk b o (Nat.ne_of_lt (Heap.lt_size e)) (Heap.get?_push_of_some _ e), hS', hacc⟩) hn
  have fin : ∀ (h' : Heap) (tk : Nat) (acc' : Array Value), (∀ b o, s.heap.get? b = some o → h'.get? b = some o) → ItemsOf Pv acc' n → R acc'.toList { s with heap := h', toks := tk } := fun h' tk acc' hk hacc =>
    h h' tk acc'.toList hk (by rw [Array.length_toList]; exact hacc.1) fun j v e => hacc.2 j v (by rw [← Array.getElem?_toList]; exact e)
  refine wpAny_mono key (fun fi s' x => ?_) fun e s' x => ?_
  · cases fi with
    | done f =>
      obtain ⟨h', tk, acc', c', e, rfl, hk, hS', hacc⟩ := x
      cases e
      show wpAny _ A (load s.heap.objs.size >>= _) _ _ _
      refine wpAny_bind (wpAny_load hS' ?_)
      refine wpAny_pure ?_
      exact fin h' tk acc' hk hacc
    | again c₁ =>
      refine ⟨x.1, codeAny_mono x.2 fun q s₂ y => ?_⟩
      obtain ⟨h', tk, acc', c', rfl, rfl, hk, hS', hacc⟩ := y
      show wpAny _ A (load s.heap.objs.size >>= _) _ _ _
      refine wpAny_bind (wpAny_load hS' ?_)
      refine wpAny_pure ?_
      exact fin h' tk acc' hk hacc
  · obtain ⟨_, _, _, _, e', _⟩ := x
    cases e'
/-- sorted(it) from what is gathered -/
theorem sorted_by {Q : Value → Shared → Prop} {C : (List Value → Shared → Prop) → Prop} (hc : ∀ R : List Value → Shared → Prop, C R → wpAny (model prog w) A.in1 (collect (.ref r)) R E s)
    (h : C fun vs s' => vs.length ≤ sizeLine ∧ ∃ ltv : Value → Value → Bool, SrtO.Swo ltv ∧ (2 ≤ vs.length → ∀ (s₁ : Shared) (b : Addr), (∀ c o, s'.heap.get? c = some o → c ≠ b ∧ s₁.heap.get? c = some o) → SrtO.SortableO prog w A.in1.in1 s₁ b vs ltv) ∧
      ∀ out : List Value, SrtO.Srtd ltv out → SrtO.Stb ltv out vs → ∀ h2 : Heap, (∀ b o, s'.heap.get? b = some o → h2.get? b = some o) → (∃ n, h2.get? s'.heap.objs.size = some (seqObj "list" out.toArray n)) → Q (.ref s'.heap.objs.size) { s' with heap := h2 }) :
    wpAny (model prog w) A (call (.builtin "sorted") [.ref r]) Q E s := by
  refine call_function_entry kind_sorted plain_sorted entry_sorted (args_sorted1 _) ?_
  unfold Builtin.«sorted»
  refine wpAny_bind (m := checkCount "sorted" 1 1 _) (wpAny_pure ?_)
  refine wpAny_bind (wpAny_mono (hc _ h) (fun vs s' hx => ?_) fun _ _ e => e)
  obtain ⟨hz, ltv, O, hS, hq⟩ := hx
  refine wpAny_bind (wpAny_newList ?_ hz)
  have hoL : (s'.heap.push (seqObj "list" vs.toArray 0)).get? s'.heap.objs.size = some (seqObj "list" vs.toArray 0) := Heap.get?_push_size _ rfl
  have keep : ∀ b o, s'.heap.get? b = some o → b ≠ s'.heap.objs.size ∧ (s'.heap.push (seqObj "list" vs.toArray 0)).get? b = some o := fun b o q => ⟨Nat.ne_of_lt (Heap.lt_size q), Heap.get?_push_of_some _ q⟩
  show wpAny _ _ _ _ _ { s' with heap := s'.heap.push (seqObj "list" vs.toArray 0) }
  refine wpAny_bind (wpAny_holding (wpAny_call_entry slot_list_sort ⟨_, hoL, rfl⟩ entry_list_sort (SrtO.list_sort_ord O hoL hz (fun h2 => hS h2 { s' with heap := s'.heap.push (seqObj "list" vs.toArray 0) } _ keep) fun out hs hb => ⟨_, rfl, ?_⟩) (args_list_sort _)))
  refine wpAny_pure ⟨_, rfl, hq out hs hb _ (fun b o e => ?_) (sortedHeap_at hoL)⟩
  have h1 := keep b o e
  rw [sortedHeap_old h1.1 (Heap.lt_size h1.2)]
  exact h1.2
end
end MP
/-! sorted(d.keys()): the rule. -/
namespace MP
open PySem PySem.Spec PyProof.Rows L2 PySem.Calls

theorem paired_at {α β : Type} {F : α → β → Prop} : ∀ {xs : List α} {ys : List β}, Paired F xs ys → ∀ {i : Nat} {x : α}, xs[i]? = some x → ∃ y, ys[i]? = some y ∧ F x y
  | _, _, .nil, i, x, h => by simp at h
  | _, _, .cons r t, 0, x, h => by
    have e := Option.some.inj h
    subst e
    exact ⟨_, rfl, r⟩
  | _, _, .cons r t, i + 1, x, h => paired_at t h
theorem vals_ix : ∀ {xs : List V} {us : List Value}, xs.length = us.length → (∀ (j : Nat) x u, xs[j]? = some x → us[j]? = some u → RelV x u) → Vals xs us
  | [], [], _, _ => .nil
  | [], _ :: _, h, _ => by simp at h
  | _ :: _, [], h, _ => by simp at h
  | x :: xs, u :: us, h, hh => .cons (hh 0 x u rfl rfl) (vals_ix (by simpa using h) fun j a b e1 e2 => hh (j + 1) a b (by simpa using e1) (by simpa using e2))
theorem repK_keys {P : Program} {w : World} {K : PySem.W.Frag} {F : Hp} : ∀ {kvs : List (Key × V)} {ds : List (MP.D × MP.D)}, RepK P w K F kvs ds → Reps P w K F (kvs.map fun kv => kV kv.1) (ds.map (·.1))
  | _, _, .nil => .nil
  | _, _, .cons (k := k) z a b => by
    refine .cons ?_ (repK_keys b)
    cases k with
    | inl i => exact .int i
    | inr s => exact .str s (z s rfl)
theorem repT_keys {P : Program} {w : World} {K : PySem.W.Frag} {F : Hp} : ∀ {es : List (NestedKey × Addr × Value)} {ds : List (MP.D × MP.D)}, RepT P w K F es ds → Reps P w K F (es.map fun e => V.ref e.2.1) (ds.map (·.1))
  | _, _, .nil => .nil
  | _, _, .cons _ _ _ h4 _ _ h7 => .cons h4 (repT_keys h7)
section
variable {X : Cx} {e : Expr} {te : TE} {apos cpos : Pos} {P : Program} {w : World}
/-- the keys that stand at a, in order -/
def KeysAt (P : Program) (w : World) (H : Hp) (a : Addr) (ks : List V) : Prop := (∃ kvs, Rd H a (.dK kvs) ∧ ks = kvs.map fun kv => kV kv.1) ∨ ∃ es, Rd H a (.ext (RawD P w a es)) ∧ ks = es.map fun e => .ref e.2.1
theorem KeysAt.mono {P : Program} {w : World} {H H' : Hp} {a : Addr} {ks : List V} (h : Same H H') (k : KeysAt P w H a ks) : KeysAt P w H' a ks := k.imp (fun ⟨kvs, r, e⟩ => ⟨kvs, Rd.mono h r, e⟩) fun ⟨es, r, e⟩ => ⟨es, Rd.mono h r, e⟩
theorem keys_raw {pins : List (Addr × Obj)} {σ : L2.St} {H : Hp} {s : Shared} {a : Addr} {ks : List V} (I : L2.Inv X pins σ H s) (k : KeysAt X.prog X.w H a ks) :
    (a == sysModules) = false ∧ ∃ es ep, s.heap.DictRaw a es ep ∧ es.size = ks.length ∧ es.size ≤ sizeLine ∧ ∀ (j : Nat) (hi : j < es.size) x, ks[j]? = some x → RelV x es[j].key := by
  rcases k with ⟨kvs, hd, rfl⟩ | ⟨es, hd, rfl⟩
  · obtain ⟨hz, hs0, xs, kv, hdo⟩ := dk_rd I.hok hd
    obtain ⟨es, ep, hraw, hsz, hkey⟩ := hdo.raw
    have lk : kvs.length = xs.length := Paired.length kv
    refine ⟨hs0, es, ep, hraw, by rw [List.length_map]; omega, by omega, fun j hi x e1 => ?_⟩
    rw [List.getElem?_map] at e1
    obtain ⟨kvj, e3, rfl⟩ := Option.map_eq_some_iff.mp e1
    obtain ⟨y, ey, r1, r2⟩ := paired_at kv e3
    rw [r1]
    exact relV_key (hkey j hi y.1 y.2 ey).1
  · obtain ⟨⟨hs, hz, o, ents, ep, h1, h2, h3, h4, h5⟩, _⟩ := (show ObjOk X.prog X.w H s.heap a (.ext (RawD X.prog X.w a es)) from rd_of I.hok hd)
    have hl : ents.size = es.length := by
      have := congrArg List.length h4
      rw [Array.length_toList, List.length_map] at this
      exact this
    refine ⟨hs, ents, ep, ⟨o, h1, h2, h3⟩, by rw [List.length_map]; exact hl, by omega, fun j hi x e1 => ?_⟩
    rw [List.getElem?_map] at e1
    obtain ⟨e, e3, rfl⟩ := Option.map_eq_some_iff.mp e1
    have : ents[j]? = some (entryOfKey (nestedKind X.prog X.w) e) := by rw [← Array.getElem?_toList, h4, List.getElem?_map, e3]; rfl
    have e4 : ents[j] = entryOfKey (nestedKind X.prog X.w) e := by
      rw [Array.getElem?_eq_getElem hi] at this
      exact Option.some.inj this
    rw [e4]
    rfl
theorem meetsKeysRaw {prog : Program} {w : World} {d : Addr} {es : Array DictEntry} {ep : Nat} (hd : (d == sysModules) = false) :
    MeetsIn prog w (Builtin.«dict.keys» ⟨[.ref d], []⟩) (fun _ R s => s.heap.DictRaw d es ep ∧
      R (.ok (.ret (.ref s.heap.objs.size))) { s with heap := s.heap.push { cls := .type "dict_keys", data := .fields #[.ref d] } }) :=
  .of_wp fun A R s ⟨hm, h⟩ => by
    refine wpAny_bind ?_
    unfold Builtin.Dict.noArgs
    refine wpAny_bind (wpAny_notOrdered_dict hm.typeIs ?_)
    show wpAny _ _ (pure d) _ _ s
    refine wpAny_pure ?_
    show wpAny _ _ (Builtin.Dict.showsAll d >>= _) _ _ s
    unfold Builtin.Dict.showsAll
    rw [if_neg (by rw [hd]; exact Bool.false_ne_true)]
    refine wpAny_bind (wpAny_pure ?_)
    exact wpAny_bind (wpAny_newObj_type (wpAny_pure ⟨_, rfl, h⟩))
def tKeys (P : Program) (w : World) (te : TE) : TE := fun σ H Q => te σ H fun x H1 => ∃ a ks, x = .ref a ∧ KeysAt P w H1 a ks ∧ ∀ p, H1 p = none → Q (.ref p) (upd H1 p (keysO p a))
theorem pe_keysV (he : PE X e te) (hbase : attributeBase e "keys" X.env (eval e X.env) = eval e X.env) (hline : (apos.endLine == cpos.line) = true) : PE X (.Call (.Attribute e "keys" apos) [] [] cpos) (tKeys X.prog X.w te) := by
  refine ⟨fun pins s σ H Q I hq => ?_⟩
  refine wpAny_Call_method (T := "dict") (id := "dict.keys") hbase rfl hline F.plainAttrs_dict F.slot_dict_keys F.type_dict_keys (thn (he.run pins s σ H _ I hq) fun u s1 ⟨x, H1, I1, rx, d, ks, ex, hd, q⟩ => ?_)
  subst ex
  obtain rfl : u = Value.ref d := rx
  obtain ⟨hs0, es, ep, hraw, _, _, _⟩ := keys_raw I1 hd
  have hraw' := hraw
  obtain ⟨o, ho, hc, hdat⟩ := hraw'
  refine ⟨hraw.typeIs, fun b z => by cases z; exact ⟨o, ho, hc.2.1⟩, ?_⟩
  show wpAny _ _ (callWith cpos (.builtin "dict.keys") [.ref d] [] []) _ X.xe s1
  refine method_meetsIn F.slot_dict_keys F.entry_dict_keys rfl (PySem.evalArgs_none ⟨rfl, hraw.typeIs, F.args_dict_keys_1 _, _, meetsKeysRaw (es := es) (ep := ep) hs0, hraw, ?_⟩)
  exact ⟨.ref s1.heap.objs.size, upd H1 s1.heap.objs.size (keysO s1.heap.objs.size d), I1.laid (t' := s1.toks) (fun b o q => Heap.get?_push_of_some _ q) (Nat.le_refl _) (keysO_ok (Heap.get?_push_size _ rfl)), rfl, q _ (I1.hok.fresh (Nat.le_refl _))⟩
def rSortedK (P : Program) (w : World) (K : PySem.W.Frag) : List V → Hp → VK → Prop := fun vs H Q => ∃ p a ks ds W, vs = [.ref p] ∧ H p = some (keysO p a) ∧ KeysAt P w H a ks ∧ Reps P w K (hid H W) ks ds ∧ sortOk ds = true ∧
  ∀ ys p', (∀ G, Reps P w K G ks ds → Reps P w K G ys (sortL ds)) → H p' = none → Q (.ref p') (upd H p' (.lst ys))
theorem cr_sortedK (hc : X.calm = true) (hu : X.A.units + 110 < cLine) : CallR X (.builtin "sorted") (rSortedK X.prog X.w X.K) := by
  intro pins s σ H vs us Q I r h
  obtain ⟨p, a, ks, ds, W, rfl, hp, ha, hr, hok, q⟩ := h
  obtain ⟨u, rfl, ru⟩ := vals1 r
  obtain rfl : u = Value.ref p := ru
  have view : PySem.W.KdlKeysView s.heap p a := (show ObjOk X.prog X.w H s.heap p (keysO p a) from I.hok p _ hp).1
  obtain ⟨hs0, es, ep, hraw, hsz, hz, hkey⟩ := keys_raw I ha
  have hh : X.A.in1.handled = none := I.ok.hd hc
  refine sorted_by (A := X.A) (C := fun R => ∀ (h' : Heap) (tk : Nat) (vs : List Value), (∀ b o, s.heap.get? b = some o → h'.get? b = some o) → vs.length = es.size → (∀ j v, vs[j]? = some v → ∃ hi : j < es.size, v = es[j].key) → R vs { s with heap := h', toks := tk })
    (fun R h => kdl_collect (A := X.A.in1) PySem.KdlSrc.rawKeys hh ⟨view, hraw⟩ (by omega) h) fun h' tk its hk hl hP => ?_
  have I' : L2.Inv X pins σ H { s with heap := h', toks := tk } := I.kept hk
  have rv : Vals ks its := by
    refine vals_ix (by omega) fun j x u e1 e2 => ?_
    obtain ⟨hi, rfl⟩ := hP j u e2
    exact hkey j hi x e1
  refine ⟨by omega, sort_core (P := X.prog) (w := X.w) (ds := ds) (Goal := fun out => ∀ h2 : Heap, (∀ b o, h'.get? b = some o → h2.get? b = some o) → (∃ n, h2.get? h'.objs.size = some (seqObj "list" out.toArray n)) →
    EP X pins σ Q (.ref h'.objs.size) { s with heap := h2, toks := tk }) hu I' rv (hr.mono hid_le) hok (fun ltv O hS hg => ⟨ltv, O, hS, hg⟩) fun out l' hpm ho hd => ?_⟩
  intro h2 keep ⟨n, hn⟩
  have n1 : its.length = ks.length := rv.length.symm
  have n2 : ks.length = ds.length := hr.length
  obtain ⟨e1, e2, e3⟩ := zip3 n1 n2
  have hv : Vals (l'.map (·.2.1)) out := by
    rw [← ho]
    exact vals_of fun t m => vals_zip (ds := ds) rv n2 t (hpm.mem_iff.mpr m)
  have hy : ∀ G, Reps X.prog X.w X.K G ks ds → Reps X.prog X.w X.K G (l'.map (·.2.1)) (sortL ds) := fun G hG => by
    rw [← hd]
    exact reps_of fun t m => reps_zip hG n1 t (hpm.mem_iff.mpr m)
  have hlen : (l'.map (·.2.1)).length ≤ sizeLine := by
    rw [List.length_map, ← hpm.length_eq]
    have := congrArg List.length e1
    rw [List.length_map] at this
    omega
  exact ⟨.ref h'.objs.size, upd H h'.objs.size (.lst (l'.map (·.2.1))), I'.laid (t' := tk) keep (Nat.le_refl _) ⟨hlen, out, n, hv, hn⟩, rfl, q _ _ hy (I'.hok.fresh (Nat.le_refl _))⟩
end
section
variable {X : Cx} {own : List O} {a : Expr} {fa : Env → R MP.D} {ma : Md} {pos p ap cp : Pos}
theorem x_sortedK (hc : X.calm = true) (hu : X.A.units + 110 < cLine) (hg : Gl X "sorted") (hm : X.mg "sorted" = none) (ha : PEX X own a fa ma) (hok : okX a = true) (hl : lineB ap cp = true) :
    PEX X own (.Call (.Name "sorted" p) [.Call (.Attribute a "keys" ap) [] [] cp] [] pos) (fun r => (fa r).bind fun x => biD .sortedKeys [x]) .l :=
  PEi (pe_callB (cr_sortedK hc hu) hg hm boot_sorted (pa_cons (pe_keysV ha (okX_base hok _ _) hl) pa_nil rfl) (by decide) (by decide) rfl rfl) fun σ H Q ⟨L, W, ρ, Ro, d, S, hf, q⟩ => by
    obtain ⟨x, hx, hf⟩ := R.bind_eq_ok.mp hf
    cases x <;> simp only [biD] at hf <;> first | (cases hf; done) | skip
    rename_i kvs
    have prep : sortOk (kvs.map (·.1)) = true ∧ d = .lst (sortL (kvs.map (·.1))) ∧ ∀ v H1, Same H H1 → Bor X.prog X.w X.K H1 (L ++ W) v (.dic kvs) → ∃ a' ks, v = .ref a' ∧ KeysAt X.prog X.w H1 a' ks ∧ Reps X.prog X.w X.K (hid H1 (L ++ W)) ks (kvs.map (·.1)) := by
      split at hf
      · rename_i hflat
        unfold sortD at hf
        obtain ⟨hso, e⟩ := ite_ok hf
        refine ⟨hso, e.symm, fun v H1 s1 bv => ?_⟩
        obtain ⟨a', kk, rfl, hd, hr⟩ := dic_flat bv hflat
        exact ⟨a', _, rfl, .inl ⟨kk, hd, rfl⟩, repK_keys hr⟩
      · split at hf
        · rename_i hnf htup
          unfold sortD at hf
          obtain ⟨hso, e⟩ := ite_ok hf
          refine ⟨hso, e.symm, fun v H1 s1 bv => ?_⟩
          obtain ⟨a', rfl, ⟨kk, hd, hr⟩ | ⟨es, hd, _, hr⟩⟩ := bv.dic
          · exact ⟨a', _, rfl, .inl ⟨kk, hd, rfl⟩, repK_keys hr⟩
          · exact ⟨a', _, rfl, .inr ⟨es, hd, rfl⟩, repT_keys hr⟩
        · cases hf
    obtain ⟨hso, rfl, hkk⟩ := prep
    refine one_of S hx fun v H1 s1 bv S1 => ?_
    obtain ⟨a', ks, rfl, hd, hr⟩ := hkk v H1 s1 bv
    refine ⟨a', ks, rfl, hd, fun p1 hp1 => ?_⟩
    have s2 := same_new (o := keysO p1 a') hp1
    refine ⟨p1, a', ks, kvs.map (·.1), L ++ W, rfl, upd_same, hd.mono s2, hr.mono (hid_same s2), hso, fun ys p2 hy hp2 => ?_⟩
    have s3 := same_new (o := .lst ys) hp2
    exact q _ _ (s1.trans (s2.trans s3)) (Res.back (s1.trans s2) (res_lst hp2 (hy _ (hr.mono (hid_same s2)))))
end
end MP
/-! sorted(d.items()): the rule. -/
namespace MP
open PySem PySem.Spec PyProof.Rows L2 PySem.Calls

def itemsV (p d : Addr) : HO := .ext fun h => h.IsItemsView p d
theorem itemsV_ok {P : Program} {w : World} {H : Hp} {h : Heap} {p d : Addr} (e : h.get? p = some { cls := .type "dict_items", data := .fields #[.ref d] }) : ObjOk P w H h p (itemsV p d) :=
  ⟨⟨_, e, rfl, rfl⟩, ⟨_, e⟩, fun h1 h2 x k => let ⟨o, ho, r⟩ := x; ⟨o, k o ho, r⟩⟩
section
variable {X : Cx} {e : Expr} {te : TE} {apos cpos : Pos} {P : Program} {w : World}
theorem tuples_laid {pins : List (Addr × Obj)} {σ : L2.St} {H : Hp} {s : Shared} {h' : Heap} {tk : Nat} {kvs : List (Key × V)} {vs : List (Key × Value)} {as : List Addr} (I : L2.Inv X pins σ H s) (kv : KV kvs vs)
    (hk : ∀ b o, s.heap.get? b = some o → h'.get? b = some o) (hl : as.length = vs.length) (hG : PySem.W.KdxG (mixKind X.prog X.w) vs s.heap.objs.size h' as) :
    ∃ H' : Hp, (∀ b o, H b = some o → H' b = some o) ∧ (∀ t ∈ as, H t = none) ∧ Paired (fun (t : Addr) (q : Key × V) => H' t = some (.tup [kV q.1, q.2])) as kvs ∧ L2.Inv X pins σ H' { s with heap := h', toks := tk } := by
  have lk : kvs.length = vs.length := Paired.length kv
  have nd : as.Nodup := List.Pairwise.imp (fun {a b} (h : a < b) => Nat.ne_of_lt h) hG.rise
  have new : ∀ t ∈ as, H t = none := fun t ht => I.hok.fresh (Nat.le_of_lt (hG.above t ht))
  have atP := LiI.putT_at as kvs H (by omega) nd
  have off : ∀ b, b ∉ as → LiI.putT H as kvs b = H b := fun b h1 => LiI.putT_off as kvs _ h1
  have low : ∀ b o, s.heap.get? b = some o → b ∉ as := fun b o e z => absurd (Heap.lt_size e) (Nat.not_lt.mpr (Nat.le_of_lt (hG.above b z)))
  have kp : ∀ b u, H b = some u → (LiI.putT H as kvs) b = some u := fun b u e => by
    rw [off b (fun z => by rw [new b z] at e; cases e)]
    exact e
  refine ⟨LiI.putT H as kvs, kp, new, atP, ?_⟩
  refine I.call' (ch := []) rfl ⟨fun b o q _ _ _ => hk b o q, fun b o q _ _ _ => ⟨o.slots, hk b o q⟩, fun b o q n _ => ?_, fun b o q _ => ⟨o, hk b o q⟩, fun b xs q => kp b _ q, fun b o u q => kp b _ q, fun b ps q => ⟨#[], by rw [kp b _ q]; simp⟩⟩ (fun b u q => ?_) I.bare fun b z => by simp at z
  · rw [off b (low b o q)]
    exact n
  · by_cases hb : b ∈ as
    · obtain ⟨j, pk, e1, e2, e3⟩ := LiI.paired_ix atP hb
      rw [e3] at q
      cases q
      obtain ⟨key, k, x, f1, f2, f3⟩ := hG.pairs j b e1
      obtain ⟨qv, g1, g2, g3⟩ := LiI.paired_get kv e2
      rw [f1] at g1
      cases g1
      have rk : RelV (kV pk.1) key := by
        rw [g2]
        exact relV_key (show keyIs k key = true from f2)
      exact ⟨by show 2 ≤ sizeLine; decide, [key, x], .cons rk (.cons g3 .nil), ⟨_, f3, rfl, _, rfl⟩⟩
    · rw [off b hb] at q
      exact (I.hok b u q).stay (fun d v _ y => hk d v y) (fun d y => kp d _ y) fun d xs y => kp d _ y
def tItems (te : TE) : TE := fun σ H Q => te σ H fun x H1 => ∃ a kvs, x = .ref a ∧ Rd H1 a (.dK kvs) ∧ ∀ p, H1 p = none → Q (.ref p) (upd H1 p (itemsV p a))
theorem pe_itemsV (he : PE X e te) (hbase : attributeBase e "items" X.env (eval e X.env) = eval e X.env) (hline : (apos.endLine == cpos.line) = true) : PE X (.Call (.Attribute e "items" apos) [] [] cpos) (tItems te) := by
  refine ⟨fun pins s σ H Q I hq => ?_⟩
  refine wpAny_Call_method (T := "dict") (id := "dict.items") hbase rfl hline F.plainAttrs_dict F.slot_dict_items F.type_dict_items (thn (he.run pins s σ H _ I hq) fun u s1 ⟨x, H1, I1, rx, d, kvs, ex, hd, q⟩ => ?_)
  subst ex
  obtain rfl : u = Value.ref d := rx
  obtain ⟨hz, hs0, vs, kv, hdo⟩ := dk_rd I1.hok hd
  refine ⟨hdo.typeIs, hdo.mapOf.noDict, ?_⟩
  show wpAny _ _ (callWith cpos (.builtin "dict.items") [.ref d] [] []) _ X.xe s1
  refine method_meetsIn F.slot_dict_items F.entry_dict_items rfl (PySem.evalArgs_none ⟨rfl, hdo.typeIs, F.args_dict_items_1 _, _, meets_dict_items (mixKind X.prog X.w) d hs0, ⟨vs, hdo⟩, ?_⟩)
  exact ⟨.ref s1.heap.objs.size, upd H1 s1.heap.objs.size (itemsV s1.heap.objs.size d), I1.laid (t' := s1.toks) (fun b o q => Heap.get?_push_of_some _ q) (Nat.le_refl _) (itemsV_ok (Heap.get?_push_size _ rfl)), rfl, q _ (I1.hok.fresh (Nat.le_refl _))⟩
abbrev itD (ds : List (MP.D × MP.D)) : List MP.D := ds.map fun p => .tup [p.1, p.2]
theorem items_rep {K : PySem.W.Frag} {H H' : Hp} {W : List Addr} (hw : ∀ a ∈ W, H a ≠ none) (hs : Same H H') {kvs : List (Key × V)} {ds : List (MP.D × MP.D)} {as : List Addr} (h : RepK P w K (hid H W) kvs ds) (hn : ∀ t ∈ as, H t = none)
    (hp : Paired (fun (t : Addr) (q : Key × V) => H' t = some (.tup [kV q.1, q.2])) as kvs) : Reps P w K (hid H' W) (as.map V.ref) (itD ds) := by
  induction as generalizing kvs ds with
  | nil =>
    cases hp
    cases h
    exact .nil
  | cons t as ih =>
    cases hp with
    | cons e r =>
      cases h with
      | @cons k v vs d ds z a b =>
        have ht : t ∉ W := fun m => hw t m (hn t List.mem_cons_self)
        refine .cons (.tup (.inl (.inl (hid_some.mpr ⟨ht, e⟩))) (.cons ?_ (.cons (a.mono (hid_same hs)) .nil))) (ih b (fun t m => hn t (List.mem_cons_of_mem _ m)) r)
        cases k with
        | inl i => exact .int i
        | inr s => exact .str s (z s rfl)
def rSortedI (P : Program) (w : World) (K : PySem.W.Frag) : List V → Hp → VK → Prop := fun vs H Q => ∃ p a kvs ds W, vs = [.ref p] ∧ H p = some (itemsV p a) ∧ Rd H a (.dK kvs) ∧ RepK P w K (hid H W) kvs ds ∧ (∀ a ∈ W, H a ≠ none) ∧ sortOk (itD ds) = true ∧
  ∀ ys p' H1, Same H H1 → Reps P w K (hid H1 W) ys (sortL (itD ds)) → H1 p' = none → Q (.ref p') (upd H1 p' (.lst ys))
theorem cr_sortedI (hc : X.calm = true) (hu : X.A.units + 110 < cLine) : CallR X (.builtin "sorted") (rSortedI P w X.K) := by
  intro pins s σ H vs us Q I r h
  obtain ⟨p, a, kvs, ds, W, rfl, hp, ha, hr, hw, hok, q⟩ := h
  obtain ⟨u, rfl, ru⟩ := vals1 r
  obtain rfl : u = Value.ref p := ru
  have view : s.heap.IsItemsView p a := (show ObjOk X.prog X.w H s.heap p (itemsV p a) from I.hok p _ hp).1
  obtain ⟨hz, hs0, xs, kv, hdo⟩ := dk_rd I.hok ha
  obtain ⟨ep, hat⟩ := hdo.dictAt
  have lk : kvs.length = xs.length := Paired.length kv
  have hh : X.A.in1.handled = none := I.ok.hd hc
  refine sorted_by (A := X.A) (C := fun R => ∀ (h' : Heap) (tk : Nat) (as : List Addr), (∀ b o, s.heap.get? b = some o → h'.get? b = some o) → as.length = xs.length → PySem.W.KdxG (mixKind X.prog X.w) xs s.heap.objs.size h' as → R (as.map Value.ref) { s with heap := h', toks := tk })
    (fun R h => PySem.W.kdx_collect (A := X.A.in1) (knd := mixKind X.prog X.w) (kvs := xs) (ep := ep) hh view hat (by omega) h) fun h' tk as hk hl hG => ?_
  obtain ⟨H', hs, hnew, hat', I'⟩ := tuples_laid (tk := tk) I kv hk hl hG
  have rv : Vals (as.map V.ref) (as.map Value.ref) := LiI.vals_refs as
  have hrep : Reps P w X.K (hid H' W) (as.map V.ref) (itD ds) := items_rep hw hs hr hnew hat'
  refine ⟨by rw [List.length_map]; omega, sort_core (P := P) (w := w) (ds := itD ds) (Goal := fun out => ∀ h2 : Heap, (∀ b o, h'.get? b = some o → h2.get? b = some o) → (∃ n, h2.get? h'.objs.size = some (seqObj "list" out.toArray n)) →
    EP X pins σ Q (.ref h'.objs.size) { s with heap := h2, toks := tk }) hu I' rv (hrep.mono hid_le) hok (fun ltv O hS hg => ⟨ltv, O, hS, hg⟩) fun out l' hpm ho hd => ?_⟩
  intro h2 keep ⟨n, hn⟩
  have n1 : (as.map Value.ref).length = (as.map V.ref).length := by rw [List.length_map, List.length_map]
  have n2 : (as.map V.ref).length = (itD ds).length := hrep.length
  obtain ⟨e1, e2, e3⟩ := zip3 n1 n2
  have hv : Vals (l'.map (·.2.1)) out := by
    rw [← ho]
    exact vals_of fun t m => vals_zip (ds := itD ds) rv n2 t (hpm.mem_iff.mpr m)
  have hy : Reps P w X.K (hid H' W) (l'.map (·.2.1)) (sortL (itD ds)) := by
    rw [← hd]
    exact reps_of fun t m => reps_zip hrep n1 t (hpm.mem_iff.mpr m)
  have hlen : (l'.map (·.2.1)).length ≤ sizeLine := by
    rw [List.length_map, ← hpm.length_eq]
    have := congrArg List.length e1
    rw [List.length_map] at this
    rw [this, List.length_map]
    omega
  exact ⟨.ref h'.objs.size, upd H' h'.objs.size (.lst (l'.map (·.2.1))), I'.laid (t' := tk) keep (Nat.le_refl _) ⟨hlen, out, n, hv, hn⟩, rfl, q _ _ _ hs hy (I'.hok.fresh (Nat.le_refl _))⟩
end
section
variable {X : Cx} {own : List O} {a : Expr} {fa : Env → R MP.D} {ma : Md} {pos p ap cp : Pos}
theorem x_sortedI (hc : X.calm = true) (hu : X.A.units + 110 < cLine) (hg : Gl X "sorted") (hm : X.mg "sorted" = none) (ha : PEX X own a fa ma) (hok : okX a = true) (hl : lineB ap cp = true) :
    PEX X own (.Call (.Name "sorted" p) [.Call (.Attribute a "items" ap) [] [] cp] [] pos) (fun r => (fa r).bind fun x => biD .sortedItems [x]) .l :=
  PEi (pe_callB (cr_sortedI (P := X.prog) (w := X.w) hc hu) hg hm boot_sorted (pa_cons (pe_itemsV ha (okX_base hok _ _) hl) pa_nil rfl) (by decide) (by decide) rfl rfl) fun σ H Q ⟨L, W, ρ, Ro, d, S, hf, q⟩ => by
    obtain ⟨x, hx, hf⟩ := R.bind_eq_ok.mp hf
    cases x <;> simp only [biD] at hf <;> first | (cases hf; done) | skip
    rename_i kvs
    split at hf
    · rename_i hflat
      unfold sortD at hf
      obtain ⟨hso, rfl⟩ := ite_ok hf
      refine one_of S hx fun v H1 s1 bv S1 => ?_
      obtain ⟨a', kk, rfl, hd, hr⟩ := dic_flat bv hflat
      refine ⟨a', kk, rfl, hd, fun p1 hp1 => ?_⟩
      have s2 := same_new (o := itemsV p1 a') hp1
      have S2 := S1.same s2
      refine ⟨p1, a', kk, kvs, L ++ W, rfl, upd_same, Rd.mono s2 hd, hr.mono (hid_same s2), S2.hw, hso, fun ys p2 H2 s3 hy hp2 => ?_⟩
      exact q _ _ (s1.trans (s2.trans (s3.trans (same_new hp2)))) (Res.back (s1.trans (s2.trans s3)) (res_lst hp2 hy))
    · cases hf
end
end MP
set_option maxHeartbeats 4000000
/-! What the checker has seen, the evaluator tells: expressions. -/
namespace MP
open PySem PySem.Spec PyProof.Rows L2

section
variable {T : Str → Option Def} {F : Orc} {n : Nat} {N : List Str} {own : List O}
theorem MCtx.blk {X : Cx} {sc scope : Scope} (C : MCtx X T F n N sc) (s : Shared) (H : Hp) (Ca : Addr) (cl : List (Str × Addr)) (fp : List Addr) : MCtx (X.blk s H scope (compEnvC scope cl Ca X.env) fp) T F n N (relS scope sc) :=
  ⟨C.hN, C.nd, by rw [← C.sc]; rfl, C.calm, C.room, C.blt, C.fns, C.len⟩
theorem MCtx.sto {X : Cx} {sc scope : Scope} (C : MCtx X T F n N sc) (s : Shared) (H : Hp) (Ca : Addr) (cl : List (Str × Addr)) (fp : List Addr) : Sto (X.blk s H scope (compEnvC scope cl Ca X.env) fp) N (relS scope sc) scope false :=
  ⟨C.hN, C.nd, by rw [← C.sc]; rfl, C.calm, fun x h => by
    rcases h with h | h
    · cases h
    · show (scope.names.lookup x == some .cell) = true
      rw [h]; rfl⟩
theorem sE_ne {e : IE} (h : sE T own e = true) : mdE T own e ≠ .b := by
  unfold sE at h
  intro z
  rw [z] at h
  cases h
theorem md_bi (b : BI) (es : IEs) : mdE T own (.bi b es) = mdB b := by cases b <;> rfl
theorem tgOwn_v (g : IG) : (tgOwn N g).map (·.2) = gV g := by
  cases g with
  | nm i => rfl
  | tp is =>
    show (is.map _).map _ = is
    rw [List.map_map]
    exact List.map_id' is
theorem one_var {X : Cx} {sc : Scope} {i : Nat} {e : Expr} (C : MCtx X T F n N sc) (h : ckE T own N sc (.var i) e = true) (ho : oneE T own (.var i) = true) : PEX1 X own e (evalE F (.var i)) := by
  unfold ckE at h
  rw [Bool.and_eq_true] at h
  replace h := h.2
  split at h
  · rename_i x p
    simp only [Bool.and_eq_true, beq_iff_eq] at h
    obtain ⟨⟨h1, h2⟩, h3⟩ := h
    have e1 : evalE F (.var i) = varE i := by funext r; rw [evalE]
    rw [e1]
    refine x_var1 (by rw [C.hN]; exact h1) (C.vis h2) (noRes_1 h3).1 (noRes_1 h3).2 fun k hk => ?_
    unfold oneE at ho
    simp only [hk] at ho
    cases ho
  · cases h
theorem one_any {X : Cx} {sc : Scope} {ie : IE} {e : Expr} (C : MCtx X T F n N sc) (h : ckE T own N sc ie e = true) (ho : oneE T own ie = true) (hp : PEX X own e (evalE F ie) (mdE T own ie)) : PEX1 X own e (evalE F ie) := by
  cases ie <;> first | exact one_var C h ho | exact x_one hp (sE_ne ho)
theorem ifs_f {f g : Env → R D} : ∀ (b : R Bool) (r : Env), (b.bind fun k => if k = true then f r else g r).bind unbl = b.bind fun k => if k = true then (f r).bind unbl else (g r).bind unbl := by
  intro b r
  cases b with
  | ok k => cases k <;> rfl
  | err _ => rfl
  | bad => rfl
theorem isi_n {b : BI} (h : isIsi b = true) : biN b = ("isinstance" : Str) ∧ mdB b = .s := by
  cases b <;> first | exact ⟨rfl, rfl⟩ | cases h
theorem mdB_1 {b : BI} (h : (b == BI.tuple || b == BI.list) = true) : b = .tuple ∨ b = .list := by
  cases b <;> first | exact .inl rfl | exact .inr rfl | cases h
theorem me_join {d : D} {ds : List D} {r : D} (h : meD .join d ds = .ok r) : ∃ s, d = .str s := by
  cases d <;> simp only [meD] at h <;> first | cases h | exact ⟨_, rfl⟩
theorem me_find {d : D} {ds : List D} {r : D} (h : meD .find d ds = .ok r) : ∃ s, d = .str s := by
  cases d <;> simp only [meD] at h <;> first | cases h | exact ⟨_, rfl⟩

theorem t_ife {X : Cx} {a b c : Expr} {pos : Pos} {f fa fb : Env → R Bool} (hc : PTX X own c f) (ha : PTX X own a fa) (hb : PTX X own b fb) : PTX X own (.IfExp c a b pos) (fun r => (f r).bind fun k => if k then fa r else fb r) := by
  refine ⟨fun pins s σ H Q I ⟨L, W, ρ, Ro, d, S, hf, q⟩ => ?_⟩
  obtain ⟨k, hk, hf⟩ := R.bind_eq_ok.mp hf
  show wpAny _ _ (isTrue c X.env (eval c X.env) >>= fun k => if k = true then isTrue a X.env (eval a X.env) else isTrue b X.env (eval b X.env)) _ _ s
  refine wpAny_bind (thn (hc.run pins s σ H (fun k' H1 => k' = k ∧ Same H H1) I ⟨L, W, ρ, Ro, k, S, hk, fun H1 s1 => ⟨rfl, s1⟩⟩) fun k' s2 ⟨H1, I1, e, s1⟩ => ?_)
  subst e
  cases k' with
  | true =>
    rw [if_pos rfl] at hf ⊢
    exact ha.run pins s2 σ H1 Q I1 ⟨L, W, ρ, Ro, d, S.same s1, hf, fun H2 s3 => q H2 (s1.trans s3)⟩
  | false =>
    rw [if_neg (by decide)] at hf ⊢
    exact hb.run pins s2 σ H1 Q I1 ⟨L, W, ρ, Ro, d, S.same s1, hf, fun H2 s3 => q H2 (s1.trans s3)⟩
theorem both {X : Cx} {e : Expr} {f : Env → R D} {md : Md} (r : PEX X own e f md) (he : ∀ whole, isTrue e X.env whole = (do let v ← whole; standAt e.pos; holding [v] (truthy v))) : PEX X own e f md ∧ PTX X own e (fun r => (f r).bind unbl) := ⟨r, t_val r he⟩
mutual
theorem pe_of : ∀ (ie : IE) (X : Cx) (sc : Scope) (e : Expr), MCtx X T F n N sc → ckE T own N sc ie e = true → PEX X own e (evalE F ie) (mdE T own ie) ∧ PTX X own e (fun r => (evalE F ie r).bind unbl)
  | .var i, X, sc, e, C, h => by
    unfold ckE at h
    rw [Bool.and_eq_true] at h
    replace h := h.2
    split at h
    · simp only [Bool.and_eq_true, beq_iff_eq] at h
      obtain ⟨⟨h1, h2⟩, h3⟩ := h
      exact both (x_imp (x_var (X := X) (own := own) (by rw [C.hN]; exact h1) (C.vis h2) (noRes_1 h3).1 (noRes_1 h3).2) (g := evalE F (.var i)) (fun r => by rw [evalE]) rfl) fun _ => rfl
    · cases h
  | .int i, X, sc, e, C, h => by
    unfold ckE at h
    rw [Bool.and_eq_true] at h
    replace h := h.2
    split at h
    · rw [beq_iff_eq] at h
      subst h
      exact both (x_imp (x_int (X := X) (own := own)) (g := evalE F (.int i)) (fun r => by rw [evalE]) rfl) fun _ => rfl
    · cases h
  | .str i, X, sc, e, C, h => by
    unfold ckE at h
    rw [Bool.and_eq_true] at h
    replace h := h.2
    split at h
    · rw [Bool.and_eq_true, beq_iff_eq] at h
      obtain ⟨rfl, h⟩ := h
      exact both (x_imp (x_str (X := X) (own := own) h) (g := evalE F (.str i)) (fun r => by rw [evalE]) rfl) fun _ => rfl
    · cases h
  | .bl i, X, sc, e, C, h => by
    unfold ckE at h
    rw [Bool.and_eq_true] at h
    replace h := h.2
    split at h
    · rw [beq_iff_eq] at h
      subst h
      exact both (x_imp (x_bl (X := X) (own := own)) (g := evalE F (.bl i)) (fun r => by rw [evalE]) rfl) fun _ => rfl
    · cases h
  | .non, X, sc, e, C, h => by
    unfold ckE at h
    rw [Bool.and_eq_true] at h
    replace h := h.2
    split at h
    · exact both (x_imp (x_non (X := X) (own := own)) (g := evalE F .non) (fun r => by rw [evalE]) rfl) fun _ => rfl
    · cases h
  | .con _ _, X, sc, e, C, h => by unfold ckE at h; cases h
  | .tup es, X, sc, e, C, h => by
    unfold ckE at h
    rw [Bool.and_eq_true] at h
    replace h := h.2
    split at h
    · rw [Bool.and_eq_true, decide_eq_true_eq] at h
      obtain ⟨p1, p2, p3, _⟩ := pa_of es X sc true _ C h.1
      exact both (x_imp (x_tup p1 fun ρ ds e => by rw [p3 ρ ds e]; exact h.2) (g := evalE F (.tup es)) (fun r => by rw [evalE]) rfl) fun _ => rfl
    · cases h
  | .lst es, X, sc, e, C, h => by
    unfold ckE at h
    rw [Bool.and_eq_true] at h
    replace h := h.2
    split at h
    · rw [Bool.and_eq_true, decide_eq_true_eq] at h
      obtain ⟨p1, p2, p3, _⟩ := pa_of es X sc true _ C h.1
      exact both (x_imp (x_lst p1 fun ρ ds e => by rw [p3 ρ ds e]; exact h.2) (g := evalE F (.lst es)) (fun r => by rw [evalE]) rfl) fun _ => rfl
    · cases h
  | .edic, X, sc, e, C, h => by
    unfold ckE at h
    rw [Bool.and_eq_true] at h
    replace h := h.2
    split at h
    · exact both (x_imp (x_edic (X := X) (own := own)) (g := evalE F .edic) (fun r => by rw [evalE]) rfl) fun _ => rfl
    · cases h
  | .bin op a b, X, sc, e, C, h => by
    unfold ckE at h
    rw [Bool.and_eq_true] at h
    replace h := h.2
    split at h
    · simp only [Bool.and_eq_true, decide_eq_true_eq] at h
      obtain ⟨⟨rfl, h1⟩, h2⟩ := h
      exact both (x_imp (x_bin op (pe_of a X sc _ C h1).1 (pe_of b X sc _ C h2).1) (g := evalE F (.bin op a b)) (fun r => by rw [evalE]) rfl) fun _ => rfl
    · cases h
  | .neg a, X, sc, e, C, h => by
    unfold ckE at h
    rw [Bool.and_eq_true] at h
    replace h := h.2
    split at h
    · exact both (x_imp (x_neg (pe_of a X sc _ C h).1) (g := evalE F (.neg a)) (fun r => by rw [evalE]) rfl) fun _ => rfl
    · cases h
  | .cmp op a b, X, sc, e, C, h => by
    unfold ckE at h
    rw [Bool.and_eq_true] at h
    replace h := h.2
    split at h
    · simp only [Bool.and_eq_true, decide_eq_true_eq] at h
      obtain ⟨⟨rfl, h1⟩, h2⟩ := h
      have ha := (pe_of a X sc _ C h1).1
      have hb := (pe_of b X sc _ C h2).1
      refine ⟨x_imp (x_cmp C.hu op ha hb (ck_okX T own h2)) (fun r => by rw [evalE]) rfl, t_imp (t_cmp C.hu op ha hb (ck_okX T own h2)) fun r => ?_⟩
      rw [evalE]
      cases evalE F a r <;> simp only [R.bind_ok, R.bind_bad, R.bind_err]
      cases evalE F b r <;> simp only [R.bind_ok, R.bind_bad, R.bind_err]
      cases cmpD op _ _ <;> rfl
    · cases h
  | .chn o1 o2 a b c, X, sc, e, C, h => by
    unfold ckE at h
    rw [Bool.and_eq_true] at h
    replace h := h.2
    split at h
    · simp only [Bool.and_eq_true, decide_eq_true_eq] at h
      obtain ⟨⟨⟨⟨rfl, rfl⟩, h1⟩, h2⟩, h3⟩ := h
      have ha := (pe_of a X sc _ C h1).1
      have hb := (pe_of b X sc _ C h2).1
      have hc := (pe_of c X sc _ C h3).1
      refine ⟨x_imp (x_chn C.hu o1 o2 ha hb hc (ck_okX T own h3)) (fun r => by rw [evalE]) rfl, t_imp (t_chn C.hu o1 o2 ha hb hc (ck_okX T own h3)) fun r => ?_⟩
      rw [evalE]
      cases evalE F a r <;> simp only [R.bind_ok, R.bind_bad, R.bind_err]
      cases evalE F b r <;> simp only [R.bind_ok, R.bind_bad, R.bind_err]
      cases cmpD o1 _ _ <;> simp only [R.bind_ok, R.bind_bad, R.bind_err]
      rename_i k
      cases k
      · rfl
      · simp only [if_true]
        cases evalE F c r <;> simp only [R.bind_ok, R.bind_bad, R.bind_err]
        cases cmpD o2 _ _ <;> rfl
    · cases h
  | .and es, X, sc, e, C, h => by
    unfold ckE at h
    rw [Bool.and_eq_true] at h
    replace h := h.2
    split at h
    · obtain ⟨_, _, _, p4⟩ := pa_of es X sc false _ C h
      obtain ⟨q1, q2, _⟩ := p4 _ _ rfl _
      refine ⟨x_imp q1 (fun r => by rw [evalE]) rfl, t_imp q2.pt fun r => ?_⟩
      rw [evalE]
      cases evalAnd F es r <;> rfl
    · cases h
  | .or es, X, sc, e, C, h => by
    unfold ckE at h
    rw [Bool.and_eq_true] at h
    replace h := h.2
    split at h
    · obtain ⟨_, _, _, p4⟩ := pa_of es X sc false _ C h
      obtain ⟨_, _, q1, q2⟩ := p4 _ _ rfl _
      refine ⟨x_imp q1 (fun r => by rw [evalE]) rfl, t_imp q2.pt fun r => ?_⟩
      rw [evalE]
      cases evalOr F es r <;> rfl
    · cases h
  | .not a, X, sc, e, C, h => by
    unfold ckE at h
    rw [Bool.and_eq_true] at h
    replace h := h.2
    split at h
    · obtain ⟨ha, ta⟩ := pe_of a X sc _ C h
      refine ⟨x_imp (x_not ha) (fun r => by rw [evalE]) rfl, t_imp (t_not ta) fun r => ?_⟩
      rw [evalE]
      cases evalE F a r <;> simp only [R.bind_ok, R.bind_bad, R.bind_err]
      cases unbl _ <;> rfl
    · cases h
  | .ife c a b, X, sc, e, C, h => by
    unfold ckE at h
    rw [Bool.and_eq_true] at h
    replace h := h.2
    split at h
    · simp only [Bool.and_eq_true] at h
      obtain ⟨⟨⟨⟨h1, h2⟩, h3⟩, h4⟩, h5⟩ := h
      have ha := (pe_of a X sc _ C h2).1
      have hb := (pe_of b X sc _ C h3).1
      have tc := (pe_of c X sc _ C h1).2
      refine ⟨x_imp (x_ife tc ha hb (sE_ne h4) (sE_ne h5)) (fun r => by rw [evalE]; cases evalE F c r <;> rfl) rfl, t_imp (t_ife tc (pe_of a X sc _ C h2).2 (pe_of b X sc _ C h3).2) fun r => ?_⟩
      rw [evalE]
      cases evalE F c r <;> simp only [R.bind_ok, R.bind_bad, R.bind_err]
      cases unbl _ <;> simp only [R.bind_ok, R.bind_bad, R.bind_err]
      rename_i k
      cases k <;> rfl
    · cases h
  | .idx a b, X, sc, e, C, h => by
    unfold ckE at h
    rw [Bool.and_eq_true] at h
    replace h := h.2
    split at h
    · simp only [Bool.and_eq_true] at h
      obtain ⟨⟨h1, h2⟩, h3⟩ := h
      have ha := one_any C h1 h3 (pe_of a X sc _ C h1).1
      exact both (x_imp (x_idx C.hu ha (pe_of b X sc _ C h2).1 (ck_okX T own h2)) (g := evalE F (.idx a b)) (fun r => by rw [evalE]) rfl) fun _ => rfl
    · cases h
  | .sl a lo hi, X, sc, e, C, h => by
    unfold ckE at h
    rw [Bool.and_eq_true] at h
    replace h := h.2
    split at h
    · simp only [Bool.and_eq_true] at h
      obtain ⟨⟨⟨h1, h2⟩, h3⟩, h4⟩ := h
      exact both (x_imp (x_sl (one_any C h1 h4 (pe_of a X sc _ C h1).1) (po_of lo X sc _ C h2) (po_of hi X sc _ C h3)) (g := evalE F (.sl a lo hi)) (fun r => by rw [evalE]) rfl) fun _ => rfl
    · cases h
  | .rev a, X, sc, e, C, h => by
    unfold ckE at h
    rw [Bool.and_eq_true] at h
    replace h := h.2
    split at h
    · exact both (x_imp (x_rev (pe_of a X sc _ C h).1) (g := evalE F (.rev a)) (fun r => by rw [evalE] <;> cases evalE F a r <;> rfl) rfl) fun _ => rfl
    · cases h
  | .call f es, X, sc, e, C, h => by
    unfold ckE at h
    rw [Bool.and_eq_true] at h
    replace h := h.2
    split at h
    · simp only [Bool.and_eq_true, beq_iff_eq] at h
      obtain ⟨⟨⟨⟨rfl, h1⟩, h2⟩, h3⟩, h4⟩ := h
      obtain ⟨p1, p2, _, _⟩ := pa_of es X sc true _ C h4
      obtain ⟨d, hd⟩ := Option.isSome_iff_exists.mp h3
      exact both (x_imp (x_call C hd h1 h2 p1 p2) (g := evalE F (.call _ es)) (fun r => by rw [evalE]) (md' := mdE T own (.call _ es)) (by rw [mdE]; simp only [hd])) fun _ => rfl
    · cases h
  | .lend f l es, X, sc, e, C, h => by
    unfold ckE at h
    rw [Bool.and_eq_true] at h
    replace h := h.2
    split at h
    · simp only [Bool.and_eq_true, beq_iff_eq] at h
      obtain ⟨⟨⟨⟨rfl, h1⟩, h2⟩, h3⟩, h4⟩ := h
      obtain ⟨p1, p2, _, _⟩ := pa_of es X sc false _ C h4
      split at h3
      · rename_i d hd
        have hl : d.ro = if l then .li else .sh := by
          split at h3
          · rename_i e; rw [e]; cases l <;> first | rfl | (cases h3; done)
          · rename_i e; rw [e]; cases l <;> first | rfl | (cases h3; done)
          · cases h3
          · cases h3
        exact both (x_imp (x_lend C hd hl h1 h2 p1 p2) (g := evalE F (.lend _ l es)) (fun r => by rw [evalE]) (md' := mdE T own (.lend _ l es)) (by rw [mdE])) fun _ => rfl
      · cases h3
    · cases h
  | .bi b es, X, sc, e, C, h => by
    unfold ckE at h
    rw [Bool.and_eq_true] at h
    replace h := h.2
    split at h
    · rename_i a
      have ev : ∀ r, evalE F (.bi b (.cons a .nil)) r = (evalE F a r).bind fun x => biD b [x] := fun r => by
        rw [evalE, evalEs, evalEs]
        cases evalE F a r <;> rfl
      split at h
      · rename_i hb
        subst hb
        split at h
        · simp only [Bool.and_eq_true, beq_iff_eq] at h
          obtain ⟨⟨⟨⟨rfl, h1⟩, rfl⟩, h3⟩, h4⟩ := h
          exact both (x_imp (x_sortedK C.calm C.hu (C.gl h1) (C.blt _ (bm _ (by decide +kernel))) (pe_of a X sc _ C h4).1 (ck_okX T own h4) h3) ev rfl) fun _ => rfl
        · cases h
      rename_i hb0
      split at h
      · rename_i hb
        subst hb
        split at h
        · simp only [Bool.and_eq_true, beq_iff_eq] at h
          obtain ⟨⟨⟨⟨rfl, h1⟩, rfl⟩, h3⟩, h4⟩ := h
          exact both (x_imp (x_sortedI C.calm C.hu (C.gl h1) (C.blt _ (bm _ (by decide +kernel))) (pe_of a X sc _ C h4).1 (ck_okX T own h4) h3) ev rfl) fun _ => rfl
        · cases h
      split at h
      · simp only [Bool.and_eq_true, beq_iff_eq] at h
        obtain ⟨⟨⟨rfl, h1⟩, h2⟩, h3⟩ := h
        have ha := (pe_of a X sc _ C h2).1
        refine both ?_ fun _ => rfl
        rw [Bool.or_eq_true, Bool.and_eq_true] at h3
        rcases h3 with h3 | ⟨h3, h4⟩
        · exact x_imp (x_bi C b h3 h1 ha (ck_okX T own h2)) ev (md_bi b _)
        · have ha1 := one_any C h2 h4 ha
          rcases mdB_1 h3 with rfl | rfl
          · exact x_imp (x_tuple C h1 ha1 (ck_okX T own h2)) ev rfl
          · exact x_imp (x_list C h1 ha1 (ck_okX T own h2)) ev rfl
      · simp only [Bool.and_eq_true, beq_iff_eq] at h
        obtain ⟨⟨⟨⟨⟨rfl, h1⟩, h2⟩, h3⟩, h4⟩, h5⟩ := h
        subst h4
        exact both (x_imp (x_isi C b h2 h1 h5 (pe_of a X sc _ C h3).1 (ck_okX T own h3)) ev ((md_bi (T := T) (own := own) b (.cons a .nil)).trans (isi_n h2).2)) fun _ => rfl
      · cases h
    · cases h
  | .me m a es, X, sc, e, C, h => by
    unfold ckE at h
    rw [Bool.and_eq_true] at h
    replace h := h.2
    split at h
    · rename_i b
      have ev : ∀ r, evalE F (.me m a (.cons b .nil)) r = (evalE F a r).bind fun x => (evalE F b r).bind fun y => meD m x [y] := fun r => by
        rw [evalE, evalEs, evalEs]
        cases evalE F a r <;> simp only [R.bind_ok, R.bind_bad, R.bind_err]
        cases evalE F b r <;> rfl
      split at h
      · simp only [Bool.and_eq_true, Bool.or_eq_true, beq_iff_eq] at h
        obtain ⟨⟨⟨h1, h2⟩, h3⟩, h4⟩ := h
        have ha := (pe_of a X sc _ C h2).1
        have hb := (pe_of b X sc _ C h3).1
        rcases h4 with ⟨rfl, rfl⟩ | ⟨rfl, rfl⟩
        · exact both (x_imp (x_me PySem.F.slot_str_join PySem.F.type_str_join mt_joinM (fun _ _ _ => me_join) ha hb (ck_okX T own h2) (ck_okX T own h3) h1) ev (md' := mdE T own (.me .join a (.cons b .nil))) rfl) fun _ => rfl
        · exact both (x_imp (x_me PySem.F.slot_str_find PySem.F.type_str_find mt_findM (fun _ _ _ => me_find) ha hb (ck_okX T own h2) (ck_okX T own h3) h1) ev (md' := mdE T own (.me .find a (.cons b .nil))) rfl) fun _ => rfl
      · cases h
    · rename_i b c
      have ev : ∀ r, evalE F (.me m a (.cons b (.cons c .nil))) r = (evalE F a r).bind fun x => (evalE F b r).bind fun y => (evalE F c r).bind fun z => meD m x [y, z] := fun r => by
        rw [evalE, evalEs, evalEs, evalEs]
        cases evalE F a r <;> simp only [R.bind_ok, R.bind_bad, R.bind_err]
        cases evalE F b r <;> simp only [R.bind_ok, R.bind_bad, R.bind_err]
        cases evalE F c r <;> rfl
      split at h
      · simp only [Bool.and_eq_true, beq_iff_eq] at h
        obtain ⟨⟨⟨⟨⟨⟨h1, h2⟩, h3⟩, h4⟩, rfl⟩, rfl⟩, h5⟩ := h
        exact both (x_imp (x_get2 C.hu (pe_of a X sc _ C h2).1 (pe_of b X sc _ C h3).1 (pe_of c X sc _ C h4).1 (sE_ne h5) (ck_okX T own h2) (ck_okX T own h3) (ck_okX T own h4) h1) ev (md' := mdE T own (.me .get a (.cons b (.cons c .nil)))) rfl) fun _ => rfl
      · cases h
    · cases h
  | .comp g it .no elt, X, sc, e, C, h => by
    unfold ckE at h
    rw [Bool.and_eq_true] at h
    replace h := h.2
    split at h
    · simp only [Bool.and_eq_true] at h
      obtain ⟨⟨⟨⟨⟨h1, h2⟩, h3⟩, h4⟩, h5⟩, h6⟩ := h
      rename_i ifs scope pos
      cases ifs with
      | cons _ _ => cases h4
      | nil =>
        obtain ⟨p1, p2⟩ := pi_of it X sc _ _ false C h1
        have ok := blkOk_by h3
        have L := x_comp (g := g) (fc := fun _ => .ok true) (fe := evalE F elt) (me := mdE T own elt) (ifs := []) C.calm (by rw [C.hN]; exact C.nd) p1 (by rw [C.hN, C.sc]; exact ok) (tgOwn_v g)
          (fun s H Ca cl fp => g_of (C.sto s H Ca cl fp) h2) (fun s H Ca cl fp => ts_nil) (fun s H Ca cl fp => (pe_of elt _ _ _ (C.blk s H Ca cl fp) h5).1) (sE_ne h6) p2
        exact both (x_imp (PEi (pe_lc C.calm (by rw [C.hN]; exact C.nd) p1 (by rw [C.hN, C.sc]; exact ok) (fun s H Ca cl fp => g_of (C.sto s H Ca cl fp) h2) (fun s H Ca cl fp => ts_nil) (fun s H Ca cl fp => (pe_of elt _ _ _ (C.blk s H Ca cl fp) h5).1) p2) L)
          (g := evalE F (.comp g it .no elt)) (fun r => by rw [evalE]; rfl) (md' := mdE T own (.comp g it .no elt)) rfl) fun _ => rfl
    · cases h
  | .comp g it (.yes ce) elt, X, sc, e, C, h => by
    unfold ckE at h
    rw [Bool.and_eq_true] at h
    replace h := h.2
    split at h
    · simp only [Bool.and_eq_true] at h
      obtain ⟨⟨⟨⟨⟨h1, h2⟩, h3⟩, h4⟩, h5⟩, h6⟩ := h
      rename_i ifs scope pos
      split at h4
      · rename_i z
        obtain ⟨p1, p2⟩ := pi_of it X sc _ _ false C h1
        have ok := blkOk_by h3
        have L := x_comp (g := g) (fc := fun r => (evalE F ce r).bind unbl) (fe := evalE F elt) (me := mdE T own elt) (ifs := [z]) C.calm (by rw [C.hN]; exact C.nd) p1 (by rw [C.hN, C.sc]; exact ok) (tgOwn_v g)
          (fun s H Ca cl fp => g_of (C.sto s H Ca cl fp) h2) (fun s H Ca cl fp => pts_one (pe_of ce _ _ _ (C.blk s H Ca cl fp) h4).2) (fun s H Ca cl fp => (pe_of elt _ _ _ (C.blk s H Ca cl fp) h5).1) (sE_ne h6) p2
        exact both (x_imp (PEi (pe_lc C.calm (by rw [C.hN]; exact C.nd) p1 (by rw [C.hN, C.sc]; exact ok) (fun s H Ca cl fp => g_of (C.sto s H Ca cl fp) h2) (fun s H Ca cl fp => pts_one (pe_of ce _ _ _ (C.blk s H Ca cl fp) h4).2) (fun s H Ca cl fp => (pe_of elt _ _ _ (C.blk s H Ca cl fp) h5).1) p2) L)
          (g := evalE F (.comp g it (.yes ce) elt)) (fun r => by rw [evalE]; rfl) (md' := mdE T own (.comp g it (.yes ce) elt)) rfl) fun _ => rfl
      · cases h4
    · cases h
theorem pa_of : ∀ (ies : IEs) (X : Cx) (sc : Scope) (sh : Bool) (l : List Expr), MCtx X T F n N sc → ckEs T own N sc sh ies l = true → PAX X own l (evalEs F ies) sh ∧ l.all okX = true ∧ (∀ ρ ds, evalEs F ies ρ = .ok ds → ds.length = l.length) ∧
    ∀ a l', l = a :: l' → ∀ pos, PEX X own (.BoolOp .And l pos) (blR (evalAnd F ies)) .s ∧ PWX X own (.BoolOp .And l pos) (evalAnd F ies) ∧ PEX X own (.BoolOp .Or l pos) (blR (evalOr F ies)) .s ∧ PWX X own (.BoolOp .Or l pos) (evalOr F ies)
  | .nil, X, sc, sh, l, C, h => by
    unfold ckEs at h
    cases l with
    | cons _ _ => cases h
    | nil => exact ⟨a_imp x_nil fun r => by rw [evalEs], rfl, fun ρ ds e => by rw [evalEs] at e; cases e; rfl, fun _ _ e => nomatch e⟩
  | .cons a ies, X, sc, sh, l, C, h => by
    unfold ckEs at h
    cases l with
    | nil => cases h
    | cons x l =>
      simp only [Bool.and_eq_true, Bool.or_eq_true, Bool.not_eq_true'] at h
      obtain ⟨⟨h1, h2⟩, h3⟩ := h
      obtain ⟨ha, ta⟩ := pe_of a X sc x C h1
      obtain ⟨p1, p2, p3, p4⟩ := pa_of ies X sc sh l C h3
      refine ⟨a_imp (x_cons ha p1 (ck_okX T own h1) fun e => sE_ne (h2.resolve_left (by rw [e]; decide))) fun r => by rw [evalEs], ?_, fun ρ ds e => ?_, fun a' l' e pos => ?_⟩
      · rw [List.all_cons, ck_okX T own h1, p2]; rfl
      · rw [evalEs] at e
        obtain ⟨y, _, e⟩ := R.bind_eq_ok.mp e
        obtain ⟨ys, hy, e⟩ := R.bind_eq_ok.mp e
        cases e
        rw [List.length_cons, List.length_cons, p3 _ _ hy]
      · cases l with
        | nil =>
          have e0 : ies = .nil := by
            cases ies with
            | nil => rfl
            | cons _ _ => unfold ckEs at h3; cases h3
          subst e0
          have e1 : ∀ r, evalAnd F (.cons a .nil) r = (evalE F a r).bind unbl := fun r => by
            rw [evalAnd, evalAnd]
            cases evalE F a r <;> simp only [R.bind_ok, R.bind_bad, R.bind_err]
            cases unbl _ <;> simp only [R.bind_ok, R.bind_bad, R.bind_err]
            rename_i k
            cases k <;> rfl
          have e2 : ∀ r, evalOr F (.cons a .nil) r = (evalE F a r).bind unbl := fun r => by
            rw [evalOr, evalOr]
            cases evalE F a r <;> simp only [R.bind_ok, R.bind_bad, R.bind_err]
            cases unbl _ <;> simp only [R.bind_ok, R.bind_bad, R.bind_err]
            rename_i k
            cases k <;> rfl
          have e1' : evalAnd F (.cons a .nil) = fun r => (evalE F a r).bind unbl := funext e1
          have e2' : evalOr F (.cons a .nil) = fun r => (evalE F a r).bind unbl := funext e2
          rw [e1', e2']
          exact ⟨x_bool1 ha, w_and1 ta, x_bool1 ha, w_or1 ta⟩
        | cons b l =>
          obtain ⟨q1, q2, q3, q4⟩ := p4 b l rfl pos
          have e1' : evalAnd F (.cons a ies) = fun r => (evalE F a r).bind fun x => (unbl x).bind fun k => if k then evalAnd F ies r else .ok false := funext fun r => by rw [evalAnd]
          have e2' : evalOr F (.cons a ies) = fun r => (evalE F a r).bind fun x => (unbl x).bind fun k => if k then .ok true else evalOr F ies r := funext fun r => by rw [evalOr]
          have e3 : (fun r => (evalE F a r).bind fun x => (unbl x).bind fun k => if k then evalAnd F ies r else .ok false) = fun r => ((evalE F a r).bind unbl).bind fun k => if k then evalAnd F ies r else .ok false := funext fun r => by cases evalE F a r <;> rfl
          have e4 : (fun r => (evalE F a r).bind fun x => (unbl x).bind fun k => if k then .ok true else evalOr F ies r) = fun r => ((evalE F a r).bind unbl).bind fun k => if k then .ok true else evalOr F ies r := funext fun r => by cases evalE F a r <;> rfl
          rw [e1', e2']
          refine ⟨x_and ha q1, ?_, x_or ha q3, ?_⟩
          · rw [e3]; exact w_and ta q2
          · rw [e4]; exact w_or ta q4
theorem po_of : ∀ (io : IO) (X : Cx) (sc : Scope) (o : Option Expr), MCtx X T F n N sc → ckO T own N sc io o = true → POX X own o (evalO F io)
  | .no, X, sc, o, C, h => by
    unfold ckO at h
    cases o with
    | some _ => cases h
    | none =>
      have e : evalO F .no = fun _ => .ok none := funext fun r => by rw [evalO]
      rw [e]; exact o_none
  | .yes a, X, sc, o, C, h => by
    unfold ckO at h
    cases o with
    | none => cases h
    | some x =>
      have e : evalO F (.yes a) = fun r => (evalE F a r).bind fun x => (unint x).bind fun i => .ok (some i) := funext fun r => by rw [evalO]
      rw [e]; exact o_some (pe_of a X sc x C h).1
theorem pi_of : ∀ (ii : II) (X : Cx) (sc : Scope) (tg e : Expr) (sh : Bool), MCtx X T F n N sc → ckI T own N sc sh tg ii e = true → PIX X own tg e sh (evalI F ii) ∧ ∀ x, foldedSetIterable e X.env x = pure x
  | .of a, X, sc, tg, e, sh, C, h => by
    unfold ckI at h
    rw [Bool.and_eq_true] at h
    have ha := (pe_of a X sc e C h.1).1
    have e1 : evalI F (.of a) = fun r => (evalE F a r).bind seqD := funext fun r => by rw [evalI]
    rw [e1]
    refine ⟨?_, okX_set (ck_okX T own h.1) _⟩
    cases sh with
    | true => exact i_of (x_one ha (sE_ne h.2)) fun _ => ⟨_, sE_ne h.2, ha⟩
    | false => exact i_of (one_any C h.1 h.2 ha) fun z => nomatch z
  | .rng1 a, X, sc, tg, e, sh, C, h => by
    unfold ckI at h
    split at h
    · simp only [Bool.and_eq_true, beq_iff_eq] at h
      obtain ⟨⟨rfl, h1⟩, h2⟩ := h
      have e1 : evalI F (.rng1 a) = fun r => (evalE F a r).bind fun x => (unint x).bind fun n => if small62 n then .ok ((List.range n.toNat).map fun (i : Nat) => D.int i) else .bad := funext fun r => by rw [evalI]
      rw [e1]
      exact ⟨i_rng1 (C.gl h1) (C.blt _ (bm _ (by decide +kernel))) (pe_of a X sc _ C h2).1 (ck_okX T own h2), fun _ => rfl⟩
    · cases h
  | .rng2 a b, X, sc, tg, e, sh, C, h => by
    unfold ckI at h
    split at h
    · simp only [Bool.and_eq_true, beq_iff_eq] at h
      obtain ⟨⟨⟨rfl, h1⟩, h2⟩, h3⟩ := h
      have e1 : evalI F (.rng2 a b) = fun r => (evalE F a r).bind fun x => (unint x).bind fun m => (evalE F b r).bind fun y => (unint y).bind fun n => if small62 m && small62 n then .ok ((List.range (n - m).toNat).map fun (i : Nat) => D.int (m + i)) else .bad := funext fun r => by rw [evalI]
      rw [e1]
      exact ⟨i_rng2 (C.gl h1) (C.blt _ (bm _ (by decide +kernel))) (pe_of a X sc _ C h2).1 (pe_of b X sc _ C h3).1 (ck_okX T own h2) (ck_okX T own h3), fun _ => rfl⟩
    · cases h
  | .enum _, X, sc, tg, e, sh, C, h => by unfold ckI at h; cases h
  | .zip a b, X, sc, tg, e, sh, C, h => by
    unfold ckI at h
    split at h
    · simp only [Bool.and_eq_true, beq_iff_eq] at h
      obtain ⟨⟨⟨⟨⟨⟨rfl, h1⟩, h2⟩, h3⟩, h4⟩, h5⟩, h6⟩ := h
      have e1 : evalI F (.zip a b) = fun r => (evalE F a r).bind fun x => (evalE F b r).bind fun y => zipD x y := funext fun r => by rw [evalI]
      rw [e1]
      split at h6
      · exact ⟨i_zip (C.gl h1) (C.blt _ (bm _ (by decide +kernel))) (pe_of a X sc _ C h2).1 (pe_of b X sc _ C h3).1 (sE_ne h4) (sE_ne h5) (ck_okX T own h2) (ck_okX T own h3), fun _ => rfl⟩
      · cases h6
    · cases h
  | .items _, X, sc, tg, e, sh, C, h => by unfold ckI at h; cases h
  | .keys _, X, sc, tg, e, sh, C, h => by unfold ckI at h; cases h
end
end
end MP
/-! New lists of new lists. -/
namespace MP
open PySem PySem.Spec PyProof.Rows L2

section
variable {X : Cx} {T : Str → Option Def} {F : Orc} {n : Nat} {N : List Str} {sc : Scope} {own : List O} {a : Expr} {fa : Env → R D} {pos p : Pos}
/-- sorted(..) of such a list -/
theorem x_sortedN (C : MCtx X T F n N sc) (hg : glB sc "sorted" = true) (ha : PEX X own a fa .n) (hok : okX a = true) :
    PEX X own (.Call (.Name "sorted" p) [a] [] pos) (fun r => (fa r).bind fun x => biD .sorted [x]) .n := by
  have ar : PA X [a] _ := pa_cons ha pa_nil (okX_star hok [] X.env)
  refine PEi (pe_callB (call_sortedM (P := X.prog) (w := X.w) C.hu) (C.gl hg) (C.blt _ (bm _ (by decide +kernel))) boot_sorted ar (by decide) (by decide) (okX_star hok [] X.env) rfl) fun σ H Q ⟨L, W, ρ, Ro, d, S, hf, q⟩ => ?_
  obtain ⟨x, hx, hf⟩ := R.bind_eq_ok.mp hf
  refine ⟨L, W, ρ, Ro, x, S, hx, fun v H1 s1 r => ?_⟩
  obtain ⟨a, vs, ds, rfl, rfl, ha, h1, h2, h3, h4⟩ := r
  simp only [biD] at hf
  unfold sortD at hf
  obtain ⟨hok, rfl⟩ := ite_ok hf
  refine ⟨a, vs, ds, rfl, .inl (.inl h1), h2.mono hid_le, hok, fun ys p hpm hy hp => q _ _ (s1.trans (same_new hp)) ⟨p, ys, sortL ds, rfl, rfl, none_back s1 hp, upd_same, hy _ (h2.mono (hid_new (same_new hp) fun c m => ?_)), hpm.nodup_iff.mpr h3, fun u m => ?_⟩⟩
  · rcases List.mem_cons.mp m with rfl | m
    · exact .inr hp
    · exact .inl (List.mem_cons_of_mem _ m)
  · obtain ⟨b, us, e, n1, n2⟩ := h4 u (hpm.mem_iff.mp m)
    exact ⟨b, us, e, n1, by rw [upd_ne (ne_of_none n2 hp)]; exact n2⟩
end
section
variable {X : Cx} {own : List O} {tg iter elt : Expr} {ifs : List Expr} {scope : Scope} {oN : List (Str × Nat)} {pos : Pos} {me : Md} {fi : Env → R (List D)} {fc : Env → R Bool} {fe : Env → R D} {g : IG}
/-- a comprehension whose items are new lists -/
theorem x_compA (hc : X.calm = true) (hN : X.N.Nodup) (hi : PIX X own tg iter false fi) (ok : BlkOk X.N X.env.scope scope oN) (hv : oN.map (·.2) = gV g)
    (hg : ∀ (s : Shared) (H : Hp) (C : Addr) (cl : List (Str × Addr)) (fp : List Addr), PG (X.blk s H scope (compEnvC scope cl C X.env) fp) tg (tXG X.prog X.w X.K own g))
    (ht : ∀ (s : Shared) (H : Hp) (C : Addr) (cl : List (Str × Addr)) (fp : List Addr), PTsX (X.blk s H scope (compEnvC scope cl C X.env) fp) own ifs fc)
    (he : ∀ (s : Shared) (H : Hp) (C : Addr) (cl : List (Str × Addr)) (fp : List Addr), PEX (X.blk s H scope (compEnvC scope cl C X.env) fp) own elt fe .l) (hlst : ∀ r y, fe r = .ok y → ∃ zs, y = .lst zs) (hs : ∀ x, foldedSetIterable iter X.env x = pure x) :
    ∀ σ H Q, tX X.prog X.w X.K own (fun r => (fi r).bind fun xs => (compL (turnF g fc fe r) xs).bind fun ys => if ys.length ≤ lim then .ok (.lst ys) else .bad) .n σ H Q →
      tLc (tXI X.prog X.w X.K own false fi) (tXG X.prog X.w X.K own g) (tXT X.prog X.w X.K own fc) (tX X.prog X.w X.K own fe .l) (oN.map (·.2)) σ H Q := by
  rintro σ H Q ⟨L, W, ρ, Ro, d, S, hf, q⟩
  obtain ⟨xs, hxs, hf⟩ := R.bind_eq_ok.mp hf
  obtain ⟨ys, hys, hf⟩ := R.bind_eq_ok.mp hf
  obtain ⟨hz, rfl⟩ := ite_ok hf
  rw [lim_line] at hz
  rw [hv]
  refine ⟨L, W, ρ, Ro, xs, S, hxs, fun J H1 s1 wk D hD => ?_⟩
  have S1 := S.same s1
  let Nw : Hp → List V → Prop := fun Hc acc => acc.Nodup ∧ ∀ u ∈ acc, ∃ b us, u = .ref b ∧ H1 b = none ∧ b ≠ D ∧ Hc b = some (.lst us)
  let Pv : Nat → Hp → Prop := fun i Hc => ∃ acc done rest, Hc D = some (.lst acc) ∧ Same H1 Hc ∧ Reps X.prog X.w X.K (hid Hc (L ++ D :: W)) acc done ∧ compL (turnF g fc fe ρ) (xs.drop i) = .ok rest ∧ done ++ rest = ys ∧ Nw Hc acc ∧
    SR X.prog X.w X.K own Hc L (D :: W) (wipe σ (gV g)) (killR (gV g) ρ) Ro
  have nwS : ∀ {Hc Hd : Hp} {acc : List V}, (∀ b o, b ≠ D → Hc b = some o → Hd b = some o) → Nw Hc acc → Nw Hd acc := fun h ⟨n1, n2⟩ => ⟨n1, fun u m => by
    obtain ⟨b, us, e, a1, a2, a3⟩ := n2 u m
    exact ⟨b, us, e, a1, a2, h _ _ a2 a3⟩⟩
  have hidD : ∀ {Hc : Hp}, Same H1 Hc → Same (hid H1 (L ++ W)) (hid Hc (L ++ D :: W)) := fun hs => hid_new hs fun a z => by
    rcases mem3.mp z with rfl | z
    · exact .inr hD
    · exact .inl z
  refine ⟨fun i m Hc => m = xs.length - i ∧ i ≤ xs.length ∧ Pv i Hc, ⟨xs.length, rfl, Nat.zero_le _, [], [], ys, upd_same, same_new hD, .nil, hys, rfl, ⟨List.nodup_nil, fun _ m => nomatch m⟩, (S1.moreW (o := .lst []) hD trivial).wipe _⟩, ?_⟩
  rintro i m Hc ⟨rfl, hi, acc, done, rest, hDc, sc, ra, hr, hd, hnw, Sc⟩
  obtain ⟨w1, w2⟩ := wk i Hc (L ++ D :: W) (fun _ => sc) (hidD sc) Sc.hw
  by_cases hlt : i < xs.length
  · have hgi : xs[i]? = some xs[i] := List.getElem?_eq_getElem hlt
    obtain ⟨go, yl⟩ := w1 _ hgi
    refine .inr ⟨go, Pv (i + 1), fun H' p' => ⟨xs.length - (i + 1), by omega, rfl, hlt, p'⟩, fun x H2 y => ?_⟩
    obtain ⟨s2, rx⟩ := yl x H2 y
    rw [List.drop_eq_getElem_cons hlt] at hr
    obtain ⟨o, ho, hr⟩ := R.bind_eq_ok.mp hr
    obtain ⟨zs, hzs, hr⟩ := R.bind_eq_ok.mp hr
    obtain ⟨ρ', hρ, ho⟩ := R.bind_eq_ok.mp ho
    obtain ⟨b, hb, ho⟩ := R.bind_eq_ok.mp ho
    cases hr
    refine ⟨L, D :: W, killR (gV g) ρ, Ro, xs[i], ρ', Sc.same s2, rx, by rw [asgG_kill]; exact hρ, fun σ2 Ro2 S2 fr => ⟨wipe_eq ?_ fun k hk => fr k hk, L, D :: W, ρ', Ro2, b, S2, hb, fun H3 s3 => ?_⟩⟩
    · have e1 : ρ'.length = σ2.length := S2.len
      have e2 : (killR (gV g) ρ).length = (wipe σ (gV g)).length := Sc.len
      rw [wipe_length] at e2
      rw [← e1, ← e2]
      rw [← asgG_kill] at hρ
      rw [asgG_len hρ]
    · have hD3 : H3 D = some (.lst acc) := s3 _ _ (s2 _ _ hDc)
      have ra3 := ra.mono (hid_same (W := L ++ D :: W) (s2.trans s3))
      have hnw3 : Nw H3 acc := nwS (fun b o _ e => (s2.trans s3) _ _ e) hnw
      cases b with
      | false =>
        show Pv (i + 1) H3
        rw [if_neg (by decide)] at ho
        cases ho
        exact ⟨acc, done, zs, hD3, sc.trans (s2.trans s3), ra3, hzs, hd, hnw3, (Sc.same s2).same s3⟩
      | true =>
        rw [if_pos rfl] at ho
        obtain ⟨yv, hyv, ho⟩ := R.bind_eq_ok.mp ho
        cases ho
        show tX X.prog X.w X.K own fe .l σ2 H3 fun y H4 => ∃ acc, H4 D = some (HO.lst acc) ∧ acc.length < sizeLine ∧ Pv (i + 1) (upd H4 D (HO.lst (acc ++ [y])))
        have S3 := S2.same s3
        refine ⟨L, D :: W, ρ', Ro2, yv, S3, hyv, fun v H4 s4 rv => ?_⟩
        have rv' := rv.to_s S3.hw s4 (by decide)
        have hD4 := s4 _ _ hD3
        have hl : acc.length = done.length := ra.length
        have hy : (done ++ yv :: zs).length ≤ sizeLine := by rw [hd]; exact hz
        rw [List.length_append, List.length_cons] at hy
        have s5 : Same H1 H4 := sc.trans (s2.trans (s3.trans s4))
        have hDW : D ∈ L ++ D :: W := mem3.mpr (.inl rfl)
        obtain ⟨bv, rfl, nb, rb⟩ := rv
        obtain ⟨zl, rfl⟩ := hlst _ _ hyv
        obtain ⟨us, hus⟩ : ∃ us, H4 bv = some (.lst us) := by
          cases rb with
          | lst e _ => exact ⟨_, e⟩
        have hbD : bv ≠ D := by rintro rfl; rw [hD3] at nb; cases nb
        have n1 : H1 bv = none := none_back (sc.trans (s2.trans s3)) nb
        refine ⟨acc, hD4, by omega, acc ++ [.ref bv], done ++ [.lst zl], zs, upd_same, fun a o e => ?_, ?_, hzs, ?_, ⟨?_, fun u m => ?_⟩, ?_⟩
        · have hne : a ≠ D := by rintro rfl; rw [hD] at e; cases e
          rw [upd_ne hne]; exact s5 _ _ e
        · rw [hid_upd hDW]
          exact (ra3.mono (hid_same s4)).append (.cons rv' .nil)
        · rw [List.append_assoc]; exact hd
        · rw [List.nodup_append]
          refine ⟨hnw3.1, by simp, fun u hu w hw e => ?_⟩
          rw [List.mem_singleton.mp hw] at e
          subst e
          obtain ⟨b', us', e', _, _, h3⟩ := hnw3.2 _ hu
          cases e'
          rw [nb] at h3; cases h3
        · rcases List.mem_append.mp m with m | m
          · obtain ⟨b', us', e', a1, a2, a3⟩ := hnw3.2 u m
            exact ⟨b', us', e', a1, a2, by rw [upd_ne a2]; exact s4 _ _ a3⟩
          · rw [List.mem_singleton.mp m]
            exact ⟨bv, us, rfl, n1, hbD, by rw [upd_ne hbD]; exact hus⟩
        · exact (((Sc.same s2).same s3).same s4).poke List.mem_cons_self trivial
  · have e : i = xs.length := by omega
    subst e
    rw [List.drop_length] at hr
    cases hr
    rw [List.append_nil] at hd
    subst hd
    refine .inl ⟨w2 (Nat.le_refl _), q _ Hc (s1.trans sc) ⟨D, acc, done, rfl, rfl, none_back s1 hD, hDc, ra.mono (hid_sub fun a m => ?_), hnw.1, fun u m => ?_⟩⟩
    · rcases List.mem_cons.mp m with rfl | m
      · exact mem3.mpr (.inl rfl)
      · exact mem3.mpr (.inr m)
    · obtain ⟨b, us, e, a1, a2, a3⟩ := hnw.2 u m
      exact ⟨b, us, e, none_back s1 a1, a3⟩
/-- the items of a new list of new lists that are let through -/
theorem x_compB {fa : Env → R D} {i : Nat} (hc : X.calm = true) (hN : X.N.Nodup) (hi : PEX X own iter fa .n) (ok : BlkOk X.N X.env.scope scope oN) (hv : oN.map (·.2) = [i]) (hoi : own.getD i .sh = .sh)
    (hg : ∀ (s : Shared) (H : Hp) (C : Addr) (cl : List (Str × Addr)) (fp : List Addr), PG (X.blk s H scope (compEnvC scope cl C X.env) fp) tg (gName i))
    (ht : ∀ (s : Shared) (H : Hp) (C : Addr) (cl : List (Str × Addr)) (fp : List Addr), PTsX (X.blk s H scope (compEnvC scope cl C X.env) fp) own ifs fc)
    (he : ∀ (s : Shared) (H : Hp) (C : Addr) (cl : List (Str × Addr)) (fp : List Addr), PE (X.blk s H scope (compEnvC scope cl C X.env) fp) elt (tVar i)) (hs : ∀ x, foldedSetIterable iter X.env x = pure x) :
    PEX X own (.ListComp elt [⟨tg, iter, ifs, 0⟩] scope pos) (fun r => ((fa r).bind seqD).bind fun xs => (compL (turnF (.nm i) fc (varE i) r) xs).bind fun ys => if ys.length ≤ lim then .ok (.lst ys) else .bad) .n := by
  refine PEi (pe_lc (tt := tXT X.prog X.w X.K own fc) hc hN (pi_list hi) ok hg ht he hs) ?_
  rintro σ H Q ⟨L, W, ρ, Ro, d, S, hf, q⟩
  obtain ⟨xs, hxs, hf⟩ := R.bind_eq_ok.mp hf
  obtain ⟨x0, hx0, hxs⟩ := R.bind_eq_ok.mp hxs
  obtain ⟨ys, hys, hf⟩ := R.bind_eq_ok.mp hf
  obtain ⟨hz, rfl⟩ := ite_ok hf
  rw [lim_line] at hz
  rw [hv]
  refine ⟨L, W, ρ, Ro, x0, S, hx0, fun v0 H1 s1 r0 => ?_⟩
  obtain ⟨a, vs, ds, rfl, rfl, ha, h1, h2, h3, h4⟩ := r0
  obtain rfl : ds = xs := by injection hxs
  refine ⟨a, rfl, ⟨vs, .inl (.inl h1)⟩, fun D hD => ?_⟩
  have S1 := S.same s1
  have haD : a ≠ D := ne_of_none h1 hD
  let Pv : Nat → Hp → Prop := fun n Hc => ∃ acc done rest, Hc D = some (.lst acc) ∧ Same H1 Hc ∧ Reps X.prog X.w X.K (hid Hc (L ++ D :: W)) acc done ∧ compL (turnF (.nm i) fc (varE i) ρ) (ds.drop n) = .ok rest ∧ done ++ rest = ys ∧ acc.Sublist (vs.take n) ∧
    SR X.prog X.w X.K own Hc L (D :: W) (wipe σ [i]) (killR [i] ρ) Ro
  have hidA : ∀ {Hc : Hp}, Same H1 Hc → Same (hid H1 (a :: (L ++ W))) (hid Hc (L ++ D :: W)) := fun hs => hid_new hs fun c z => by
    rcases mem3.mp z with rfl | z
    · exact .inr hD
    · exact .inl (List.mem_cons_of_mem _ z)
  have hlen := h2.length
  refine ⟨fun n m Hc => m = ds.length - n ∧ n ≤ ds.length ∧ Pv n Hc, ⟨ds.length, rfl, Nat.zero_le _, [], [], ys, upd_same, same_new hD, .nil, hys, rfl, List.Sublist.refl _, (S1.moreW (o := .lst []) hD trivial).wipe _⟩, ?_⟩
  rintro n m Hc ⟨rfl, hn, acc, done, rest, hDc, sc, ra, hr, hd, hsub, Sc⟩
  have hA : SqL X.K Hc a vs := .inl (.inl (sc _ _ h1))
  by_cases hlt : n < ds.length
  · have hlv : n < vs.length := by omega
    refine .inr ⟨⟨vs, vs[n], hA, List.getElem?_eq_getElem hlv⟩, Pv (n + 1), fun H' p' => ⟨ds.length - (n + 1), by omega, rfl, hlt, p'⟩, ?_⟩
    rintro x H2 ⟨rfl, hy⟩
    have ex := hy vs hA
    rw [List.getElem?_eq_getElem hlv] at ex
    cases ex
    obtain ⟨dn, edn, rdn⟩ := h2.getV (List.getElem?_eq_getElem hlv)
    rw [List.getElem?_eq_getElem hlt] at edn
    cases edn
    rw [List.drop_eq_getElem_cons hlt] at hr
    obtain ⟨o, ho, hr⟩ := R.bind_eq_ok.mp hr
    obtain ⟨zs, hzs, hr⟩ := R.bind_eq_ok.mp hr
    obtain ⟨ρ', hρ, ho⟩ := R.bind_eq_ok.mp ho
    obtain ⟨b, hb, ho⟩ := R.bind_eq_ok.mp ho
    cases hr
    have rx := rdn.mono (hidA sc)
    have S2 := Sc.store (i := i) (v := vs[n]) (d := ds[n]) hoi rx
    have e0 : (killR [i] ρ).set i (some ds[n]) = ρ' := by
      have : asgG (.nm i) ds[n] ρ = .ok ρ' := hρ
      rw [← asgG_kill] at this
      injection this
    rw [e0] at S2
    have tk : acc.Sublist (vs.take (n + 1)) := by
      rw [List.take_succ_eq_append_getElem hlv]
      exact hsub.trans (List.sublist_append_left _ _)
    refine ⟨?_, L, D :: W, ρ', _, b, S2, hb, fun H3 s3 => ?_⟩
    · refine wipe_eq (by rw [List.length_set, wipe_length]) fun k hk => ?_
      rw [List.getElem?_set_ne (fun e => hk (by rw [← e]; exact List.mem_cons_self))]
    · have hD3 : H3 D = some (.lst acc) := s3 _ _ hDc
      have ra3 := ra.mono (hid_same (W := L ++ D :: W) s3)
      cases b with
      | false =>
        show Pv (n + 1) H3
        rw [if_neg (by decide)] at ho
        cases ho
        exact ⟨acc, done, zs, hD3, sc.trans s3, ra3, hzs, hd, tk, Sc.same s3⟩
      | true =>
        rw [if_pos rfl] at ho
        obtain ⟨yv, hyv, ho⟩ := R.bind_eq_ok.mp ho
        cases ho
        have hi2 : i < (killR [i] ρ).length := by
          rw [← e0] at hyv
          unfold varE at hyv
          split at hyv
          · rename_i d' e
            have := (List.getElem?_eq_some_iff.mp e).1
            rw [List.length_set] at this
            exact this
          · cases hyv
        have ey : yv = ds[n] := by
          rw [← e0] at hyv
          unfold varE at hyv
          rw [List.getElem?_set_self hi2] at hyv
          injection hyv with hyv
          exact hyv.symm
        subst ey
        have hi3 : i < (wipe σ [i]).length := by rw [← Sc.len]; exact hi2
        have hl : acc.length = done.length := ra.length
        have hy2 : (done ++ ds[n] :: zs).length ≤ sizeLine := by rw [hd]; exact hz
        rw [List.length_append, List.length_cons] at hy2
        have hDW : D ∈ L ++ D :: W := mem3.mpr (.inl rfl)
        refine ⟨vs[n], List.getElem?_set_self hi3, acc, hD3, by omega, acc ++ [vs[n]], done ++ [ds[n]], zs, upd_same, fun c o e => ?_, ?_, hzs, ?_, ?_, ?_⟩
        · have hne : c ≠ D := by rintro rfl; rw [hD] at e; cases e
          rw [upd_ne hne]; exact s3 _ _ (sc _ _ e)
        · rw [hid_upd hDW]
          exact ra3.append (.cons (rx.mono (hid_same s3)) .nil)
        · rw [List.append_assoc]; exact hd
        · rw [List.take_succ_eq_append_getElem hlv]
          exact hsub.append (List.Sublist.refl _)
        · exact (Sc.same s3).poke List.mem_cons_self trivial
  · have e : n = ds.length := by omega
    subst e
    rw [List.drop_length] at hr
    cases hr
    rw [List.append_nil] at hd
    subst hd
    refine .inl ⟨⟨vs, hA, by omega⟩, q _ Hc (s1.trans sc) ⟨D, acc, done, rfl, rfl, none_back s1 hD, hDc, ra.mono (hid_sub fun c m => ?_), (hsub.trans (List.take_sublist _ _)).nodup h3, fun u m => ?_⟩⟩
    · rcases List.mem_cons.mp m with rfl | m
      · exact mem3.mpr (.inl rfl)
      · exact mem3.mpr (.inr m)
    · obtain ⟨b, us, e, a1, a2⟩ := h4 u ((hsub.trans (List.take_sublist _ _)).subset m)
      exact ⟨b, us, e, a1, sc _ _ a2⟩
end
/-! ### what the checker has seen -/
def nlB : BI → Bool
  | .sorted => true
  | .sortedKeys => true
  | .sortedItems => true
  | .list => true
  | _ => false
/-- a new list of new lists -/
def nlE (T : Str → Option Def) (own : List O) (e : IE) : Bool := match e with
  | .bi b (.cons (.comp _ _ .no (.bi b2 _)) .nil) => decide (b = .sorted) && nlB b2
  | .comp (.nm i) (.of (.call f _)) (.yes _) (.var j) => decide (i = j) && decide (ownV own i = .sh) && (match T f with
    | some d => decide (d.ro = .nl)
    | none => false)
  | _ => false
theorem sortD_lst {xs : List D} {y : D} (h : sortD xs = .ok y) : ∃ zs, y = .lst zs := by
  unfold sortD at h
  obtain ⟨_, rfl⟩ := ite_ok h
  exact ⟨_, rfl⟩
theorem nlB_lst {b : BI} (hb : nlB b = true) {ds : List D} {y : D} (h : biD b ds = .ok y) : ∃ zs, y = .lst zs := by
  cases ds with
  | nil => cases b <;> simp [biD] at h
  | cons x ds =>
    cases ds with
    | cons _ _ => cases b <;> cases x <;> simp [biD] at h
    | nil =>
      cases b <;> first | (cases hb; done) | skip
      all_goals
        cases x <;> simp only [biD] at h <;> first | (cases h; done) | exact sortD_lst h | (cases h; exact ⟨_, rfl⟩) | skip
      all_goals
        split at h
        · exact sortD_lst h
        · first | (cases h; done) | (split at h <;> first | exact sortD_lst h | (cases h; done))
section
variable {T : Str → Option Def} {F : Orc} {n : Nat} {N : List Str} {own : List O}
theorem nl_of {X : Cx} {sc : Scope} {ie : IE} {e : Expr} (C : MCtx X T F n N sc) (h : ckE T own N sc ie e = true) (hn : nlE T own ie = true) : PEX X own e (evalE F ie) .n := by
  unfold nlE at hn
  split at hn
  · rename_i b g it b2 es
    rw [Bool.and_eq_true, decide_eq_true_eq] at hn
    obtain ⟨rfl, hb2⟩ := hn
    unfold ckE at h
    rw [Bool.and_eq_true] at h
    replace h := h.2
    simp only [reduceCtorEq, if_false] at h
    split at h
    · simp only [Bool.and_eq_true, beq_iff_eq] at h
      obtain ⟨⟨⟨rfl, h1⟩, h2⟩, _⟩ := h
      have hok := ck_okX T own h2
      have h2' := h2
      unfold ckE at h2'
      rw [Bool.and_eq_true] at h2'
      replace h2' := h2'.2
      split at h2'
      · simp only [Bool.and_eq_true] at h2'
        obtain ⟨⟨⟨⟨⟨k1, k2⟩, k3⟩, k4⟩, k5⟩, k6⟩ := h2'
        rename_i ifs scope pos2
        cases ifs with
        | cons _ _ => cases k4
        | nil =>
          obtain ⟨p1, p2⟩ := pi_of it X sc _ _ false C k1
          have ok := blkOk_by k3
          have hme : mdE T own (.bi b2 es) = .l := by
            rw [md_bi]
            cases b2 <;> first | rfl | (cases hb2; done)
          have he : ∀ (s : Shared) (H : Hp) (Ca : Addr) (cl : List (Str × Addr)) (fp : List Addr), PEX (X.blk s H scope (compEnvC scope cl Ca X.env) fp) own _ (evalE F (.bi b2 es)) .l := fun s H Ca cl fp => by
            have := (pe_of (.bi b2 es) _ _ _ (C.blk s H Ca cl fp) k5).1
            rw [hme] at this
            exact this
          have L := x_compA (g := g) (fc := fun _ => .ok true) (fe := evalE F (.bi b2 es)) (ifs := []) C.calm (by rw [C.hN]; exact C.nd) p1 (by rw [C.hN, C.sc]; exact ok) (tgOwn_v g)
            (fun s H Ca cl fp => g_of (C.sto s H Ca cl fp) k2) (fun s H Ca cl fp => ts_nil) he (fun r y hy => by
              rw [evalE] at hy
              obtain ⟨ds, _, hy⟩ := R.bind_eq_ok.mp hy
              exact nlB_lst hb2 hy) p2
          have q := PEi (pe_lc (pos := pos2) C.calm (by rw [C.hN]; exact C.nd) p1 (by rw [C.hN, C.sc]; exact ok) (fun s H Ca cl fp => g_of (C.sto s H Ca cl fp) k2) (fun s H Ca cl fp => ts_nil) he p2) L
          have q : PEX X own _ (evalE F (.comp g it .no (.bi b2 es))) .n := x_imp q (fun r => by rw [evalE]; rfl) rfl
          refine x_imp (x_sortedN C h1 q hok) (fun r => ?_) rfl
          rw [evalE, evalEs, evalEs]
          cases evalE F (.comp g it .no (.bi b2 es)) r <;> rfl
      · cases h2'
    · simp [isIsi] at h
    · cases h
  · rename_i i f es ce j
    simp only [Bool.and_eq_true, decide_eq_true_eq] at hn
    obtain ⟨⟨rfl, hoi⟩, hT⟩ := hn
    split at hT
    · rename_i d hd
      have hro := of_decide_eq_true hT
      unfold ckE at h
      rw [Bool.and_eq_true] at h
      replace h := h.2
      split at h
      · simp only [Bool.and_eq_true] at h
        obtain ⟨⟨⟨⟨⟨k1, k2⟩, k3⟩, k4⟩, k5⟩, k6⟩ := h
        rename_i x tg iter ifs scope pos2
        split at k4
        · rename_i z
          unfold ckI at k1
          rw [Bool.and_eq_true] at k1
          have hcall := (pe_of (.call f es) X sc iter C k1.1).1
          have hm : mdE T own (.call f es) = .n := by
            rw [mdE, hd]
            show mdO d.ro = _
            rw [hro]; rfl
          rw [hm] at hcall
          have ok := blkOk_by k3
          have he : ∀ (s : Shared) (H : Hp) (Ca : Addr) (cl : List (Str × Addr)) (fp : List Addr), PE (X.blk s H scope (compEnvC scope cl Ca X.env) fp) x (tVar i) := fun s H Ca cl fp => by
            have Cb := C.blk (scope := scope) s H Ca cl fp
            unfold ckE at k5
            rw [Bool.and_eq_true] at k5
            have k5 := k5.2
            split at k5
            · simp only [Bool.and_eq_true, beq_iff_eq] at k5
              obtain ⟨⟨q1, q2⟩, q3⟩ := k5
              exact pe_var (by rw [Cb.hN]; exact q1) (Cb.vis q2) (noRes_1 q3).1 (noRes_1 q3).2
            · cases k5
          have hg : ∀ (s : Shared) (H : Hp) (Ca : Addr) (cl : List (Str × Addr)) (fp : List Addr), PG (X.blk s H scope (compEnvC scope cl Ca X.env) fp) tg (gName i) := fun s H Ca cl fp => by
            simp only [ckG, Bool.and_eq_true] at k2
            obtain ⟨y, py, rfl, hp⟩ := nm_of (C.sto s H Ca cl fp) k2.1
            exact hp
          refine x_imp (x_compB (i := i) (fc := fun r => (evalE F ce r).bind unbl) C.calm (by rw [C.hN]; exact C.nd) hcall (by rw [C.hN, C.sc]; exact ok) (tgOwn_v (.nm i)) hoi hg (fun s H Ca cl fp => pts_one (pe_of ce _ _ _ (C.blk s H Ca cl fp) k4).2) he (okX_set (ck_okX T own k1.1) _)) (fun r => ?_) rfl
          have e1 : evalE F (.var i) = varE i := by funext r; rw [evalE]
          have e2 : evalI F (.of (.call f es)) r = (evalE F (.call f es) r).bind seqD := by rw [evalI]
          have e0 : evalE F (.comp (.nm i) (.of (.call f es)) (.yes ce) (.var i)) r = (evalI F (.of (.call f es)) r).bind fun xs => (compL (turnF (.nm i) (fun r => (evalE F ce r).bind unbl) (evalE F (.var i)) r) xs).bind fun ys => if ys.length ≤ lim then .ok (.lst ys) else .bad := by rw [evalE]; rfl
          rw [e0, e1, e2]
        · cases k4
      · cases h
    · cases hT
  · cases hn
end
end MP
/-! The checker for statements; what a statement does to the state. -/
namespace MP
open PySem PySem.Spec PyProof.Rows L2

/-! ### the checker -/
mutual
/-- a suite that never runs on behind itself -/
def dv : IS → Bool
  | .ret _ => true
  | .cont => true
  | .brk => true
  | .ifs _ a b => dvs a && dvs b
  | _ => false
def dvs : ISs → Bool
  | .nil => false
  | .cons s ss => dv s || dvs ss
end
section
variable (T : Str → Option Def) (dcl : List O) (ro : O) (N : List Str) (sc : Scope)
def newO (own : List O) (i : Nat) (e : IE) : O := match dcl.getD i .sh with
  | .li => if mdE T own e = .l then .li else .sh
  | .tp k => if mdE T own e = .t k then .tp k else .sh
  | .sh => .sh
  | .nl => .sh
def resetO : List Nat → List O → List O
  | [], own => own
  | i :: is, own => resetO is (own.set i (dcl.getD i .sh))
def frzO : List Nat → List O → List O
  | [], own => own
  | i :: is, own => frzO is (own.set i .sh)
mutual
def flowS : IS → List O → List O
  | .asg g e, own => match g with
    | .nm i => own.set i (newO T dcl own i e)
    | .tp _ => own
  | .frz ks, own => frzO ks own
  | .ifs _ a b, own => if dvs a then flowSs b own else flowSs a own
  | .ifSd _ _ _ _ a b, own => if dvs a then flowSs b own else flowSs a own
  | .loop _ _ ks _, own => resetO dcl ks own
  | .loopV _ _ ks _, own => resetO dcl ks own
  | .whl _ _ ks _, own => resetO dcl ks own
  | _, own => own
def flowSs : ISs → List O → List O
  | .nil, own => own
  | .cons s ss, own => flowSs ss (flowS s own)
end
mutual
/-- the slot k is not written -/
def noWr (k : Nat) : IS → Bool
  | .asg g _ => !(gV g).contains k
  | .mov i _ => i != k
  | .aug x _ _ => x != k
  | .popi y _ _ => y != k
  | .ifs _ a b => noWrs k a && noWrs k b
  | .ifSd _ _ _ _ a b => noWrs k a && noWrs k b
  | .loop g _ _ body => !(gV g).contains k && noWrs k body
  | .loopV g _ _ body => !(gV g).contains k && noWrs k body
  | .whl _ _ _ body => noWrs k body
  | .told v _ _ _ x body => v != k && x != k && noWrs k body
  | _ => true
def noWrs (k : Nat) : ISs → Bool
  | .nil => true
  | .cons s ss => noWr k s && noWrs k ss
end
def agree (a b : List O) (ks : List Nat) : Bool := decide (a.length = b.length) && (List.range a.length).all fun i => ks.contains i || decide (a.getD i .sh = b.getD i .sh)
def locB (x : Str) : Bool := match sc.names.lookup x with
  | some .local => true
  | some .cell => true
  | _ => false
def noTup : Expr → Bool
  | .Tuple _ _ _ => false
  | _ => true
def noTp (own : List O) (i : Nat) : Bool := match ownV own i with
  | .tp _ => false
  | _ => true
def skipB : IS → Bool
  | .kill _ => true
  | .frz _ => true
  | _ => false
def isTold : IS → Bool
  | .told _ _ _ _ _ _ => true
  | _ => false
def ckK (own : List O) : IS → Bool
  | .frz ks => ks.all (noTp own)
  | _ => true
def nmB (i : Nat) (x : Str) : Bool := N[i]? == some x && locB sc x
/-- a return's value: of the def's mode -/
def retB (own : List O) (e : IE) : Bool := match ro with
  | .sh => (match e with
    | .var i => noTp own i
    | e => sE T own e)
  | .li => decide (mdE T own e = .l) || (match e with
    | .var i => decide (ownV own i = .li)
    | _ => false)
  | .tp k => decide (mdE T own e = .t k) || (match e with
    | .var i => decide (ownV own i = .tp k)
    | _ => false)
  | .nl => nlE T own e
structure Lp where
  own : List O
  ks : List Nat
def isLi (own : List O) (x : Nat) : Bool := decide (ownV own x = .li)
mutual
def ckS (lc : Option Lp) (own : List O) : IS → Stmt → Bool
  | .asg g e, st => match st with
    | .Assign [tg] v _ => ckE T own N sc e v && (match g with
      | .nm i => (match tg with
        | .Name x _ => nmB N sc i x && decide (i < own.length) && (match newO T dcl own i e with
          | .sh => sE T own e
          | _ => true)
        | _ => false)
      | .tp is => ckG own N sc sc true (.tp is) tg && sE T own e && noTup v)
    | _ => false
  | .aug x op e, st => match st with
    | .AugAssign (.Name y _) o v _ => nmB N sc x y && decide (o = .Add) && decide (op = .add) && ckE T own N sc e v && decide (ownV own x = .sh)
    | _ => false
  | .put x k e, st => match st with
    | .Assign [.Subscript (.Name y _) i _] v _ => nmB N sc x y && visB sc y && noRes y && isLi own x && ckE T own N sc e v && ckE T own N sc k i && sE T own e && noTup v
    | _ => false
  | .app x e, st => match st with
    | .Expr (.Call (.Attribute (.Name y _) nm ap) [v] [] cp) _ => nmB N sc x y && visB sc y && noRes y && nm == ("append" : Str) && lineB ap cp && isLi own x && ckE T own N sc e v && sE T own e
    | _ => false
  | .ext x e, st => match st with
    | .Expr (.Call (.Attribute (.Name y _) nm ap) [v] [] cp) _ => nmB N sc x y && visB sc y && noRes y && nm == ("extend" : Str) && lineB ap cp && isLi own x && ckE T own N sc e v
    | _ => false
  | .ifs c a b, st => match st with
    | .If z p q _ => ckE T own N sc c z && ckSs lc own a p && ckSs lc own b q && (dvs a || dvs b || decide (flowSs T dcl a own = flowSs T dcl b own))
    | _ => false
  | .loop g it ks body, st => match st with
    | .For tg iter p [] _ => ckI T own N sc true tg it iter && ckG (resetO dcl ks own) N sc sc true g tg && ckSs (some ⟨resetO dcl ks own, ks⟩) (resetO dcl ks own) body p &&
        (dvs body || agree (flowSs T dcl body (resetO dcl ks own)) (resetO dcl ks own) ks)
    | _ => false
  | .loopV g x ks body, st => match st with
    | .For tg (.Name y _) p [] _ => nmB N sc x y && visB sc y && noRes y && isLi own x && ckG (resetO dcl ks own) N sc sc true g tg && ckSs (some ⟨resetO dcl ks own, ks⟩) (resetO dcl ks own) body p &&
        (dvs body || agree (flowSs T dcl body (resetO dcl ks own)) (resetO dcl ks own) ks) && noWrs x body && !(gV g).contains x && !ks.contains x
    | _ => false
  | .ifSd x k e c a b, st => match st with
    | .If (.Compare (.Call (.Attribute (.Name y _) nm ap) [ke, ve] [] cp) [o] [z] _) p q _ => nmB N sc x y && visB sc y && noRes y && isLi own x && nm == ("setdefault" : Str) && lineB ap cp && decide (o = .NotEq) && ckE T own N sc k ke && ckE T own N sc e ve && sE T own e && ckE T own N sc c z &&
        ckSs lc own a p && ckSs lc own b q && (dvs a || dvs b || decide (flowSs T dcl a own = flowSs T dcl b own))
    | _ => false
  | .whl _ c ks body, st => match st with
    | .While z p [] _ => ckE T (resetO dcl ks own) N sc c z && ckSs (some ⟨resetO dcl ks own, ks⟩) (resetO dcl ks own) body p && (dvs body || agree (flowSs T dcl body (resetO dcl ks own)) (resetO dcl ks own) ks)
    | _ => false
  | .pop x, st => match st with
    | .Expr (.Call (.Attribute (.Name y _) nm ap) [] [] cp) _ => nmB N sc x y && visB sc y && noRes y && nm == ("pop" : Str) && lineB ap cp && isLi own x
    | _ => false
  | .ret e, st => match st with
    | .Return (some v) _ => ckE T own N sc e v && retB T ro own e
    | _ => false
  | .ex e, st => match st with
    | .Expr v _ => ckE T own N sc e v && (match v with
      | .ListComp _ _ _ _ => false
      | _ => true)
    | _ => false
  | .cont, st => match st with
    | .Continue _ => (match lc with
      | some l => agree own l.own l.ks
      | none => false)
    | _ => false
  | .brk, st => match st with
    | .Break _ => (match lc with
      | some l => agree own l.own l.ks
      | none => false)
    | _ => false
  | .pass, st => match st with
    | .Pass _ => true
    | _ => false
  | _, _ => false
def ckSs (lc : Option Lp) (own : List O) : ISs → List Stmt → Bool
  | .nil, l => l.isEmpty
  | .cons s ss, l => if skipB s then ckK own s && ckSs lc (flowS T dcl s own) ss l else if isTold s then ckTold lc own s l && ckSs lc own ss (l.drop 4) else match l with
    | [] => false
    | st :: l => ckS lc own s st && ckSs lc (flowS T dcl s own) ss l
/-- v = f(..); if c: return False; for x in v: ..; v.append(None) -/
def ckTold (lc : Option Lp) (own : List O) : IS → List Stmt → Bool
  | .told v f es c x body, l => match l with
    | .Assign [.Name y1 _] e _ :: .If z [.Return (some (.Constant (.bool false) _ _)) _] [] _ :: .For (.Name tx _) (.Name y2 _) p [] _ :: .Expr (.Call (.Attribute (.Name y3 _) nm ap) [.Constant .none _ _] [] cp) _ :: _ =>
      nmB N sc v y1 && nmB N sc v y2 && nmB N sc v y3 && visB sc y2 && noRes y2 && visB sc y3 && noRes y3 && nmB N sc x tx && nm == ("append" : Str) && lineB ap cp && ckE T own N sc (.call f es) e && (match T f with
        | some d => decide (d.ro = .nl)
        | none => false) && ckE T (own.set v .sh) N sc c z && decide (ro = .sh) && decide (v < own.length) && decide (x < own.length) && decide (v ≠ x) &&
        ckSs (some ⟨own.set x .li, [x]⟩) (own.set x .li) body p && (dvs body || agree (flowSs T dcl body (own.set x .li)) (own.set x .li) [x]) && noWrs v body
    | _ => false
  | _, _ => false
end
end

/-! ### never behind -/
section
variable {F : Orc}
mutual
theorem dv_nx : ∀ (s : IS) (r r' : Env), dv s = true → evalS F s r = .ok (.nx, r') → False
  | .ret e, r, r', _, h => by
    rw [evalS] at h
    obtain ⟨_, _, h⟩ := R.bind_eq_ok.mp h
    cases h
  | .cont, r, r', _, h => by rw [evalS] at h; cases h
  | .brk, r, r', _, h => by rw [evalS] at h; cases h
  | .ifs c a b, r, r', hd, h => by
    rw [dv, Bool.and_eq_true] at hd
    rw [evalS] at h
    obtain ⟨x, _, h⟩ := R.bind_eq_ok.mp h
    obtain ⟨k, _, h⟩ := R.bind_eq_ok.mp h
    split at h
    · exact dvs_nx a r r' hd.1 h
    · exact dvs_nx b r r' hd.2 h
  | .asg _ _, _, _, hd, _ => by unfold dv at hd; cases hd
  | .mov _ _, _, _, hd, _ => by unfold dv at hd; cases hd
  | .put _ _ _, _, _, hd, _ => by unfold dv at hd; cases hd
  | .aug _ _ _, _, _, hd, _ => by unfold dv at hd; cases hd
  | .app _ _, _, _, hd, _ => by unfold dv at hd; cases hd
  | .ext _ _, _, _, hd, _ => by unfold dv at hd; cases hd
  | .ins _ _ _, _, _, hd, _ => by unfold dv at hd; cases hd
  | .rem _ _, _, _, hd, _ => by unfold dv at hd; cases hd
  | .popi _ _ _, _, _, hd, _ => by unfold dv at hd; cases hd
  | .pop _, _, _, hd, _ => by unfold dv at hd; cases hd
  | .appAt _ _ _, _, _, hd, _ => by unfold dv at hd; cases hd
  | .sdApp _ _ _, _, _, hd, _ => by unfold dv at hd; cases hd
  | .ifSd _ _ _ _ _ _, _, _, hd, _ => by unfold dv at hd; cases hd
  | .loop _ _ _ _, _, _, hd, _ => by unfold dv at hd; cases hd
  | .loopV _ _ _ _, _, _, hd, _ => by unfold dv at hd; cases hd
  | .whl _ _ _ _, _, _, hd, _ => by unfold dv at hd; cases hd
  | .ex _, _, _, hd, _ => by unfold dv at hd; cases hd
  | .pass, _, _, hd, _ => by unfold dv at hd; cases hd
  | .kill _, _, _, hd, _ => by unfold dv at hd; cases hd
  | .frz _, _, _, hd, _ => by unfold dv at hd; cases hd
  | .told _ _ _ _ _ _, _, _, hd, _ => by unfold dv at hd; cases hd
theorem dvs_nx : ∀ (s : ISs) (r r' : Env), dvs s = true → evalSs F s r = .ok (.nx, r') → False
  | .nil, _, _, hd, _ => by unfold dvs at hd; cases hd
  | .cons s ss, r, r', hd, h => by
    rw [dvs, Bool.or_eq_true] at hd
    rw [evalSs] at h
    obtain ⟨⟨fl, r1⟩, h1, h⟩ := R.bind_eq_ok.mp h
    cases fl <;> simp only at h
    · rcases hd with hd | hd
      · exact dv_nx s r r1 hd h1
      · exact dvs_nx ss r1 r' hd h
    · cases h
    · cases h
    · cases h
end
end

/-! ### the state -/
section
variable {P : Program} {w : World} {K : PySem.W.Frag} {own own2 : List O} {H H' : Hp} {L W : List Addr} {σ : L2.St} {ρ : Env} {Ro : Nat → Option Addr}
theorem SR.own_of (S : SR P w K own H L W σ ρ Ro) (h : ∀ i d, ρ[i]? = some (some d) → own2.getD i .sh = own.getD i .sh) : SR P w K own2 H L W σ ρ Ro :=
  ⟨S.len, fun i d e => by
    obtain ⟨v, ev, ow⟩ := S.val i d e
    exact ⟨v, ev, by rw [h i d e]; exact ow⟩, S.loc, S.inj, S.wm⟩
theorem getD_ne {α : Type} (l : List α) {i j : Nat} (a x : α) (h : i ≠ j) : (l.set i a).getD j x = l.getD j x := by
  rw [List.getD_eq_getElem?_getD, List.getElem?_set_ne h, ← List.getD_eq_getElem?_getD]
theorem getD_self {α : Type} (l : List α) {i : Nat} (a x : α) (h : i < l.length) : (l.set i a).getD i x = a := by
  rw [List.getD_eq_getElem?_getD, List.getElem?_set_self h]; rfl
theorem getD_sh (l : List O) (i : Nat) : (l.set i .sh).getD i .sh = .sh := by
  by_cases h : i < l.length
  · exact getD_self l _ _ h
  · rw [List.getD_eq_getElem?_getD, List.getElem?_eq_none (by rw [List.length_set]; omega)]; rfl
theorem not_live (ρ : Env) (i : Nat) (d : D) : (ρ.set i none)[i]? ≠ some (some d) := fun e => by
  by_cases hl : i < ρ.length
  · rw [List.getElem?_set_self hl] at e; cases e
  · rw [List.getElem?_eq_none (by rw [List.length_set]; omega)] at e; cases e
theorem SR.reown (S : SR P w K own H L W σ ρ Ro) (i : Nat) (o : O) : SR P w K (own.set i o) H L W σ (ρ.set i none) Ro :=
  (S.kill i).own_of fun j d e => by
    have hj : i ≠ j := by rintro rfl; exact not_live ρ i d e
    exact getD_ne own _ _ hj
theorem resetO_get (dcl : List O) : ∀ (ks : List Nat) (own : List O) (i : Nat), i ∉ ks → (resetO dcl ks own).getD i .sh = own.getD i .sh
  | [], _, _, _ => rfl
  | k :: ks, own, i, h => by
    show (resetO dcl ks (own.set k _)).getD i .sh = _
    rw [resetO_get dcl ks _ i (fun m => h (List.mem_cons_of_mem _ m)), getD_ne _ _ _ (fun e : k = i => h (by rw [← e]; exact List.mem_cons_self))]
theorem agree_get {a b : List O} {ks : List Nat} (h : agree a b ks = true) {i : Nat} (hi : i ∉ ks) : a.getD i .sh = b.getD i .sh := by
  unfold agree at h
  rw [Bool.and_eq_true, decide_eq_true_eq, List.all_eq_true] at h
  by_cases hl : i < a.length
  · have := h.2 i (List.mem_range.mpr hl)
    rw [Bool.or_eq_true, decide_eq_true_eq] at this
    exact this.resolve_left fun z => hi (List.contains_iff_mem.mp z)
  · rw [List.getD_eq_getElem?_getD, List.getD_eq_getElem?_getD, List.getElem?_eq_none (by omega), List.getElem?_eq_none (by omega)]
theorem SR.killO (S : SR P w K own H L W σ ρ Ro) (ks : List Nat) (h : ∀ i, i ∉ ks → own2.getD i .sh = own.getD i .sh) : SR P w K own2 H L W σ (killR ks ρ) Ro :=
  (S.kills ks).own_of fun i d e => h i (killR_get i ks ρ d e).1
theorem SR.frz1 (S : SR P w K own H L W σ ρ Ro) (i : Nat) (h : noTp own i = true) : ∃ L' Ro', SR P w K (own.set i .sh) H L' W σ ρ Ro' ∧ ∀ b ∈ L', b ∈ L := by
  cases hd : ρ[i]? with
  | none => exact ⟨L, Ro, S.own_of fun j d e => getD_ne _ _ _ (by rintro rfl; rw [hd] at e; cases e), fun _ m => m⟩
  | some od =>
    cases od with
    | none => exact ⟨L, Ro, S.own_of fun j d e => getD_ne _ _ _ (by rintro rfl; rw [hd] at e; cases e), fun _ m => m⟩
    | some d =>
      obtain ⟨v, ev, ow⟩ := S.val i d hd
      cases hR : Ro i with
      | none =>
        rw [hR] at ow
        refine ⟨L, Ro, ⟨S.len, fun j e he => ?_, S.loc, S.inj, S.wm⟩, fun _ m => m⟩
        by_cases hj : i = j
        · subst hj
          rw [hd] at he; cases he
          refine ⟨v, ev, ?_⟩
          rw [getD_sh, hR]
          generalize own.getD i .sh = o at ow
          cases ow with
          | sh r => exact .sh r
        · rw [getD_ne _ _ _ hj]
          exact S.val j e he
      | some a =>
        have hl := S.loc i d a hd hR
        refine ⟨L.filter (fun b => b != a), fun j => if j = i then none else Ro j, ⟨S.len, fun j e he => ?_, fun j e b he hb => ?_, fun j k e f b he hf h1 h2 => ?_, fun b m => ?_⟩, fun b m => (List.mem_filter.mp m).1⟩
        · have sub : ∀ b ∈ L.filter (fun b => b != a) ++ W, b ∈ L ++ W := fun b m => by
            rcases List.mem_append.mp m with m | m
            · exact List.mem_append_left _ (List.mem_filter.mp m).1
            · exact List.mem_append_right _ m
          by_cases hj : i = j
          · subst hj
            rw [hd] at he; cases he
            refine ⟨v, ev, ?_⟩
            rw [getD_sh, if_pos rfl]
            rw [hR] at ow
            have na : a ∉ L.filter (fun b => b != a) ++ W := fun m => by
              rcases List.mem_append.mp m with m | m
              · have := (List.mem_filter.mp m).2
                simp at this
              · exact hl.2 m
            unfold noTp ownV at h
            generalize own.getD i .sh = o at ow h
            cases ow with
            | li m r => exact .sh (r.rep (fun o e => hid_some.mpr ⟨na, e⟩) (hid_sub sub))
            | tp => cases h
          · rw [getD_ne _ _ _ hj, if_neg (fun z => hj z.symm)]
            obtain ⟨u, eu, ou⟩ := S.val j e he
            refine ⟨u, eu, ou.mono (fun b hb => ⟨List.mem_append_left _ (List.mem_filter.mpr ⟨(S.loc j e b he hb).1, ?_⟩), fun _ z => z⟩) (hid_sub sub)⟩
            have : b ≠ a := by
              rintro rfl
              exact hj (S.inj i j d e b hd he hR hb)
            simpa using this
        · by_cases hj : j = i
          · rw [if_pos hj] at hb; cases hb
          · rw [if_neg hj] at hb
            obtain ⟨h1, h2⟩ := S.loc j e b he hb
            refine ⟨List.mem_filter.mpr ⟨h1, ?_⟩, h2⟩
            have : b ≠ a := by
              rintro rfl
              exact hj (S.inj j i e d b he hd hb hR)
            simpa using this
        · by_cases hj : j = i
          · rw [if_pos hj] at h1; cases h1
          · by_cases hk : k = i
            · rw [if_pos hk] at h2; cases h2
            · rw [if_neg hj] at h1; rw [if_neg hk] at h2
              exact S.inj j k e f b he hf h1 h2
        · refine S.wm b ?_
          rcases List.mem_append.mp m with m | m
          · exact List.mem_append_left _ (List.mem_filter.mp m).1
          · exact List.mem_append_right _ m
theorem frzO_noTp {i : Nat} {own : List O} {o : Nat} (h : noTp own i = true) : noTp (own.set o .sh) i = true := by
  unfold noTp ownV at *
  by_cases e : o = i
  · subst e; rw [getD_sh]
  · rw [getD_ne _ _ _ e]; exact h
theorem SR.frzs : ∀ (ks : List Nat) {own : List O} {L : List Addr} {Ro : Nat → Option Addr}, SR P w K own H L W σ ρ Ro → ks.all (noTp own) = true → ∃ L' Ro', SR P w K (frzO ks own) H L' W σ ρ Ro' ∧ ∀ b ∈ L', b ∈ L
  | [], own, L, Ro, S, _ => ⟨L, Ro, S, fun _ m => m⟩
  | k :: ks, own, L, Ro, S, h => by
    rw [List.all_cons, Bool.and_eq_true] at h
    obtain ⟨L1, R1, S1, h1⟩ := S.frz1 k h.1
    obtain ⟨L2, R2, S2, h2⟩ := SR.frzs ks S1 (by
      rw [List.all_eq_true] at h ⊢
      exact fun i m => frzO_noTp (h.2 i m))
    exact ⟨L2, R2, S2, fun b m => h1 b (h2 b m)⟩
end
end MP
/-! Statements: each form by itself. -/
namespace MP
open PySem PySem.Spec PyProof.Rows L2

theorem PSi {X : Cx} {e : Stmt} {t u : TS} (h : PS X e t) (i : ∀ D σ H, u D σ H → t D σ H) : PS X e u := ⟨fun pins s σ H D I hw => h.run pins s σ H D I (i D σ H hw)⟩
theorem PSsi {X : Cx} {e : List Stmt} {t u : TS} (h : PSs X e t) (i : ∀ D σ H, u D σ H → t D σ H) : PSs X e u := ⟨fun pins s σ H D I hw => h.run pins s σ H D I (i D σ H hw)⟩

section
variable (P : Program) (w : World) (K : PySem.W.Frag) (ro : O) (kp : List Nat) (lc : Option Lp)
/-- kp: a slot that is not written; what it holds stays -/
def Kept (kp : List Nat) (σ0 σ' : L2.St) : Prop := ∀ k, k ∈ kp → σ'[k]? = σ0[k]?
def post (σ0 : L2.St) (He H : Hp) (L W : List Addr) (own : List O) (ρ : Env) (C : L2.St → Hp → Prop) : Prop :=
  ∀ σ' H' L' Ro, SR P w K own H' L' W σ' ρ Ro → Same He H' → (∀ a ∈ L', He a = none) → Same (hid H (L ++ W)) (hid H' (L' ++ W)) → Kept kp σ0 σ' → C σ' H'
def fin (σ0 : L2.St) (He H : Hp) (L W : List Addr) (own : List O) (fl : Fl) (ρ : Env) (D : Ends) : Prop := match fl with
  | .nx => post P w K kp σ0 He H L W own ρ D.nx
  | .ct => match lc with
    | some c => post P w K kp σ0 He H L W c.own (killR c.ks ρ) D.ct
    | none => True
  | .bk => match lc with
    | some c => post P w K kp σ0 He H L W c.own (killR c.ks ρ) D.bk
    | none => True
  | .rt d => ∀ v H', Same He H' → Res P w K (mdO ro) He H' W v d → D.rt v H'
def tS (own own' : List O) (f : Env → R (Fl × Env)) : TS := fun D σ H => ∃ He W L ρ Ro fl ρ', SR P w K own H L W σ ρ Ro ∧ Same He H ∧ (∀ a ∈ L, He a = none) ∧ f ρ = .ok (fl, ρ') ∧ fin P w K ro kp lc σ He H L W own' fl ρ' D
end
abbrev PSX (X : Cx) (ro : O) (kp : List Nat) (lc : Option Lp) (own own' : List O) (st : Stmt) (f : Env → R (Fl × Env)) : Prop := PS X st (tS X.prog X.w X.K ro kp lc own own' f)
abbrev PSsX (X : Cx) (ro : O) (kp : List Nat) (lc : Option Lp) (own own' : List O) (st : List Stmt) (f : Env → R (Fl × Env)) : Prop := PSs X st (tS X.prog X.w X.K ro kp lc own own' f)
structure SCtx (X : Cx) (T : Str → Option Def) (F : Orc) (n : Nat) (N : List Str) (sc : Scope) : Prop where
  m : MCtx X T F n N sc
  kind : X.env.scope.kind = .function
  fn : ∀ x, X.fn x = true
  xe : X.xe = fun _ _ => False

section
variable {P : Program} {w : World} {K : PySem.W.Frag} {own own' own2 : List O} {H H' H1 He : Hp} {L L1 W : List Addr} {σ : L2.St} {ρ ρ' : Env} {Ro : Nat → Option Addr} {ro : O} {kp : List Nat} {lc : Option Lp} {fl : Fl} {D : Ends}
theorem Kept.refl {σ : L2.St} : Kept kp σ σ := fun _ _ => rfl
theorem Kept.trans {a b c : L2.St} (h : Kept kp a b) (g : Kept kp b c) : Kept kp a c := fun k e => (g k e).trans (h k e)
theorem Kept.set {a : L2.St} {i : Nat} {v : Option V} (h : ∀ k, k ∈ kp → k ≠ i) : Kept kp a (a.set i v) := fun k e => List.getElem?_set_ne fun z => h k e z.symm
/-- a later start -/
theorem post_at {σ0 σ1 : L2.St} {C : L2.St → Hp → Prop} (hv : Same (hid H (L ++ W)) (hid H1 (L1 ++ W))) (hk : Kept kp σ0 σ1) (h : post P w K kp σ0 He H L W own ρ C) : post P w K kp σ1 He H1 L1 W own ρ C :=
  fun σ' H' L' Ro S se lo vi kk => h σ' H' L' Ro S se lo (hv.trans vi) (hk.trans kk)
theorem fin_at {σ0 σ1 : L2.St} (hv : Same (hid H (L ++ W)) (hid H1 (L1 ++ W))) (hk : Kept kp σ0 σ1) (h : fin P w K ro kp lc σ0 He H L W own fl ρ D) : fin P w K ro kp lc σ1 He H1 L1 W own fl ρ D := by
  cases fl with
  | nx => exact post_at hv hk h
  | rt d => exact h
  | ct =>
    cases lc with
    | none => trivial
    | some c => exact post_at hv hk h
  | bk =>
    cases lc with
    | none => trivial
    | some c => exact post_at hv hk h
theorem SR.grow (S : SR P w K own H L W σ ρ Ro) {p : Addr} {o : HO} (hs : Same H H1) (h : H p = none) (h1 : H1 p = some o) (m : Mut (some o)) : SR P w K own H1 (p :: L) W σ ρ Ro := by
  refine ⟨S.len, fun i d e => ?_, fun i d a e r => ⟨List.mem_cons_of_mem _ (S.loc i d a e r).1, (S.loc i d a e r).2⟩, S.inj, fun a q => ?_⟩
  · obtain ⟨v, e1, q⟩ := S.val i d e
    refine ⟨v, e1, q.mono (fun a ra => ⟨?_, hs _⟩) (hid_new hs fun a z => ?_)⟩
    · exact List.mem_cons_of_mem _ (List.mem_append_left _ (S.loc i d a e ra).1)
    · rcases List.mem_cons.mp z with rfl | z
      · exact .inr h
      · exact .inl z
  · rcases List.mem_cons.mp q with rfl | q
    · exact ⟨o, h1, m⟩
    · obtain ⟨u, e, m⟩ := S.wm a q
      exact ⟨u, hs _ _ e, m⟩
theorem Own.there {o : O} {v : V} {d : MP.D} {a : Addr} (h : Own P w K H W o v d (some a)) : ∃ o, H a = some o ∧ Mut (some o) := by
  cases h with
  | li _ r => exact r.there
  | tp _ _ _ _ _ r _ => exact r.there
end

section
variable {X : Cx} {T : Str → Option Def} {F : Orc} {n : Nat} {N : List Str} {sc : Scope} {dcl own own1 own2 : List O} {ro : O} {kp : List Nat} {lc : Option Lp} {st : Stmt} {sts : List Stmt} {f g : Env → R (Fl × Env)} {pos : Pos} {e : Expr} {fe : Env → R MP.D} {md : Md}
theorem s_imp (h : PSX X ro kp lc own own1 st f) (hf : ∀ r, g r = f r) : PSX X ro kp lc own own1 st g := by
  obtain rfl : g = f := funext hf
  exact h
theorem ss_imp (h : PSsX X ro kp lc own own1 sts f) (hf : ∀ r, g r = f r) : PSsX X ro kp lc own own1 sts g := by
  obtain rfl : g = f := funext hf
  exact h
theorem s_nil : PSsX X ro kp lc own own [] (fun r => .ok (.nx, r)) := PSsi pss_nil fun D σ H ⟨He, W, L, ρ, Ro, fl, ρ', S, se, lo, hf, q⟩ => by
  cases hf
  exact q σ H L Ro S se lo (Same.refl _) .refl
abbrev seqF (f g : Env → R (Fl × Env)) : Env → R (Fl × Env) := fun r => (f r).bind fun p => match p.1 with
  | .nx => g p.2
  | fl => .ok (fl, p.2)
theorem s_cons (h1 : PSX X ro kp lc own own1 st f) (h2 : PSsX X ro kp lc own1 own2 sts g) : PSsX X ro kp lc own own2 (st :: sts) (seqF f g) :=
  PSsi (pss_cons h1 h2) fun D σ H ⟨He, W, L, ρ, Ro, fl, ρ', S, se, lo, hf, q⟩ => by
    obtain ⟨⟨fl1, ρ1⟩, hf1, hf2⟩ := R.bind_eq_ok.mp hf
    refine ⟨He, W, L, ρ, Ro, fl1, ρ1, S, se, lo, hf1, ?_⟩
    cases fl1 with
    | nx => exact fun σ1 H1 L1 Ro1 S1 se1 lo1 vi kk => ⟨He, W, L1, ρ1, Ro1, fl, ρ', S1, se1, lo1, hf2, fin_at vi kk q⟩
    | rt d => cases hf2; exact q
    | ct => cases hf2; exact q
    | bk => cases hf2; exact q
theorem s_skip {k : Env → Env} (h2 : PSsX X ro kp lc own1 own2 sts g) (hk : ∀ H L W σ ρ Ro, SR X.prog X.w X.K own H L W σ ρ Ro → ∃ L' Ro', SR X.prog X.w X.K own1 H L' W σ (k ρ) Ro' ∧ ∀ b ∈ L', b ∈ L) :
    PSsX X ro kp lc own own2 sts (fun r => g (k r)) :=
  PSsi h2 fun D σ H ⟨He, W, L, ρ, Ro, fl, ρ', S, se, lo, hf, q⟩ => by
    obtain ⟨L', Ro', S', sub⟩ := hk H L W σ ρ Ro S
    refine ⟨He, W, L', k ρ, Ro', fl, ρ', S', se, fun a m => lo a (sub a m), hf, fin_at (hid_sub fun a m => ?_) .refl q⟩
    rcases List.mem_append.mp m with m | m
    · exact List.mem_append_left _ (sub a m)
    · exact List.mem_append_right _ m

/-! small ones -/
theorem s_pass : PSX X ro kp lc own own (.Pass pos) (fun r => .ok (.nx, r)) := PSi ps_pass fun D σ H ⟨He, W, L, ρ, Ro, fl, ρ', S, se, lo, hf, q⟩ => by
  cases hf
  exact q σ H L Ro S se lo (Same.refl _) .refl
theorem s_ex (he : PEX X own e fe md) (hs : swapsWith e none pos.line X.env = pure false) : PSX X ro kp lc own own (.Expr e pos) (fun r => (fe r).bind fun _ => .ok (.nx, r)) :=
  PSi (ps_expr he hs) fun D σ H ⟨He, W, L, ρ, Ro, fl, ρ', S, se, lo, hf, q⟩ => by
    obtain ⟨d, hd, hf⟩ := R.bind_eq_ok.mp hf
    cases hf
    exact ⟨L, W, ρ, Ro, d, S, hd, fun v H1 s1 _ => q σ H1 L Ro (S.same s1) (se.trans s1) lo (hid_same s1) .refl⟩
theorem s_cont {c : Lp} (h : agree own c.own c.ks = true) : PSX X ro kp (some c) own own (.Continue pos) (fun r => .ok (.ct, r)) := PSi ps_continue fun D σ H ⟨He, W, L, ρ, Ro, fl, ρ', S, se, lo, hf, q⟩ => by
  cases hf
  exact q σ H L Ro (S.killO c.ks fun i hi => (agree_get h hi).symm) se lo (Same.refl _) .refl
theorem s_brk {c : Lp} (h : agree own c.own c.ks = true) : PSX X ro kp (some c) own own (.Break pos) (fun r => .ok (.bk, r)) := PSi ps_break fun D σ H ⟨He, W, L, ρ, Ro, fl, ρ', S, se, lo, hf, q⟩ => by
  cases hf
  exact q σ H L Ro (S.killO c.ks fun i hi => (agree_get h hi).symm) se lo (Same.refl _) .refl
theorem s_ifs {c : Expr} {p q : List Stmt} {fc : Env → R Bool} (hc : PTX X own c fc) (h1 : PSsX X ro kp lc own own1 p f) (h2 : PSsX X ro kp lc own own2 q g)
    (j1 : ∀ r r', f r = .ok (.nx, r') → own1 = dcl) (j2 : ∀ r r', g r = .ok (.nx, r') → own2 = dcl) : PSX X ro kp lc own dcl (.If c p q pos) (fun r => (fc r).bind fun k => if k then f r else g r) :=
  PSi (ps_if hc h1 h2) fun D σ H ⟨He, W, L, ρ, Ro, fl, ρ', S, se, lo, hf, q⟩ => by
    obtain ⟨k, hk, hf⟩ := R.bind_eq_ok.mp hf
    refine ⟨L, W, ρ, Ro, k, S, hk, fun H1 s1 => ?_⟩
    cases k with
    | true =>
      rw [if_pos rfl] at hf ⊢
      refine ⟨He, W, L, ρ, Ro, fl, ρ', S.same s1, se.trans s1, lo, hf, fin_at (hid_same s1) .refl ?_⟩
      cases fl with
      | nx => rw [j1 _ _ hf]; exact q
      | rt d => exact q
      | ct => exact q
      | bk => exact q
    | false =>
      rw [if_neg (by decide)] at hf ⊢
      refine ⟨He, W, L, ρ, Ro, fl, ρ', S.same s1, se.trans s1, lo, hf, fin_at (hid_same s1) .refl ?_⟩
      cases fl with
      | nx => rw [j2 _ _ hf]; exact q
      | rt d => exact q
      | ct => exact q
      | bk => exact q

/-! return -/
theorem ret_val {P : Program} {w : World} {K : PySem.W.Frag} {He H H' : Hp} {L W : List Addr} {v : V} {d : MP.D} (se : Same He H) (lo : ∀ a ∈ L, He a = none) (hw : ∀ a ∈ L ++ W, H a ≠ none) (s1 : Same H H') (r : Res P w K md H H' (L ++ W) v d) :
    (md ≠ .b → Rep P w K (hid H' W) v d) ∧ ((md = .l ∨ ∃ k, md = .t k) → Res P w K md He H' W v d) := by
  have sub : ∀ a ∈ W, a ∈ L ++ W := fun a m => List.mem_append_right _ m
  refine ⟨fun hb => (r.to_s hw s1 hb).mono (hid_sub sub), fun hm => ?_⟩
  have sub2 : ∀ p, ∀ a ∈ p :: W, a ∈ p :: (L ++ W) := fun p a m => by
    rcases List.mem_cons.mp m with rfl | m
    · exact List.mem_cons_self
    · exact List.mem_cons_of_mem _ (sub a m)
  rcases hm with rfl | ⟨k, rfl⟩
  · obtain ⟨a, rfl, ha, rr⟩ := r
    exact ⟨a, rfl, none_back se ha, rr.mono (fun _ z => z) (hid_sub (sub2 a))⟩
  · obtain ⟨a, ha, rr⟩ := r
    exact ⟨a, none_back se ha, rr.mono (fun b e => by cases e; exact ⟨List.mem_cons_self, fun _ z => z⟩) (hid_sub (sub2 a))⟩
theorem s_ret (he : PEX X own e fe md) (hm : (ro = .sh ∧ md ≠ .b) ∨ (ro = .li ∧ md = .l) ∨ ∃ k, ro = .tp k ∧ md = .t k) : PSX X ro kp lc own own (.Return (some e) pos) (fun r => (fe r).bind fun d => .ok (.rt d, r)) :=
  PSi (ps_ret he) fun D σ H ⟨He, W, L, ρ, Ro, fl, ρ', S, se, lo, hf, q⟩ => by
    obtain ⟨d, hd, hf⟩ := R.bind_eq_ok.mp hf
    cases hf
    refine ⟨L, W, ρ, Ro, d, S, hd, fun v H1 s1 r => q v H1 (se.trans s1) ?_⟩
    obtain ⟨r1, r2⟩ := ret_val se lo S.hw s1 r
    rcases hm with ⟨rfl, hm⟩ | ⟨rfl, rfl⟩ | ⟨k, rfl, rfl⟩
    · exact r1 hm
    · exact r2 (.inl rfl)
    · exact r2 (.inr ⟨k, rfl⟩)
/-- a new list of new lists -/
theorem s_retN (he : PEX X own e fe .n) (hro : ro = .nl) : PSX X ro kp lc own own (.Return (some e) pos) (fun r => (fe r).bind fun d => .ok (.rt d, r)) :=
  PSi (ps_ret he) fun D σ H ⟨He, W, L, ρ, Ro, fl, ρ', S, se, lo, hf, q⟩ => by
    obtain ⟨d, hd, hf⟩ := R.bind_eq_ok.mp hf
    cases hf
    subst hro
    refine ⟨L, W, ρ, Ro, d, S, hd, fun v H1 s1 r => q v H1 (se.trans s1) ?_⟩
    obtain ⟨a, vs, ds, e1, e2, ha, h1, h2, h3, h4⟩ := r
    refine ⟨a, vs, ds, e1, e2, none_back se ha, h1, h2.mono (hid_sub fun c m => ?_), h3, fun u m => ?_⟩
    · rcases List.mem_cons.mp m with rfl | m
      · exact List.mem_cons_self
      · exact List.mem_cons_of_mem _ (List.mem_append_right _ m)
    · obtain ⟨b, us, e, n1, n2⟩ := h4 u m
      exact ⟨b, us, e, none_back se n1, n2⟩
theorem s_retV {i : Nat} {x : Str} {px : Pos} (hN : X.N[i]? = some x) (hv : Vis X.env.scope x) (hd : (x == ("__debug__" : Str)) = false) (hcd : (x == ("__classdict__" : Str)) = false) (hm : (ro = .sh ∧ noTp own i = true) ∨ (ro ≠ .sh ∧ ownV own i = ro)) :
    PSX X ro kp lc own own (.Return (some (.Name x px)) pos) (fun r => (varE i r).bind fun d => .ok (.rt d, r)) :=
  PSi (ps_ret (pe_var hN hv hd hcd)) fun D σ H ⟨He, W, L, ρ, Ro, fl, ρ', S, se, lo, hf, q⟩ => by
    obtain ⟨d, hd, hf⟩ := R.bind_eq_ok.mp hf
    cases hf
    unfold varE at hd
    split at hd
    · rename_i d' e
      cases hd
      obtain ⟨v, ev, ow⟩ := S.val i d e
      refine ⟨v, ev, q v H se ?_⟩
      have loc := S.loc i d
      have sub : ∀ a ∈ W, a ∈ L ++ W := fun a m => List.mem_append_right _ m
      have sub2 : ∀ p ∈ L, ∀ a ∈ p :: W, a ∈ L ++ W := fun p hp a m => by
        rcases List.mem_cons.mp m with rfl | m
        · exact List.mem_append_left _ hp
        · exact sub a m
      rcases hm with ⟨rfl, hm⟩ | ⟨hn, rfl⟩
      · unfold noTp ownV at hm
        generalize own.getD i .sh = o at ow hm
        generalize Ro i = ri at ow loc
        cases ow with
        | sh r => exact r.mono (hid_sub sub)
        | li m r => exact r.rep (fun o z => hid_some.mpr ⟨(loc _ e rfl).2, z⟩) (hid_sub sub)
        | tp => cases hm
      · unfold ownV at hn ⊢
        generalize own.getD i .sh = o at ow hn
        generalize Ro i = ri at ow loc
        cases ow with
        | sh r => exact absurd rfl hn
        | li m r => exact ⟨_, rfl, lo _ (loc _ e rfl).1, r.mono (fun _ z => z) (hid_sub (sub2 _ (loc _ e rfl).1))⟩
        | tp a b c d' m r g => exact ⟨_, lo _ (loc _ e rfl).1, (Own.tp a b c d' m r g).mono (fun b e => by cases e; exact ⟨List.mem_cons_self, fun _ z => z⟩) (hid_sub (sub2 _ (loc _ e rfl).1))⟩
    · cases hd

/-! a name's value is stored -/
theorem s_asg {i : Nat} {o : O} (h : PS X st (tAsg (tX X.prog X.w X.K own fe md) (gName i))) (hl : i < own.length) (hkp : ∀ k, k ∈ kp → k ≠ i) (ho : (o = .sh ∧ md ≠ .b) ∨ (o = .li ∧ md = .l) ∨ ∃ k, o = .tp k ∧ md = .t k) :
    PSX X ro kp lc own (own.set i o) st (fun r => (fe r).bind fun d => (asgG (.nm i) d r).bind fun r' => .ok (.nx, r')) :=
  PSi h fun D σ H ⟨He, W, L, ρ, Ro, fl, ρ', S, se, lo, hf, q⟩ => by
    obtain ⟨d, hd, hf⟩ := R.bind_eq_ok.mp hf
    cases hf
    refine ⟨L, W, ρ, Ro, d, S, hd, fun v H1 s1 r => ?_⟩
    show D.nx (σ.set i (some v)) H1
    have S1 := (S.same s1).reown i o
    have eq : (ρ.set i none).set i (some d) = ρ.set i (some d) := List.set_set ..
    have taken : ∀ a, H a = none → Own X.prog X.w X.K H1 (a :: (L ++ W)) o v d (some a) → D.nx (σ.set i (some v)) H1 := fun a ha ow => by
      obtain ⟨ob, hob, mob⟩ := ow.there
      have fr := S.fresh ha
      have S2 := (S.grow s1 ha hob mob).reown i o
      have S3 := S2.take (i := i) (v := v) (d := d) (a := a) (by rw [getD_self _ _ _ hl]; exact ow) List.mem_cons_self (fun m => fr (List.mem_append_right _ m)) fun j e hj hlive hR => by
        have hj' : (ρ.set i none)[j]? = some (some e) := hlive
        rw [List.getElem?_set_ne (fun z => hj z.symm)] at hj'
        exact fr (List.mem_append_left _ (S.loc j e a hj' hR).1)
      rw [eq] at S3
      refine q _ H1 (a :: L) _ S3 (se.trans s1) (fun b m => ?_) (hid_new s1 fun b m => ?_) (.set hkp)
      · rcases List.mem_cons.mp m with rfl | m
        · exact none_back se ha
        · exact lo b m
      · rcases List.mem_cons.mp m with rfl | m
        · exact .inr ha
        · exact .inl m
    rcases ho with ⟨rfl, hm⟩ | ⟨rfl, rfl⟩ | ⟨k, rfl, rfl⟩
    · have S2 := S1.store (i := i) (getD_sh own i) (r.to_s S.hw s1 hm)
      rw [eq] at S2
      exact q _ H1 L _ S2 (se.trans s1) lo (hid_same s1) (.set hkp)
    · obtain ⟨a, rfl, ha, rr⟩ := r
      exact taken a ha (.li List.mem_cons_self rr)
    · obtain ⟨a, ha, ow⟩ := r
      exact taken a ha ow
theorem s_asgT {is : List Nat} (h : PS X st (tAsg (tX X.prog X.w X.K own fe md) (tXG X.prog X.w X.K own (.tp is)))) (hkp : ∀ k, k ∈ kp → k ∉ is) (hm : md ≠ .b) : PSX X ro kp lc own own st (fun r => (fe r).bind fun d => (asgG (.tp is) d r).bind fun r' => .ok (.nx, r')) :=
  PSi h fun D σ H ⟨He, W, L, ρ, Ro, fl, ρ', S, se, lo, hf, q⟩ => by
    obtain ⟨d, hd, hf⟩ := R.bind_eq_ok.mp hf
    obtain ⟨r', hr', hf⟩ := R.bind_eq_ok.mp hf
    cases hf
    refine ⟨L, W, ρ, Ro, d, S, hd, fun v H1 s1 r => ?_⟩
    exact ⟨L, W, ρ, Ro, d, _, S.same s1, r.to_s S.hw s1 hm, hr', fun σ' Ro' S' fr => q σ' H1 L Ro' S' (se.trans s1) lo (hid_same s1) fun k e => fr k (hkp k e)⟩
theorem s_aug {i : Nat} (h : PS X st (tAug i (tX X.prog X.w X.K own fe md) (ipI fun i j => i + j))) (hkp : ∀ k, k ∈ kp → k ≠ i) (ho : own.getD i .sh = .sh) :
    PSX X ro kp lc own own st (fun r => (varE i r).bind fun d => (fe r).bind fun v => match d, v with
      | .int _, .int _ => (binD .add d v).bind fun y => .ok (.nx, r.set i (some y))
      | _, _ => .bad) :=
  PSi h fun D σ H ⟨He, W, L, ρ, Ro, fl, ρ', S, se, lo, hf, q⟩ => by
    obtain ⟨d, hd, hf⟩ := R.bind_eq_ok.mp hf
    obtain ⟨y, hy, hf⟩ := R.bind_eq_ok.mp hf
    unfold varE at hd
    split at hd
    · rename_i d' e
      cases hd
      obtain ⟨v, ev, ow⟩ := S.val i d e
      rw [ho] at ow
      obtain ⟨_, rv⟩ := ow.none_of_sh
      cases d <;> first | (cases y <;> cases hf <;> done) | skip
      cases y <;> first | (cases hf; done) | skip
      cases hf
      cases rv
      refine ⟨_, ev, one_of S hy fun u H1 s1 bu S1 => ⟨_, _, rfl, bu.int, ?_⟩⟩
      exact q _ H1 L _ (S1.store ho (.int _)) (se.trans s1) lo (hid_same s1) (.set hkp)
    · cases hd
end
end MP
/-! Statements: what changes a list, a dict; loops. -/
namespace MP
open PySem PySem.Spec PyProof.Rows L2

section
variable {X : Cx} {T : Str → Option Def} {Fo : Orc} {n : Nat} {N : List Str} {sc : Scope} {own own1 own2 : List O} {ro : O} {kp : List Nat} {lc : Option Lp} {st : Stmt} {f g : Env → R (Fl × Env)} {pos px ap cp : Pos} {e : Expr} {fe fk : Env → R MP.D} {md mk : Md} {i : Nat} {x : Str}
/-- the owned object of a name -/
theorem own_at {P : Program} {w : World} {K : PySem.W.Frag} {H : Hp} {L W : List Addr} {σ : L2.St} {ρ : Env} {Ro : Nat → Option Addr} {d : MP.D} (S : SR P w K own H L W σ ρ Ro) (ho : own.getD i .sh = .li) (h : varE i ρ = .ok d) :
    ∃ a, ρ[i]? = some (some d) ∧ σ[i]? = some (some (.ref a)) ∧ Ro i = some a ∧ a ∈ L ∧ a ∉ W ∧ Root P w K H (L ++ W) a d := by
  unfold varE at h
  split at h
  · rename_i d' e
    cases h
    obtain ⟨v, ev, ow⟩ := S.val i d e
    have loc := S.loc i d
    rw [ho] at ow
    generalize hr : Ro i = ri at ow loc
    cases ow with
    | li m r => exact ⟨_, e, ev, rfl, (loc _ e rfl).1, (loc _ e rfl).2, r⟩
  · cases h
theorem few1 (hok : okX e = true) : ((backTo cp (starEach [e] X.env)).all (fun x => !x.1) && (backToKw cp (keywordEach [] X.env)).all (fun x => x.1.isSome)
      && decide (([e] : List Expr).length + ([] : List Keyword).length + (if ([] : List Keyword).isEmpty then 0 else 1) < 30)) = true := by
  rw [okX_star hok]; rfl
theorem s_app (hN : X.N[i]? = some x) (hv : Vis X.env.scope x) (hd : (x == ("__debug__" : Str)) = false) (hcd : (x == ("__classdict__" : Str)) = false) (ho : own.getD i .sh = .li) (he : PEX X own e fe md) (hm : md ≠ .b) (hok : okX e = true) (hl : lineB ap cp = true) :
    PSX X ro kp lc own own (.Expr (.Call (.Attribute (.Name x px) "append" ap) [e] [] cp) pos)
      (fun r => (varE i r).bind fun d => (lstOf d).bind fun xs => (fe r).bind fun v => if xs.length < lim then .ok (.nx, r.set i (some (.lst (xs ++ [v])))) else .bad) :=
  PSi (ps_expr (pe_bm PySem.F.plainAttrs_list PySem.F.slot_list_append PySem.F.type_list_append mt_append (pe_var hN hv hd hcd) (x_cons (sh := true) he x_nil hok fun _ => hm) rfl (few1 hok) hl (okX_star hok _ _) rfl) rfl) fun D σ H ⟨He, W, L, ρ, Ro, fl, ρ', S, se, lo, hf, q⟩ => by
    obtain ⟨d, hvd, hf⟩ := R.bind_eq_ok.mp hf
    obtain ⟨xs, hxs, hf⟩ := R.bind_eq_ok.mp hf
    obtain ⟨v, hve, hf⟩ := R.bind_eq_ok.mp hf
    obtain ⟨hz, e'⟩ := ite_ok hf
    cases e'
    rw [lim_line] at hz
    cases d <;> simp only [lstOf] at hxs <;> cases hxs
    obtain ⟨a, e1, e2, e3, m1, m2, r⟩ := own_at S ho hvd
    cases r with
    | lst ha hr =>
      rename_i vs
      refine ⟨_, e2, .inl ⟨rfl, vs, .inl (.inl ha)⟩, L, W, ρ, Ro, [v], S, by show (fe ρ).bind _ = _; rw [hve]; rfl, fun us H1 s1 b1 r1 => ?_⟩
      have r1' := r1 rfl
      cases r1' with
      | cons rv rn =>
        cases rn
        have hl' := hr.length
        have hL : a ∈ L ++ W := List.mem_append_left _ m1
        refine ⟨a, vs, _, rfl, rfl, s1 _ _ ha, by omega, ?_⟩
        have S1 := S.same s1
        have S2 := S1.change (o := .lst (vs ++ [_])) (d' := .lst (xs ++ [v])) e1 e2 e3 trivial (by
          rw [ho]
          exact .li hL (.lst upd_same (by rw [hid_upd hL]; exact (hr.mono (hid_same s1)).append (.cons rv .nil))))
        refine q σ _ L Ro S2 (fun b o z => ?_) lo (by rw [hid_upd hL]; exact hid_same s1) .refl
        have hne : b ≠ a := by rintro rfl; rw [lo _ m1] at z; cases z
        rw [upd_ne hne]
        exact s1 _ _ (se _ _ z)
def rExtR : V → List V → Hp → VK → Prop := fun x vs H Q => ∃ l b xs zs, x = .ref l ∧ vs = [.ref b] ∧ H l = some (.lst xs) ∧ Rd H b (.lst zs) ∧ xs.length + zs.length ≤ sizeLine ∧ Q .non (upd H l (.lst (xs ++ zs)))
theorem mt_extR : MtR X "list.extend" rExtR := by
  intro pins s σ H x vs v us Q I rx rv h
  obtain ⟨l, b, xs, zs, rfl, rfl, hH, hB, hz, q⟩ := h
  cases rx
  obtain ⟨u, rfl, ru⟩ := rv.one
  cases ru
  obtain ⟨z, its, n, r, hl, e⟩ := I.lstM hH
  obtain ⟨z2, its2, n2, r2, e2⟩ := hB.ok I.hok
  have hl2 := r2.length
  have hsz : its.toArray.size + its2.toArray.size ≤ sizeLine := by rw [List.size_toArray, List.size_toArray]; omega
  have hlong : ¬ (!its.toArray.isEmpty && Builtin.List.listTooLong (its.toArray.size + its2.toArray.size)) = true := by
    rw [notLongL hsz, Bool.and_false]
    exact Bool.false_ne_true
  refine call_meets F.slot_list_extend ⟨_, e, rfl⟩ F.entry_list_extend (F.args_list_extend_2 _ _)
    (AutoSeq1.list_extend_list_list_0 l its.toArray n b its2.toArray n2 hlong (by rw [List.size_toArray]; omega) (by omega)) ⟨e, e2, ?_⟩
  refine ⟨.non, _, I.lset (its' := its ++ its2) hH e (by simp) (r.append r2) ?_, rfl, q⟩
  rw [List.length_append]
  omega
theorem s_ext (hN : X.N[i]? = some x) (hv : Vis X.env.scope x) (hd : (x == ("__debug__" : Str)) = false) (hcd : (x == ("__classdict__" : Str)) = false) (ho : own.getD i .sh = .li) (he : PEX X own e fe md) (hok : okX e = true) (hl : lineB ap cp = true) :
    PSX X ro kp lc own own (.Expr (.Call (.Attribute (.Name x px) "extend" ap) [e] [] cp) pos)
      (fun r => (varE i r).bind fun d => (lstOf d).bind fun xs => (fe r).bind fun v => (lstOf v).bind fun ys => if xs.length + ys.length ≤ lim then .ok (.nx, r.set i (some (.lst (xs ++ ys)))) else .bad) :=
  PSi (ps_expr (pe_bm PySem.F.plainAttrs_list PySem.F.slot_list_extend PySem.F.type_list_extend mt_extR (pe_var hN hv hd hcd) (x_args1 he hok) rfl (few1 hok) hl (okX_star hok _ _) rfl) rfl) fun D σ H ⟨He, W, L, ρ, Ro, fl, ρ', S, se, lo, hf, q⟩ => by
    obtain ⟨d, hvd, hf⟩ := R.bind_eq_ok.mp hf
    obtain ⟨xs, hxs, hf⟩ := R.bind_eq_ok.mp hf
    obtain ⟨v, hve, hf⟩ := R.bind_eq_ok.mp hf
    obtain ⟨ys, hys, hf⟩ := R.bind_eq_ok.mp hf
    obtain ⟨hz, e'⟩ := ite_ok hf
    cases e'
    rw [lim_line] at hz
    cases d <;> simp only [lstOf] at hxs <;> cases hxs
    cases v <;> simp only [lstOf] at hys <;> cases hys
    obtain ⟨a, e1, e2, e3, m1, m2, r⟩ := own_at S ho hvd
    cases r with
    | lst ha hr =>
      rename_i vs
      refine ⟨_, e2, .inl ⟨rfl, vs, .inl (.inl ha)⟩, L, W, ρ, Ro, [.lst ys], S, by show (fe ρ).bind _ = _; rw [hve]; rfl, fun us H1 s1 b1 r1 => ?_⟩
      obtain ⟨u, rfl, bu⟩ := bors1 b1
      obtain ⟨b, zs, rfl, hb, hrb⟩ := bu.lst
      have hl' := hr.length
      have hl2 := hrb.length
      have hL : a ∈ L ++ W := List.mem_append_left _ m1
      refine ⟨a, b, vs, zs, rfl, rfl, s1 _ _ ha, hb, by omega, ?_⟩
      have S1 := S.same s1
      have S2 := S1.change (o := .lst (vs ++ zs)) (d' := .lst (xs ++ ys)) e1 e2 e3 trivial (by
        rw [ho]
        exact .li hL (.lst upd_same (by rw [hid_upd hL]; exact (hr.mono (hid_same s1)).append hrb)))
      refine q σ _ L Ro S2 (fun b o z => ?_) lo (by rw [hid_upd hL]; exact hid_same s1) .refl
      have hne : b ≠ a := by rintro rfl; rw [lo _ m1] at z; cases z
      rw [upd_ne hne]
      exact s1 _ _ (se _ _ z)
theorem root_flat {P : Program} {w : World} {K : PySem.W.Frag} {H : Hp} {W : List Addr} {a : Addr} {ds : List (MP.D × MP.D)} (h : Root P w K H W a (.dic ds)) (hf : (ds.all fun p => flatKey p.1) = true) : ∃ kvs, H a = some (.dK kvs) ∧ RepK P w K (hid H W) kvs ds := by
  cases h with
  | dic h1 h2 => exact ⟨_, h1, h2⟩
  | dicT h1 hn h2 =>
    cases h2 with
    | nil => exact absurd rfl hn
    | cons a b c e f g i =>
      rename_i kd d ds'
      have hf' : flatKey kd = true := by
        rw [List.all_eq_true] at hf
        exact hf _ List.mem_cons_self
      cases kd <;> first | (simp only [flatKey] at hf'; cases hf'; done) | (simp only [isTup] at b; cases b; done)
theorem root_tup {P : Program} {w : World} {K : PySem.W.Frag} {H : Hp} {W : List Addr} {a : Addr} {ds : List (MP.D × MP.D)} (h : Root P w K H W a (.dic ds)) (hf : (ds.all fun p => tupKey p.1) = true) : ∃ es, RawAt P w H a es ∧ RepT P w K (hid H W) es ds := by
  cases h with
  | dicT h1 hn h2 => exact ⟨_, .inl h1, h2⟩
  | dic h1 h2 =>
    cases h2 with
    | nil => exact ⟨[], .inr ⟨h1, rfl⟩, .nil⟩
    | @cons k v vs d ds z a b =>
      rw [List.all_eq_true] at hf
      have := hf _ List.mem_cons_self
      cases k <;> (simp only [keyD, tupKey, isTup, Bool.false_and] at this; cases this)
theorem s_put {k : Expr} {p2 : Pos} (hu : X.A.units + 110 < cLine) (hN : X.N[i]? = some x) (hv : Vis X.env.scope x) (hd : (x == ("__debug__" : Str)) = false) (hcd : (x == ("__classdict__" : Str)) = false) (ho : own.getD i .sh = .li) (he : PEX X own e fe md) (hm : md ≠ .b) (hk : PEX X own k fk mk)
    (hs : swapsWith e (some (.Subscript (.Name x px) k p2)) pos.line X.env = pure false) :
    PSX X ro kp lc own own (.Assign [.Subscript (.Name x px) k p2] e pos)
      (fun r => (fe r).bind fun v => (varE i r).bind fun d => (fk r).bind fun kd => match d with
        | .dic kvs => if (keyFor kvs kd || tupFor kvs kd) && decide (kvs.length < lim) then .ok (.nx, r.set i (some (.dic (putKV kvs kd v)))) else .bad
        | .lst xs => (unint kd).bind fun j => if 0 ≤ j ∧ j < xs.length ∧ xs.length ≤ lim then .ok (.nx, r.set i (some (.lst (xs.set j.toNat v)))) else .bad
        | _ => .bad) :=
  PSi (ps_putX (by omega) (pe_var hN hv hd hcd) hk he hs) fun D σ H ⟨He, W, L, ρ, Ro, fl, ρ', S, se, lo, hf, q⟩ => by
    obtain ⟨v, hve, hf⟩ := R.bind_eq_ok.mp hf
    obtain ⟨d, hvd, hf⟩ := R.bind_eq_ok.mp hf
    obtain ⟨kd, hkd, hf⟩ := R.bind_eq_ok.mp hf
    by_cases hlst : ∃ xs, d = .lst xs
    · obtain ⟨xs, rfl⟩ := hlst
      obtain ⟨j, hj, hf⟩ := R.bind_eq_ok.mp hf
      obtain ⟨⟨hj0, hj1, hz⟩, e'⟩ := ite_ok hf
      cases e'
      obtain rfl := unint_ok hj
      rw [lim_line] at hz
      obtain ⟨a, e1, e2, e3, m1, m2, r⟩ := own_at S ho hvd
      refine ⟨L, W, ρ, Ro, v, S, hve, fun u H1 s1 r1 => ⟨_, e2, ?_⟩⟩
      refine one_of (S.same s1) hkd fun y H2 s2 by' S2 => .inr (.inl ?_)
      have hL : a ∈ L ++ W := List.mem_append_left _ m1
      have s12 := s1.trans s2
      obtain rfl := by'.int
      cases r with
      | lst ha hr =>
        rename_i vs
        have hl := hr.length
        obtain ⟨k, rfl⟩ := Int.eq_ofNat_of_zero_le hj0
        have hk : k < vs.length := by omega
        refine ⟨a, vs, (k : Int), k, rfl, rfl, s12 _ _ ha, ?_, ?_⟩
        · unfold ixN
          rw [if_pos (by omega), if_pos (by omega)]
          simp
        · have S3 := S2.change (o := .lst (vs.set k u)) (d' := .lst (xs.set k v)) e1 e2 e3 trivial (by
            rw [ho]
            exact .li hL (.lst upd_same (by rw [hid_upd hL]; exact Reps.set ((r1.to_s S.hw s1 hm).mono (hid_same s2)) k (hr.mono (hid_same s12)))))
          refine q σ _ L Ro S3 (fun b o' z => ?_) lo (by rw [hid_upd hL]; exact hid_same s12) .refl
          have hne : b ≠ a := by rintro rfl; rw [lo _ m1] at z; cases z
          rw [upd_ne hne]
          exact s12 _ _ (se _ _ z)
    obtain ⟨kvs, rfl⟩ : ∃ kvs, d = .dic kvs := by cases d <;> first | exact ⟨_, rfl⟩ | (cases hf; done) | exact absurd ⟨_, rfl⟩ hlst
    obtain ⟨hz, e'⟩ := ite_ok hf
    cases e'
    rw [Bool.and_eq_true, decide_eq_true_eq, lim_line] at hz
    obtain ⟨a, e1, e2, e3, m1, m2, r⟩ := own_at S ho hvd
    refine ⟨L, W, ρ, Ro, v, S, hve, fun u H1 s1 r1 => ⟨_, e2, ?_⟩⟩
    have S1 := S.same s1
    refine one_of S1 hkd fun y H2 s2 by' S2 => ?_
    have hL : a ∈ L ++ W := List.mem_append_left _ m1
    have s12 := s1.trans s2
    have fin : ∀ (o : HO) (S3 : SR X.prog X.w X.K own (upd H2 a o) L W σ (ρ.set i (some (.dic (putKV kvs kd v)))) Ro), D.nx σ (upd H2 a o) := fun o S3 => by
      refine q σ _ L Ro S3 (fun b o' z => ?_) lo (by rw [hid_upd hL]; exact hid_same s12) .refl
      have hne : b ≠ a := by rintro rfl; rw [lo _ m1] at z; cases z
      rw [upd_ne hne]
      exact s12 _ _ (se _ _ z)
    cases hkf : keyFor kvs kd with
    | true =>
      unfold keyFor at hkf
      rw [Bool.and_eq_true] at hkf
      obtain ⟨kk, ha, hr⟩ := root_flat r hkf.2
      obtain ⟨key, rfl, rfl, kz⟩ := key_flat by' hkf.1
      have hl' := hr.length
      refine .inl ⟨a, _, rfl, DPut.k (s12 _ _ ha) (by omega), fin _ ?_⟩
      exact S2.change (o := .dK (putK kk key u)) (d' := .dic (putKV kvs (keyD key) v)) e1 e2 e3 trivial (by
        rw [ho]
        exact .li hL (.dic upd_same (by rw [hid_upd hL]; exact RepK.put key kz ((r1.to_s S.hw s1 hm).mono (hid_same s2)) (hr.mono (hid_same s12)))))
    | false =>
      rw [hkf, Bool.false_or] at hz
      unfold tupFor at hz
      rw [Bool.and_eq_true] at hz
      obtain ⟨es, ha, hr⟩ := root_tup r hz.1.2
      obtain ⟨key, hk1, hk2, hk3⟩ := tupKey_to hz.1.1
      have hb : Rep X.prog X.w X.K (hid H2 (L ++ W)) y kd := tup_rep S2.wm by'.rep hz.1.1
      obtain ⟨b, rfl⟩ : ∃ b, y = .ref b := by
        cases kd <;> first | (cases hk2; done) | skip
        obtain ⟨b, _, rfl, _⟩ := by'.tup
        exact ⟨b, rfl⟩
      have hl' := repT_len hr
      have hr2 := hr.mono (hid_same s12)
      have ha2 : RawAt X.prog X.w H2 a es := ha.imp (fun h => s12 _ _ h) fun h => ⟨s12 _ _ h.1, h.2⟩
      refine .inr (.inr ⟨a, b, es, kvs, key, kd, hid H2 (L ++ W), rfl, rfl, hid_le, ha2, by omega, hr2, hb, hk1, hk3, fun z rz => fin _ ?_⟩)
      exact S2.change (o := .ext (RawD X.prog X.w a (storedH es key b z))) (d' := .dic (putKV kvs kd v)) e1 e2 e3 trivial (by
        rw [ho]
        exact .li hL (.dicT upd_same (storedH_ne _ _ _ _) (by rw [hid_upd hL]; exact repT_put hk1 hk2 hk3 hb rz ((r1.to_s S.hw s1 hm).mono (hid_same s2)) hr2)))

/-- v.pop() -/
theorem s_pop (hN : X.N[i]? = some x) (hv : Vis X.env.scope x) (hd : (x == ("__debug__" : Str)) = false) (hcd : (x == ("__classdict__" : Str)) = false) (ho : own.getD i .sh = .li) (hl : lineB ap cp = true) :
    PSX X ro kp lc own own (.Expr (.Call (.Attribute (.Name x px) "pop" ap) [] [] cp) pos)
      (fun r => (varE i r).bind fun d => (lstOf d).bind fun xs => if xs = [] then .bad else .ok (.nx, r.set i (some (.lst xs.dropLast)))) :=
  PSi (ps_expr (pe_bm0 PySem.F.plainAttrs_list PySem.F.slot_list_pop PySem.F.type_list_pop mt_pop (pe_var hN hv hd hcd) rfl hl) rfl) fun D σ H ⟨He, W, L, ρ, Ro, fl, ρ', S, se, lo, hf, q⟩ => by
    obtain ⟨d, hvd, hf⟩ := R.bind_eq_ok.mp hf
    obtain ⟨xs, hxs, hf⟩ := R.bind_eq_ok.mp hf
    split at hf
    · cases hf
    rename_i hne
    cases hf
    cases d <;> simp only [lstOf] at hxs <;> cases hxs
    obtain ⟨a, e1, e2, e3, m1, m2, r⟩ := own_at S ho hvd
    cases r with
    | lst ha hr =>
      rename_i vs
      have hlen := hr.length
      have h0 : 0 < xs.length := List.length_pos_iff.mpr hne
      have hL : a ∈ L ++ W := List.mem_append_left _ m1
      refine ⟨_, e2, .inl ⟨rfl, vs, .inl (.inl ha)⟩, a, vs, vs[vs.length - 1], rfl, rfl, ha, List.getElem?_eq_getElem _, ?_⟩
      have S2 := S.change (o := .lst vs.dropLast) (d' := .lst xs.dropLast) e1 e2 e3 trivial (by
        rw [ho]
        exact .li hL (.lst upd_same (by rw [hid_upd hL]; exact hr.dropLast)))
      refine q σ _ L Ro S2 (fun b o z => ?_) lo (by rw [hid_upd hL]; exact Same.refl _) .refl
      have hne : b ≠ a := by rintro rfl; rw [lo _ m1] at z; cases z
      rw [upd_ne hne]
      exact se _ _ z
/-! loops -/
theorem s_loop {tg iter : Expr} {body : List Stmt} {g : IG} {ks : List Nat} {fi : Env → R (List MP.D)} (hx : X.xe = fun _ _ => False) (hc : X.calm = true) (hi : PIX X own tg iter true fi) (hg : PG X tg (tXG X.prog X.w X.K own1 g))
    (hb : PSsX X ro kp (some ⟨own1, ks⟩) own1 own2 body f) (hs : ∀ x, foldedSetIterable iter X.env x = pure x) (hkp : ∀ k, k ∈ kp → k ∉ gV g) (h1 : ∀ i, i ∉ ks → own1.getD i .sh = own.getD i .sh)
    (h2 : ∀ r r', f r = .ok (.nx, r') → ∀ i, i ∉ ks → own1.getD i .sh = own2.getD i .sh) :
    PSX X ro kp lc own own1 (.For tg iter body [] pos) (fun r => (fi r).bind fun xs => forL ks (fun x r => (asgG g x r).bind fun r' => f r') xs r) :=
  PSi (ps_for (by rw [hx]; exact PassesOwn.never) hc hi hg hb hs) fun D σ H ⟨He, W, L, ρ, Ro, fl, ρ', S, se, lo, hf, q⟩ => by
    obtain ⟨xs, hxs, hf⟩ := R.bind_eq_ok.mp hf
    refine ⟨L, W, ρ, Ro, xs, S, hxs, fun J H1 s1 wk => ?_⟩
    let Pv : Nat → L2.St → Hp → Prop := fun i σ' H' => ∃ L' ρi Ro', SR X.prog X.w X.K own1 H' L' W σ' (killR ks ρi) Ro' ∧ Same He H' ∧ (∀ a ∈ L', He a = none) ∧ Same (hid H1 (L ++ W)) (hid H' (L' ++ W)) ∧ Kept kp σ σ' ∧
      forL ks (fun x r => (asgG g x r).bind fun r' => f r') (xs.drop i) ρi = .ok (fl, ρ')
    refine ⟨fun i m σ' H' => m = xs.length - i ∧ i ≤ xs.length ∧ Pv i σ' H', ⟨xs.length, rfl, Nat.zero_le _, L, ρ, Ro, (S.same s1).killO ks h1, se.trans s1, lo, Same.refl _, .refl, hf⟩, ?_⟩
    rintro i m σ' H' ⟨rfl, hi', L', ρi, Ro', S', se', lo', vi, kk, hr⟩
    obtain ⟨w1, w2⟩ := wk i H' (L' ++ W) (fun z => nomatch z) vi S'.hw
    by_cases hlt : i < xs.length
    · obtain ⟨go, yl⟩ := w1 _ (List.getElem?_eq_getElem hlt)
      refine .inr ⟨go, Pv (i + 1), fun σ2 H2 p' => ⟨xs.length - (i + 1), by omega, rfl, hlt, p'⟩, fun x H2 y => ?_⟩
      obtain ⟨s2, rx⟩ := yl x H2 y
      rw [List.drop_eq_getElem_cons hlt] at hr
      unfold forL at hr
      obtain ⟨⟨fl1, ρ1⟩, hb1, hr⟩ := R.bind_eq_ok.mp hr
      obtain ⟨ρ2, ha2, hb1⟩ := R.bind_eq_ok.mp hb1
      refine ⟨L', W, killR ks ρi, Ro', xs[i], ρ2, S'.same s2, rx, ha2, fun σ3 Ro3 S3 fr3 => ?_⟩
      have kk3 : Kept kp σ σ3 := kk.trans fun k e => fr3 k (hkp k e)
      have vi2 : Same (hid H1 (L ++ W)) (hid H2 (L' ++ W)) := vi.trans (hid_same s2)
      have vi0 : Same (hid H (L ++ W)) (hid H2 (L' ++ W)) := (hid_same s1).trans vi2
      refine ⟨He, W, L', ρ2, Ro3, fl1, ρ1, S3, se'.trans s2, lo', hb1, ?_⟩
      cases fl1 with
      | nx =>
        intro σ4 H4 L4 Ro4 S4 se4 lo4 vi4 kk4
        exact ⟨L4, ρ1, Ro4, S4.killO ks (h2 _ _ hb1), se4, lo4, vi2.trans vi4, kk3.trans kk4, hr⟩
      | ct =>
        intro σ4 H4 L4 Ro4 S4 se4 lo4 vi4 kk4
        exact ⟨L4, ρ1, Ro4, S4, se4, lo4, vi2.trans vi4, kk3.trans kk4, hr⟩
      | bk =>
        cases hr
        intro σ4 H4 L4 Ro4 S4 se4 lo4 vi4 kk4
        exact q σ4 H4 L4 Ro4 S4 se4 lo4 (vi0.trans vi4) (kk3.trans kk4)
      | rt d => cases hr; exact q
    · have e : i = xs.length := by omega
      subst e
      rw [List.drop_length] at hr
      cases hr
      exact .inl ⟨w2 (Nat.le_refl _), q σ' H' L' Ro' S' se' lo' ((hid_same s1).trans vi) kk⟩
theorem s_whl {c : Expr} {body : List Stmt} {ks : List Nat} {fc : Env → R Bool} {m0 : Nat} (hx : X.xe = fun _ _ => False) (hc : PTX X own1 c fc) (hb : PSsX X ro kp (some ⟨own1, ks⟩) own1 own2 body f) (h1 : ∀ i, i ∉ ks → own1.getD i .sh = own.getD i .sh)
    (h2 : ∀ r r', f r = .ok (.nx, r') → ∀ i, i ∉ ks → own1.getD i .sh = own2.getD i .sh) :
    PSX X ro kp lc own own1 (.While c body [] pos) (fun r => whlL ks fc f m0 r) :=
  PSi (ps_while (by rw [hx]; exact PassesOwn.never) hc hb) fun D σ H ⟨He, W, L, ρ, Ro, fl, ρ', S, se, lo, hf, q⟩ => by
    let Pv : Nat → L2.St → Hp → Prop := fun m σ' H' => ∃ L' ρi Ro', SR X.prog X.w X.K own1 H' L' W σ' (killR ks ρi) Ro' ∧ Same He H' ∧ (∀ a ∈ L', He a = none) ∧ Same (hid H (L ++ W)) (hid H' (L' ++ W)) ∧ Kept kp σ σ' ∧ whlL ks fc f m ρi = .ok (fl, ρ')
    refine ⟨Pv, ⟨m0, L, ρ, Ro, S.killO ks h1, se, lo, Same.refl _, .refl, hf⟩, ?_⟩
    rintro m σ' H' ⟨L', ρi, Ro', S', se', lo', vi, kk, hr⟩
    cases m with
    | zero => unfold whlL at hr; cases hr
    | succ m =>
      unfold whlL at hr
      obtain ⟨b, hb1, hr⟩ := R.bind_eq_ok.mp hr
      refine ⟨L', W, killR ks ρi, Ro', b, S', hb1, fun H2 s2 => ?_⟩
      have vi2 : Same (hid H (L ++ W)) (hid H2 (L' ++ W)) := vi.trans (hid_same s2)
      cases b with
      | false =>
        rw [if_neg (by decide)] at hr
        show D.nx σ' H2
        cases hr
        exact q σ' H2 L' Ro' (S'.same s2) (se'.trans s2) lo' vi2 kk
      | true =>
        rw [if_pos rfl] at hr
        obtain ⟨⟨fl1, ρ1⟩, hb2, hr⟩ := R.bind_eq_ok.mp hr
        show ∃ N : L2.St → Hp → Prop, (∀ σ' H', N σ' H' → ∃ m', m' < m + 1 ∧ Pv m' σ' H') ∧ tS X.prog X.w X.K ro kp (some { own := own1, ks := ks }) own1 own2 f { nx := N, rt := D.rt, bk := D.nx, ct := N } σ' H2
        refine ⟨Pv m, fun σ3 H3 p => ⟨m, Nat.lt_succ_self m, p⟩, He, W, L', killR ks ρi, Ro', fl1, ρ1, S'.same s2, se'.trans s2, lo', hb2, ?_⟩
        cases fl1 with
        | nx =>
          intro σ4 H4 L4 Ro4 S4 se4 lo4 vi4 kk4
          exact ⟨L4, ρ1, Ro4, S4.killO ks (h2 _ _ hb2), se4, lo4, vi2.trans vi4, kk.trans kk4, hr⟩
        | ct =>
          intro σ4 H4 L4 Ro4 S4 se4 lo4 vi4 kk4
          exact ⟨L4, ρ1, Ro4, S4, se4, lo4, vi2.trans vi4, kk.trans kk4, hr⟩
        | bk =>
          cases hr
          intro σ4 H4 L4 Ro4 S4 se4 lo4 vi4 kk4
          exact q σ4 H4 L4 Ro4 S4 se4 lo4 (vi2.trans vi4) (kk.trans kk4)
        | rt d => cases hr; exact q
/-! if d.setdefault(k, e) != c -/
theorem put_new {kvs : List (MP.D × MP.D)} {k v : MP.D} (h : getKV kvs k = none) : putKV kvs k v = kvs ++ [(k, v)] := by
  unfold putKV
  rw [if_neg]
  intro z
  rw [List.any_eq_true] at z
  obtain ⟨p, hp, e⟩ := z
  unfold getKV at h
  rw [Option.map_eq_none_iff, List.find?_eq_none] at h
  exact h p hp (by simpa using e)
theorem s_ifSd {k c : Expr} {fc : Env → R MP.D} {mc : Md} {p q : List Stmt} {own3 : List O} {p2 : Pos} (hu : X.A.units + 110 < cLine) (hN : X.N[i]? = some x) (hv : Vis X.env.scope x) (hd : (x == ("__debug__" : Str)) = false) (hcd : (x == ("__classdict__" : Str)) = false) (ho : own.getD i .sh = .li)
    (hk : PEX X own k fk mk) (he : PEX X own e fe md) (hm : md ≠ .b) (m2 : M2 X (.Name x px) "setdefault" ap k e cp) (hc : PEX X own c fc mc) (hok : okX c = true) (h1 : PSsX X ro kp lc own own1 p f) (h2 : PSsX X ro kp lc own own2 q g)
    (j1 : ∀ r r', f r = .ok (.nx, r') → own1 = own3) (j2 : ∀ r r', g r = .ok (.nx, r') → own2 = own3) :
    PSX X ro kp lc own own3 (.If (.Compare (.Call (.Attribute (.Name x px) "setdefault" ap) [k, e] [] cp) [.NotEq] [c] p2) p q pos)
      (fun r => (varE i r).bind fun d => (dicOf d).bind fun kvs => (fk r).bind fun kd => (fe r).bind fun v => if keyFor kvs kd && decide (kvs.length < lim) then
        let w := (getKV kvs kd).getD v
        let r' := match getKV kvs kd with
          | some _ => r
          | none => r.set i (some (.dic (kvs ++ [(kd, v)])))
        (fc r').bind fun z => (eqD w z).bind fun q => if q then g r' else f r'
      else .bad) :=
  PSi (ps_if (pt_cmpR (op_cmp hu .ne) (pe_dsetd (pe_var hN hv hd hcd) hk he m2) hc (okX_mark hok _)) h1 h2) fun D σ H ⟨He, W, L, ρ, Ro, fl, ρ', S, se, lo, hf, q⟩ => by
    obtain ⟨d, hvd, hf1⟩ := R.bind_eq_ok.mp hf
    clear hf
    obtain ⟨kvs, hkv, hf2⟩ := R.bind_eq_ok.mp hf1
    clear hf1
    obtain ⟨kd, hkd, hf3⟩ := R.bind_eq_ok.mp hf2
    obtain ⟨v, hve, hf⟩ := R.bind_eq_ok.mp hf3
    clear hf2 hf3
    cases d <;> simp only [dicOf] at hkv <;> cases hkv
    split at hf
    · rename_i hz
      rw [Bool.and_eq_true, decide_eq_true_eq, lim_line] at hz
      unfold keyFor at hz
      rw [Bool.and_eq_true] at hz
      obtain ⟨a, e1, e2, e3, m1, m2', r⟩ := own_at S ho hvd
      obtain ⟨kk, ha, hr⟩ := root_flat r hz.1.2
      refine ⟨_, e2, a, rfl, .inl ⟨kk, .inl ha⟩, one_of S hkd fun u H1 s1 bu S1 => ?_⟩
      obtain ⟨key, rfl, rfl, kz⟩ := key_flat bu hz.1.1
      refine ⟨L, W, ρ, Ro, v, S1, hve, fun t H2 s2 rt => ?_⟩
      have hl' := hr.length
      have hL : a ∈ L ++ W := List.mem_append_left _ m1
      have s12 := s1.trans s2
      have S2 := S1.same s2
      have rt' := rt.to_s S1.hw s2 hm
      obtain ⟨v1, v2⟩ := repK_val key hr
      -- the test, and what follows
      have tail : ∀ (val : V) (dv : MP.D) (H3 : Hp) (ρ1 : Env), SR X.prog X.w X.K own H3 L W σ ρ1 Ro → Rep X.prog X.w X.K (hid H3 (L ++ W)) val dv → Same He H3 → Same (hid H (L ++ W)) (hid H3 (L ++ W)) →
          ((fc ρ1).bind fun z => (eqD dv z).bind fun q => if q then g ρ1 else f ρ1) = .ok (fl, ρ') →
          tX X.prog X.w X.K own fc mc σ H3 fun y H4 => r2 X.prog X.w X.K (cmpB .ne) .s val y H4 fun z H5 => ∃ k, z = .bl k ∧ (if k = true then tS X.prog X.w X.K ro kp lc own own1 f D σ H5 else tS X.prog X.w X.K ro kp lc own own2 g D σ H5) := fun val dv H3 ρ1 S3 rv se3 vi3 hf3 => by
        obtain ⟨z, hz', hf3⟩ := R.bind_eq_ok.mp hf3
        obtain ⟨qq, hq, hf3⟩ := R.bind_eq_ok.mp hf3
        refine one_of S3 hz' fun y H4 s4 by4 S4 => ⟨L ++ W, [dv, z], .bl (!qq), S4.hw, .cons (.of_rep (rv.mono (hid_same s4))) (.cons by4 .nil), ?_, fun z5 H5 s5 r5 => ⟨!qq, rep_bl r5, ?_⟩⟩
        · show (cmpD .ne dv z).bind _ = _
          rw [show cmpD .ne dv z = (eqD dv z).bind fun b => .ok (!b) by rw [cmpD], hq]
          rfl
        · have S5 := S4.same s5
          have s45 := s4.trans s5
          cases qq with
          | true =>
            rw [if_pos rfl] at hf3
            refine ⟨He, W, L, ρ1, Ro, fl, ρ', S5, se3.trans s45, lo, hf3, fin_at (vi3.trans (hid_same s45)) .refl ?_⟩
            cases fl with
            | nx => rw [j2 _ _ hf3]; exact q
            | rt d => exact q
            | ct => exact q
            | bk => exact q
          | false =>
            rw [if_neg (by decide)] at hf3
            refine ⟨He, W, L, ρ1, Ro, fl, ρ', S5, se3.trans s45, lo, hf3, fin_at (vi3.trans (hid_same s45)) .refl ?_⟩
            cases fl with
            | nx => rw [j1 _ _ hf3]; exact q
            | rt d => exact q
            | ct => exact q
            | bk => exact q
      refine ⟨kk, key, s12 _ _ ha, rfl, by omega, fun val hval => ?_, fun hn => ?_⟩
      · cases hg : getKV kvs (keyD key) with
        | none => rw [v2 hg] at hval; cases hval
        | some dv =>
          obtain ⟨w1, ew, rw1⟩ := v1 dv hg
          rw [ew] at hval; cases hval
          simp only [hg, Option.getD_some] at hf
          exact tail _ dv H2 ρ S2 (rw1.mono (hid_same s12)) (se.trans s12) (hid_same s12) hf
      · cases hg : getKV kvs (keyD key) with
        | some dv =>
          obtain ⟨w1, ew, _⟩ := v1 dv hg
          rw [hn] at ew; cases ew
        | none =>
          simp only [hg, Option.getD_none] at hf
          have S3 := S2.change (o := .dK (putK kk key t)) (d' := .dic (kvs ++ [(keyD key, v)])) e1 e2 e3 trivial (by
            rw [ho, ← put_new hg]
            exact .li hL (.dic upd_same (by rw [hid_upd hL]; exact RepK.put key kz rt' (hr.mono (hid_same s12)))))
          refine tail _ v _ _ S3 (by rw [hid_upd hL]; exact rt') (fun b o z => ?_) (by rw [hid_upd hL]; exact hid_same s12) hf
          have hne : b ≠ a := by rintro rfl; rw [lo _ m1] at z; cases z
          rw [upd_ne hne]
          exact s12 _ _ (se _ _ z)
    · cases hf

/-! a loop over a list of one's own that the turns do not name -/
theorem SR.put_by {P : Program} {w : World} {K : PySem.W.Frag} {own : List O} {H : Hp} {L W : List Addr} {σ : L2.St} {ρ : Env} {Ro : Nat → Option Addr} {i : Nat} {d : MP.D} {a : Addr} (S : SR P w K own H L W σ ρ Ro) (hi : ρ[i]? = some (some d)) (hR : Ro i = some a) (h : a ∈ L) :
    SR P w K own H (L.filter fun b => b != a) (a :: W) σ (ρ.set i none) Ro := by
  have mem : ∀ b, b ∈ (L.filter fun b => b != a) ++ a :: W ↔ b ∈ L ++ W := fun b => by
    simp only [List.mem_append, List.mem_filter, List.mem_cons, bne_iff_ne]
    constructor
    · rintro (⟨h1, _⟩ | rfl | h1)
      · exact .inl h1
      · exact .inl h
      · exact .inr h1
    · rintro (h1 | h1)
      · by_cases e : b = a
        · exact .inr (.inl e)
        · exact .inl ⟨h1, e⟩
      · exact .inr (.inr h1)
  have key : ∀ j e, (ρ.set i none)[j]? = some (some e) → j ≠ i ∧ ρ[j]? = some (some e) := fun j e hj => by
    by_cases e' : i = j
    · subst e'
      exact absurd hj (not_live ρ i e)
    · rw [List.getElem?_set_ne e'] at hj
      exact ⟨fun z => e' z.symm, hj⟩
  refine ⟨by rw [List.length_set]; exact S.len, fun j e hj => ?_, fun j e b hj hb => ?_, fun j k e f b hj hk h1 h2 => ?_, fun b m => S.wm b ((mem b).mp m)⟩
  · obtain ⟨hne, hj⟩ := key j e hj
    obtain ⟨v, ev, ow⟩ := S.val j e hj
    exact ⟨v, ev, ow.mono (fun b rb => ⟨(mem b).mpr (List.mem_append_left _ (S.loc j e b hj rb).1), fun _ z => z⟩) (hid_sub fun b m => (mem b).mp m)⟩
  · obtain ⟨hne, hj⟩ := key j e hj
    obtain ⟨h1, h2⟩ := S.loc j e b hj hb
    have hba : b ≠ a := by
      rintro rfl
      exact hne (S.inj j i e d b hj hi hb hR)
    refine ⟨List.mem_filter.mpr ⟨h1, by simpa using hba⟩, fun m => ?_⟩
    rcases List.mem_cons.mp m with rfl | m
    · exact hba rfl
    · exact h2 m
  · exact S.inj j k e f b (key j e hj).2 (key k f hk).2 h1 h2
theorem SR.take_back {P : Program} {w : World} {K : PySem.W.Frag} {own : List O} {H : Hp} {L W : List Addr} {σ : L2.St} {ρ : Env} {Ro : Nat → Option Addr} {i : Nat} {d : MP.D} {a : Addr} (S : SR P w K own H L (a :: W) σ ρ Ro) (hv : σ[i]? = some (some (.ref a))) (ho : own.getD i .sh = .li) (hw : a ∉ W)
    (r : Root P w K H (L ++ a :: W) a d) : SR P w K own H (a :: L) W σ (ρ.set i (some d)) (fun j => if j = i then some a else Ro j) := by
  have mem : ∀ b, b ∈ a :: L ++ W ↔ b ∈ L ++ a :: W := fun b => by
    simp only [List.mem_append, List.mem_cons]
    constructor
    · rintro ((h1 | h1) | h1)
      · exact .inr (.inl h1)
      · exact .inl h1
      · exact .inr (.inr h1)
    · rintro (h1 | h1 | h1)
      · exact .inl (.inr h1)
      · exact .inl (.inl h1)
      · exact .inr h1
  have key : ∀ j e, (ρ.set i (some d))[j]? = some (some e) → (j = i ∧ e = d) ∨ (j ≠ i ∧ ρ[j]? = some (some e)) := fun j e hj => by
    by_cases e' : i = j
    · subst e'
      by_cases hl : i < ρ.length
      · rw [List.getElem?_set_self hl] at hj; cases hj; exact .inl ⟨rfl, rfl⟩
      · rw [List.getElem?_eq_none (by rw [List.length_set]; omega)] at hj; cases hj
    · rw [List.getElem?_set_ne e'] at hj
      exact .inr ⟨fun z => e' z.symm, hj⟩
  refine ⟨by rw [List.length_set]; exact S.len, fun j e hj => ?_, fun j e b hj hb => ?_, fun j k e f b hj hk h1 h2 => ?_, fun b m => S.wm b ((mem b).mp m)⟩
  · rcases key j e hj with ⟨rfl, rfl⟩ | ⟨hne, hj⟩
    · refine ⟨_, hv, ?_⟩
      rw [ho, if_pos rfl]
      exact .li (List.mem_append_left _ List.mem_cons_self) (r.mono (fun _ z => z) (hid_sub fun b m => (mem b).mp m))
    · obtain ⟨v, ev, ow⟩ := S.val j e hj
      refine ⟨v, ev, ?_⟩
      rw [if_neg hne]
      exact ow.mono (fun b rb => ⟨(mem b).mpr (List.mem_append_left _ (S.loc j e b hj rb).1), fun _ z => z⟩) (hid_sub fun b m => (mem b).mp m)
  · rcases key j e hj with ⟨rfl, rfl⟩ | ⟨hne, hj⟩
    · rw [if_pos rfl] at hb; cases hb
      exact ⟨List.mem_cons_self, hw⟩
    · rw [if_neg hne] at hb
      obtain ⟨h1, h2⟩ := S.loc j e b hj hb
      exact ⟨List.mem_cons_of_mem _ h1, fun m => h2 (List.mem_cons_of_mem _ m)⟩
  · have hno : ∀ j e, ρ[j]? = some (some e) → Ro j ≠ some a := fun j e hj hb => (S.loc j e a hj hb).2 List.mem_cons_self
    rcases key j e hj with ⟨ej, ee⟩ | ⟨hne, hj⟩
    · rcases key k f hk with ⟨ek, ef⟩ | ⟨hnk, hk⟩
      · rw [ej, ek]
      · rw [if_pos ej] at h1; rw [if_neg hnk] at h2
        cases h1
        exact absurd h2 (hno k f hk)
    · rcases key k f hk with ⟨ek, ef⟩ | ⟨hnk, hk⟩
      · rw [if_neg hne] at h1; rw [if_pos ek] at h2
        cases h2
        exact absurd h1 (hno j e hj)
      · rw [if_neg hne] at h1; rw [if_neg hnk] at h2
        exact S.inj j k e f b hj hk h1 h2
theorem s_loopV {tg : Expr} {body : List Stmt} {g : IG} {ks : List Nat} (hx : X.xe = fun _ _ => False) (hc : X.calm = true) (hN : X.N[i]? = some x) (hv : Vis X.env.scope x) (hd : (x == ("__debug__" : Str)) = false) (hcd : (x == ("__classdict__" : Str)) = false) (ho : own.getD i .sh = .li) (ho1 : own1.getD i .sh = .li)
    (hg : PG X tg (tXG X.prog X.w X.K own1 g)) (hb : PSsX X ro (i :: kp) (some ⟨own1, ks⟩) own1 own2 body f) (hs : ∀ v, foldedSetIterable (.Name x px) X.env v = pure v) (hkp : ∀ k, k ∈ kp → k ∉ gV g) (hig : i ∉ gV g) (h1 : ∀ i, i ∉ ks → own1.getD i .sh = own.getD i .sh)
    (h2 : ∀ r r', f r = .ok (.nx, r') → ∀ i, i ∉ ks → own1.getD i .sh = own2.getD i .sh) :
    PSX X ro kp lc own own1 (.For tg (.Name x px) body [] pos) (fun r => (varE i r).bind fun d => (lstOf d).bind fun xs => (forL ks (fun y r => (asgG g y r).bind fun r' => f r') xs (r.set i none)).bind fun p => match p.1 with
      | .nx => .ok (.nx, p.2.set i (some d))
      | fl => .ok (fl, p.2)) :=
  PSi (ps_for (by rw [hx]; exact PassesOwn.never) hc (pi_list (pe_var hN hv hd hcd)) hg hb hs) fun D σ H ⟨He, W, L, ρ, Ro, fl, ρ', S, se, lo, hf, q⟩ => by
    obtain ⟨d, hvd, hf1⟩ := R.bind_eq_ok.mp hf
    clear hf
    obtain ⟨xs, hxs, hf2⟩ := R.bind_eq_ok.mp hf1
    clear hf1
    obtain ⟨⟨fl0, ρ0⟩, hfl, hf⟩ := R.bind_eq_ok.mp hf2
    clear hf2
    cases d <;> simp only [lstOf] at hxs <;> cases hxs
    obtain ⟨a, e1, e2, e3, m1, m2, r⟩ := own_at S ho hvd
    cases r with
    | lst ha hr =>
      rename_i vs
      let He' : Hp := fun b => if b = a then H a else He b
      let L0 := L.filter fun b => b != a
      have S0 : SR X.prog X.w X.K own H L0 (a :: W) σ (ρ.set i none) Ro := S.put_by e1 e3 m1
      have se0 : Same He' H := fun b o z => by
        by_cases e : b = a
        · subst e
          simpa [He'] using z
        · exact se b o (by simpa [He', e] using z)
      have lo0 : ∀ b ∈ L0, He' b = none := fun b m => by
        obtain ⟨h1, h2⟩ := List.mem_filter.mp m
        have hne : b ≠ a := by simpa using h2
        show (if b = a then _ else _) = _
        rw [if_neg hne]
        exact lo b h1
      have back : ∀ {H' : Hp}, Same He' H' → Same He H' := fun h b o z => by
        refine h b o ?_
        have hne : b ≠ a := by rintro rfl; rw [lo _ m1] at z; cases z
        show (if b = a then _ else _) = _
        rw [if_neg hne]; exact z
      have atA : ∀ {H' : Hp}, Same He' H' → H' a = some (.lst vs) := fun h => h a _ (by show (if a = a then _ else _) = _; rw [if_pos rfl]; exact ha)
      have vis0 : Same (hid H (L ++ W)) (hid H (L0 ++ a :: W)) := hid_sub fun b m => by
        rcases List.mem_append.mp m with m | m
        · exact List.mem_append_left _ (List.mem_filter.mp m).1
        · rcases List.mem_cons.mp m with rfl | m
          · exact List.mem_append_left _ m1
          · exact List.mem_append_right _ m
      refine ⟨_, e2, a, rfl, ⟨vs, .inl (.inl ha)⟩, ?_⟩
      let Pv : Nat → L2.St → Hp → Prop := fun j σ' H' => ∃ L' ρi Ro', SR X.prog X.w X.K own1 H' L' (a :: W) σ' (killR ks ρi) Ro' ∧ Same He' H' ∧ (∀ b ∈ L', He' b = none) ∧ Same (hid H (L0 ++ a :: W)) (hid H' (L' ++ a :: W)) ∧ Kept (i :: kp) σ σ' ∧
        forL ks (fun y r => (asgG g y r).bind fun r' => f r') (xs.drop j) ρi = .ok (fl0, ρ0)
      refine ⟨fun j m σ' H' => m = xs.length - j ∧ j ≤ xs.length ∧ Pv j σ' H', ⟨xs.length, rfl, Nat.zero_le _, L0, _, Ro, S0.killO ks h1, se0, lo0, Same.refl _, .refl, hfl⟩, ?_⟩
      -- the end
      have done : ∀ σ' H' L' Ro', fl0 = .nx → SR X.prog X.w X.K own1 H' L' (a :: W) σ' ρ0 Ro' → Same He' H' → (∀ b ∈ L', He' b = none) → Same (hid H (L0 ++ a :: W)) (hid H' (L' ++ a :: W)) → Kept (i :: kp) σ σ' → D.nx σ' H' := fun σ' H' L' Ro' e S' se' lo' vi kk => by
        subst e
        cases hf
        have hσ : σ'[i]? = some (some (.ref a)) := by rw [kk i List.mem_cons_self]; exact e2
        have root : Root X.prog X.w X.K H' (L' ++ a :: W) a (.lst xs) := .lst (atA se') ((hr.mono vis0).mono vi)
        refine q σ' H' (a :: L') _ (S'.take_back hσ ho1 m2 root) (back se') (fun b m => ?_) ((vis0.trans vi).trans (hid_sub fun b m => ?_)) fun k m => kk k (List.mem_cons_of_mem _ m)
        · rcases List.mem_cons.mp m with rfl | m
          · exact lo _ m1
          · have hb := lo' b m
            cases hHb : He b with
            | none => rfl
            | some o =>
              have hne : b ≠ a := by rintro rfl; rw [lo _ m1] at hHb; cases hHb
              have : He' b = some o := by show (if b = a then _ else _) = _; rw [if_neg hne]; exact hHb
              rw [this] at hb; cases hb
        · rcases List.mem_append.mp m with m | m
          · rcases List.mem_cons.mp m with rfl | m
            · exact List.mem_append_right _ List.mem_cons_self
            · exact List.mem_append_left _ m
          · exact List.mem_append_right _ (List.mem_cons_of_mem _ m)
      rintro j m σ' H' ⟨rfl, hj', L', ρi, Ro', S', se', lo', vi, kk, hrr⟩
      have hA := atA se'
      by_cases hlt : j < xs.length
      · have hvl : j < vs.length := by rw [hr.length]; exact hlt
        refine .inr ⟨⟨vs, vs[j], .inl (.inl hA), List.getElem?_eq_getElem hvl⟩, Pv (j + 1), fun σ2 H2 p' => ⟨xs.length - (j + 1), by omega, rfl, hlt, p'⟩, ?_⟩
        rintro y H2 ⟨rfl, hy⟩
        have ey := hy vs (.inl (.inl hA))
        obtain ⟨dj, edj, rdj⟩ := hr.getV ey
        rw [List.getElem?_eq_getElem hlt] at edj
        cases edj
        rw [List.drop_eq_getElem_cons hlt] at hrr
        unfold forL at hrr
        obtain ⟨⟨fl1, ρ1⟩, hb1, hrr⟩ := R.bind_eq_ok.mp hrr
        obtain ⟨ρ2, ha2, hb1⟩ := R.bind_eq_ok.mp hb1
        refine ⟨L', a :: W, killR ks ρi, Ro', xs[j], ρ2, S', (rdj.mono vis0).mono vi, ha2, fun σ3 Ro3 S3 fr3 => ?_⟩
        have kk3 : Kept (i :: kp) σ σ3 := kk.trans fun k e => by
          rcases List.mem_cons.mp e with rfl | e
          · exact fr3 k hig
          · exact fr3 k (hkp k e)
        refine ⟨He', a :: W, L', ρ2, Ro3, fl1, ρ1, S3, se', lo', hb1, ?_⟩
        cases fl1 with
        | nx =>
          intro σ4 H4 L4 Ro4 S4 se4 lo4 vi4 kk4
          exact ⟨L4, ρ1, Ro4, S4.killO ks (h2 _ _ hb1), se4, lo4, vi.trans vi4, kk3.trans kk4, hrr⟩
        | ct =>
          intro σ4 H4 L4 Ro4 S4 se4 lo4 vi4 kk4
          exact ⟨L4, ρ1, Ro4, S4, se4, lo4, vi.trans vi4, kk3.trans kk4, hrr⟩
        | bk =>
          cases hrr
          intro σ4 H4 L4 Ro4 S4 se4 lo4 vi4 kk4
          exact done σ4 H4 L4 Ro4 rfl S4 se4 lo4 (vi.trans vi4) (kk3.trans kk4)
        | rt d =>
          cases hrr
          cases hf
          intro v H4 s4 rv
          refine q v H4 (back s4) ?_
          have sub : ∀ b ∈ W, b ∈ a :: W := fun b m => List.mem_cons_of_mem _ m
          have sub2 : ∀ p, ∀ b ∈ p :: W, b ∈ p :: a :: W := fun p b m => by
            rcases List.mem_cons.mp m with rfl | m
            · exact List.mem_cons_self
            · exact List.mem_cons_of_mem _ (List.mem_cons_of_mem _ m)
          have nb : ∀ p, He' p = none → He p = none := fun p hp => by
            cases hHb : He p with
            | none => rfl
            | some o =>
              have hne : p ≠ a := by rintro rfl; rw [lo _ m1] at hHb; cases hHb
              have : He' p = some o := by show (if p = a then _ else _) = _; rw [if_neg hne]; exact hHb
              rw [this] at hp; cases hp
          cases ro with
          | sh => exact Rep.mono (hid_sub sub) rv
          | li =>
            obtain ⟨p, rfl, hp, rr⟩ := rv
            exact ⟨p, rfl, nb p hp, rr.mono (fun _ z => z) (hid_sub (sub2 p))⟩
          | tp k =>
            obtain ⟨p, hp, rr⟩ := rv
            exact ⟨p, nb p hp, rr.mono (fun b e => by cases e; exact ⟨List.mem_cons_self, fun _ z => z⟩) (hid_sub (sub2 p))⟩
          | nl =>
            obtain ⟨p, us, es, e1, e2, hp, h1, h2, h3, h4⟩ := rv
            exact ⟨p, us, es, e1, e2, nb p hp, h1, h2.mono (hid_sub (sub2 p)), h3, fun u m => by
              obtain ⟨b, zs, e, hb, h5⟩ := h4 u m
              exact ⟨b, zs, e, nb b hb, h5⟩⟩
      · have e : j = xs.length := by omega
        subst e
        rw [List.drop_length] at hrr
        cases hrr
        exact .inl ⟨⟨vs, .inl (.inl hA), by rw [hr.length]; exact Nat.le_refl _⟩, done σ' H' L' Ro' rfl S' se' lo' vi kk⟩
end
end MP
/-! v = f(..); if c: return False; for x in v: ..; v.append(None), where f answers a new list of new lists. -/
namespace MP
open PySem PySem.Spec PyProof.Rows L2

section
variable {P : Program} {w : World} {K : PySem.W.Frag} {own own2 : List O} {H H' H2 : Hp} {L W LB WB B U : List Addr} {σ : L2.St} {ρ : Env} {Ro : Nat → Option Addr}
theorem noL_hid {v : V} {d : D} (hw : ∀ a ∈ U, ∃ o, H a = some o ∧ Mut (some o)) (h : Rep P w K H v d) (hn : noLN 30 d = true) : Rep P w K (hid H U) v d := by
  have e : Same H (hid H []) := fun a o h => hid_some.mpr ⟨(fun m => nomatch m), h⟩
  exact noL_rep (fun a xs r => rd_tup (U := []) hw r) 30 (h.mono e) hn
/-- new things are hidden -/
theorem SR.hide (S : SR P w K own H L W σ ρ Ro) (hs : Same H H2) (hB : ∀ b ∈ B, H b = none ∧ ∃ o, H2 b = some o ∧ Mut (some o)) : SR P w K own H2 L (B ++ W) σ ρ Ro := by
  refine ⟨S.len, fun i d e => ?_, fun i d a e r => ?_, S.inj, fun a q => ?_⟩
  · obtain ⟨v, e1, q⟩ := S.val i d e
    refine ⟨v, e1, q.mono (fun a ra => ⟨List.mem_append_left _ (S.loc i d a e ra).1, hs _⟩) (hid_new hs fun c m => ?_)⟩
    rcases List.mem_append.mp m with m | m
    · exact .inl (List.mem_append_left _ m)
    · rcases List.mem_append.mp m with m | m
      · exact .inr (hB c m).1
      · exact .inl (List.mem_append_right _ m)
  · obtain ⟨h1, h2⟩ := S.loc i d a e r
    refine ⟨h1, fun m => ?_⟩
    rcases List.mem_append.mp m with m | m
    · exact S.fresh (hB a m).1 (List.mem_append_left _ h1)
    · exact h2 m
  · have old : a ∈ L ++ W → ∃ o, H2 a = some o ∧ Mut (some o) := fun m => by
      obtain ⟨o, e, mu⟩ := S.wm a m
      exact ⟨o, hs _ _ e, mu⟩
    rcases List.mem_append.mp q with m | m
    · exact old (List.mem_append_left _ m)
    · rcases List.mem_append.mp m with m | m
      · exact (hB a m).2
      · exact old (List.mem_append_right _ m)
/-- who hides what -/
theorem SR.shift (S : SR P w K own H L W σ ρ Ro) (hm : ∀ c, c ∈ LB ++ WB ↔ c ∈ L ++ W) (hL : ∀ c ∈ L, c ∈ LB) (hW : ∀ c ∈ WB, c ∈ W) : SR P w K own H LB WB σ ρ Ro := by
  refine ⟨S.len, fun i d e => ?_, fun i d a e r => ⟨hL a (S.loc i d a e r).1, fun m => (S.loc i d a e r).2 (hW a m)⟩, S.inj, fun a q => S.wm a ((hm a).mp q)⟩
  obtain ⟨v, e1, q⟩ := S.val i d e
  exact ⟨v, e1, q.mono (fun a ra => ⟨List.mem_append_left _ (hL a (S.loc i d a e ra).1), fun _ z => z⟩) (hid_sub fun b m => (hm b).mp m)⟩
/-- a slot that no name sees -/
theorem SR.setDead (S : SR P w K own H L W σ ρ Ro) {i : Nat} {o : Option V} (h : ∀ d, ρ[i]? ≠ some (some d)) : SR P w K own H L W (σ.set i o) ρ Ro := by
  refine ⟨by rw [List.length_set]; exact S.len, fun j d e => ?_, S.loc, S.inj, S.wm⟩
  obtain ⟨v, e1, q⟩ := S.val j d e
  refine ⟨v, ?_, q⟩
  rw [List.getElem?_set_ne (fun z => h d (by rw [z]; exact e))]
  exact e1
theorem as_refs {Pd : Addr → Prop} : ∀ {vs : List V}, (∀ u ∈ vs, ∃ b, u = .ref b ∧ Pd b) → ∃ bs : List Addr, vs = bs.map V.ref ∧ ∀ b ∈ bs, Pd b
  | [], _ => ⟨[], rfl, fun _ m => nomatch m⟩
  | v :: vs, h => by
    obtain ⟨b, rfl, hb⟩ := h v List.mem_cons_self
    obtain ⟨bs, rfl, h2⟩ := as_refs fun u m => h u (List.mem_cons_of_mem _ m)
    exact ⟨b :: bs, rfl, fun c m => by
      rcases List.mem_cons.mp m with rfl | m
      · exact hb
      · exact h2 c m⟩
end
section
variable {X : Cx} {own own1 own2 own3 : List O} {kp : List Nat} {lc : Option Lp} {st1 : Stmt} {sts body : List Stmt} {f g : Env → R (Fl × Env)} {px ap cp p1 p2 p3 p4 p5 p6 : Pos} {z eF eN : Expr} {fcall : Env → R MP.D} {fcond : Env → R Bool} {v x : Nat} {xv xx : Str}
abbrev toldF (fcall : Env → R MP.D) (fcond : Env → R Bool) (f : Env → R (Fl × Env)) (v x : Nat) (r : Env) : R (Fl × Env) := (fcall r).bind fun d => (fcond (r.set v (some d))).bind fun k => if k then .ok (.rt (.bl false), r) else
  (lstOf d).bind fun xs => if xs.all innL && decide (xs.length < lim) && decide (v < r.length) then forL [x] (fun y r' => f (r'.set x (some y))) xs (r.set v none) else .bad
theorem s_told (hx : X.xe = fun _ _ => False) (hc : X.calm = true) (h1 : PS X st1 (tAsg (tX X.prog X.w X.K own fcall .n) (gName v))) (hcond : PTX X (own.set v .sh) z fcond) (hF : PEX X (own.set v .sh) eF (fun _ => .ok (.bl false)) .s)
    (hN : X.N[v]? = some xv) (hv : Vis X.env.scope xv) (hd : (xv == ("__debug__" : Str)) = false) (hcd : (xv == ("__classdict__" : Str)) = false) (hg : PG X (.Name xx px) (gName x)) (ho1 : own1 = own.set x .li)
    (hb : PSsX X .sh (v :: kp) (some ⟨own1, [x]⟩) own1 own2 body f) (hs : ∀ u, foldedSetIterable (.Name xv p1) X.env u = pure u) (h2 : ∀ r r', f r = .ok (.nx, r') → ∀ i, i ∉ [x] → own1.getD i .sh = own2.getD i .sh)
    (hNn : PEX X own1 eN (fun _ => .ok .non) .s) (hok : okX eN = true) (hl : lineB ap cp = true) (hvx : v ≠ x) (hxl : x < own.length) (hkp : ∀ k, k ∈ kp → k ≠ v ∧ k ≠ x) (hrest : PSsX X .sh kp lc own own3 sts g) :
    PSsX X .sh kp lc own own3 (st1 :: .If z [.Return (some eF) p2] [] p3 :: .For (.Name xx px) (.Name xv p1) body [] p4 :: .Expr (.Call (.Attribute (.Name xv p5) "append" ap) [eN] [] cp) p6 :: sts) (seqF (toldF fcall fcond f v x) g) := by
  refine PSsi (pss_cons h1 (pss_cons (ps_if hcond (pss_cons (ps_ret hF) pss_nil) pss_nil) (pss_cons (ps_for (by rw [hx]; exact PassesOwn.never) hc (pi_list (pe_var hN hv hd hcd)) hg hb hs)
    (pss_cons (ps_expr (pe_bm PySem.F.plainAttrs_list PySem.F.slot_list_append PySem.F.type_list_append mt_append (pe_var hN hv hd hcd) (pa_cons hNn pa_nil (okX_star hok _ _)) rfl (few1 hok) hl (okX_star hok _ _) rfl) rfl) hrest)))) ?_
  rintro D σ H ⟨He, W, L, ρ, Ro, fl, ρ', S, se, lo, hf, q⟩
  obtain ⟨⟨fl1, ρ1⟩, hf1, hf2⟩ := R.bind_eq_ok.mp hf
  obtain ⟨d, hvd, hf1⟩ := R.bind_eq_ok.mp hf1
  obtain ⟨k, hk, hf1⟩ := R.bind_eq_ok.mp hf1
  refine ⟨L, W, ρ, Ro, d, S, hvd, fun val H1 s1 r => ?_⟩
  have rs := r.to_s S.hw s1 (by decide)
  obtain ⟨a, vs, ds, rfl, rfl, ha, ra, rr, nd, new⟩ := r
  obtain ⟨Ro1, S1⟩ : ∃ Ro1, SR X.prog X.w X.K (own.set v .sh) H1 L W (σ.set v (some (.ref a))) (ρ.set v (some (.lst ds))) Ro1 := by
    have := ((S.same s1).reown v .sh).store (i := v) (getD_sh own v) rs
    rw [List.set_set] at this
    exact ⟨_, this⟩
  refine ⟨L, W, _, _, k, S1, hk, fun H2 s2 => ?_⟩
  cases k with
  | true =>
    rw [if_pos rfl] at hf1
    cases hf1
    cases hf2
    rw [if_pos rfl]
    refine ⟨L, W, _, _, .bl false, S1.same s2, rfl, fun vv H3 s3 rv => q vv H3 (se.trans (s1.trans (s2.trans s3))) ?_⟩
    exact Rep.mono (hid_sub fun b m => List.mem_append_right _ m) rv
  | false =>
    rw [if_neg (by decide)] at hf1
    rw [if_neg (by decide)]
    obtain ⟨xs, hxs, hf1⟩ := R.bind_eq_ok.mp hf1
    obtain rfl : ds = xs := by injection hxs
    have hcnd : (ds.all innL && decide (ds.length < lim) && decide (v < ρ.length)) = true := by
      cases e : (ds.all innL && decide (ds.length < lim) && decide (v < ρ.length)) with
      | true => rfl
      | false => rw [if_neg (by rw [e]; decide)] at hf1; cases hf1
    rw [if_pos hcnd] at hf1
    simp only [Bool.and_eq_true, decide_eq_true_eq] at hcnd
    obtain ⟨⟨hin, hz⟩, hvl⟩ := hcnd
    rw [lim_line] at hz
    rw [List.all_eq_true] at hin
    have hvσ : v < σ.length := by rw [← S.len]; exact hvl
    obtain ⟨bs, rfl, hbs⟩ := as_refs (Pd := fun b => H b = none ∧ ∃ us, H1 b = some (.lst us)) fun u m => by
      obtain ⟨b, us, e, n1, n2⟩ := new u m
      exact ⟨b, e, n1, us, n2⟩
    have ndb : bs.Nodup := by
      rw [List.nodup_iff_pairwise_ne, List.pairwise_map] at nd
      exact nd.imp fun h e => h (by rw [e])
    have hlen : bs.length = ds.length := by have := rr.length; rw [List.length_map] at this; exact this
    have s12 := s1.trans s2
    have hA2 : H2 a = some (.lst (bs.map V.ref)) := s2 _ _ ra
    -- the inner lists
    have hba : ∀ b ∈ bs, b ≠ a := fun b m => by
      obtain ⟨j, hj, rfl⟩ := List.mem_iff_getElem.mp m
      obtain ⟨dj, ed, rd⟩ := rr.getV (i := j) (v := .ref bs[j]) (by rw [List.getElem?_map, List.getElem?_eq_getElem hj]; rfl)
      have hi := hin dj (List.mem_of_getElem? ed)
      rintro e
      cases dj <;> first | (cases hi; done) | skip
      cases rd with
      | lst h _ =>
        rcases h with h | ⟨u, h⟩
        · exact (hid_some.mp h).1 (by rw [e]; exact List.mem_cons_self)
        · exact (hid_some.mp h).1 (by rw [e]; exact List.mem_cons_self)
    have inner : ∀ (U : List Addr), (∀ c ∈ U, ∃ o, H2 c = some o ∧ Mut (some o)) → ∀ j, (hj : j < bs.length) → ∃ us es, H2 bs[j] = some (.lst us) ∧ ds[j]? = some (.lst es) ∧ Reps X.prog X.w X.K (hid H2 U) us es := fun U hU j hj => by
      obtain ⟨dj, ed, rd⟩ := rr.getV (i := j) (v := .ref bs[j]) (by rw [List.getElem?_map, List.getElem?_eq_getElem hj]; rfl)
      have hi := hin dj (List.mem_of_getElem? ed)
      obtain ⟨_, us, hus⟩ := hbs bs[j] (List.getElem_mem hj)
      cases dj <;> first | (cases hi; done) | skip
      rename_i es
      have hi : es.all noL = true := hi
      rw [List.all_eq_true] at hi
      cases rd with
      | lst h hr =>
        rename_i us'
        have e : us' = us := by
          rcases h with h | ⟨u, h⟩
          · have := (hid_some.mp h).2
            rw [hus] at this
            injection this with this
            injection this with this
            exact this.symm
          · have := (hid_some.mp h).2
            rw [hus] at this
            injection this with this
            cases this
        subst e
        exact ⟨us', es, s2 _ _ hus, ed, Reps.lift hr fun u e m re => noL_hid hU (re.mono (hid_le.trans s2)) (hi e m)⟩
    have hB : ∀ b ∈ a :: bs, H b = none ∧ ∃ o, H2 b = some o ∧ Mut (some o) := fun b m => by
      rcases List.mem_cons.mp m with rfl | m
      · exact ⟨ha, _, hA2, trivial⟩
      · obtain ⟨n1, us, n2⟩ := hbs b m
        exact ⟨n1, _, s2 _ _ n2, trivial⟩
    have heN : ∀ b ∈ a :: bs, He b = none := fun b m => none_back se (hB b m).1
    have notL : ∀ b ∈ a :: bs, b ∉ L ++ W := fun b m => S.fresh (hB b m).1
    have hσ1 : (σ.set v (some (V.ref a)))[v]? = some (some (.ref a)) := List.getElem?_set_self hvσ
    have S2 : SR X.prog X.w X.K own H2 L ((a :: bs) ++ W) (σ.set v (some (.ref a))) (ρ.set v none) Ro := ((S.kill v).hide s12 hB).setDead fun d => not_live ρ v d
    have wm2 := S2.wm
    have vis0 : Same (hid H (L ++ W)) (hid H2 (L ++ ((a :: bs) ++ W))) := hid_new s12 fun c m => by
      rcases List.mem_append.mp m with m | m
      · exact .inl (List.mem_append_left _ m)
      · rcases List.mem_append.mp m with m | m
        · exact .inr (hB c m).1
        · exact .inl (List.mem_append_right _ m)
    have own_x : ∀ i, i ∉ [x] → own1.getD i .sh = own.getD i .sh := fun i hi => by
      rw [ho1]; exact getD_ne _ _ _ (fun e => hi (by rw [e]; exact List.mem_singleton.mpr rfl))
    generalize hσ : σ.set v (some (V.ref a)) = σ1 at *
    have kσ : Kept kp σ σ1 := by rw [← hσ]; exact .set fun k m => (hkp k m).1
    refine ⟨_, hσ1, a, rfl, ⟨_, .inl (.inl hA2)⟩, ?_⟩
    let Wj : Nat → List Addr := fun j => (a :: bs.drop j) ++ W
    let Pv : Nat → L2.St → Hp → Prop := fun j σ' H' => ∃ L' ρi Ro', SR X.prog X.w X.K own1 H' L' (Wj j) σ' (killR [x] ρi) Ro' ∧ Same He H' ∧ (∀ c ∈ L', He c = none ∧ c ≠ a ∧ c ∉ bs.drop j) ∧ Same (hid H2 (L ++ ((a :: bs) ++ W))) (hid H' (L' ++ Wj j)) ∧ Kept (v :: kp) σ1 σ' ∧
      H' a = some (.lst (bs.map V.ref)) ∧ (∀ b ∈ bs.drop j, H' b = H2 b) ∧ forL [x] (fun y r' => f (r'.set x (some y))) (ds.drop j) ρi = .ok (fl1, ρ1)
    -- the end
    have done : ∀ j σ' H' L' Ro', fl1 = .nx → (∃ ρ2, ρ1 = killR [x] ρ2) → SR X.prog X.w X.K own1 H' L' (Wj j) σ' ρ1 Ro' → Same He H' → (∀ c ∈ L', He c = none) → Same (hid H2 (L ++ ((a :: bs) ++ W))) (hid H' (L' ++ Wj j)) → Kept (v :: kp) σ1 σ' → H' a = some (.lst (bs.map V.ref)) →
        tSeq (tDrop (tBM X.K "list" rAppend (tVar v) (tCons (tX X.prog X.w X.K own1 (fun _ => .ok .non) .s) tNil))) (tS X.prog X.w X.K .sh kp lc own own3 g) D σ' H' := by
      rintro j σ' H' L' Ro' rfl ⟨ρ2, hρ2⟩ S' se' lo' vi kk hA
      have hσ' : σ'[v]? = some (some (.ref a)) := by rw [kk v List.mem_cons_self]; exact hσ1
      refine ⟨_, hσ', .inl ⟨rfl, _, .inl (.inl hA)⟩, L', Wj j, ρ1, Ro', .non, S', rfl, fun u H3 s3 ru => ?_⟩
      have haW : a ∈ Wj j := List.mem_cons_self
      refine ⟨a, _, u, rfl, rfl, s3 _ _ hA, by rw [List.length_map]; omega, ?_⟩
      have S3 := (S'.same s3).poke (o := .lst (bs.map V.ref ++ [u])) haW trivial
      have mem : ∀ c, c ∈ (a :: bs.drop j) ++ L' ++ W ↔ c ∈ L' ++ Wj j := fun c => by
        show _ ↔ c ∈ L' ++ ((a :: bs.drop j) ++ W)
        simp only [List.mem_append]
        constructor
        · rintro ((h | h) | h)
          · exact .inr (.inl h)
          · exact .inl h
          · exact .inr (.inr h)
        · rintro (h | h | h)
          · exact .inl (.inr h)
          · exact .inl (.inl h)
          · exact .inr h
      have S4 : SR X.prog X.w X.K own _ ((a :: bs.drop j) ++ L') W σ' ρ1 Ro' := (S3.shift mem (fun c m => List.mem_append_right _ m) fun c m => List.mem_append_right _ m).own_of fun i d e => (own_x i (by
        rw [hρ2] at e
        exact (killR_get i [x] ρ2 d e).1)).symm
      have hLW : a ∈ L' ++ Wj j := List.mem_append_right _ haW
      refine ⟨He, W, _, ρ1, Ro', fl, ρ', S4, fun c o e => ?_, fun c m => ?_, hf2, fin_at ?_ (kσ.trans fun k m => kk k (List.mem_cons_of_mem _ m)) q⟩
      · have hne : c ≠ a := by rintro rfl; rw [heN _ List.mem_cons_self] at e; cases e
        rw [upd_ne hne]
        exact s3 _ _ (se' _ _ e)
      · rcases List.mem_append.mp m with m | m
        · refine heN c ?_
          rcases List.mem_cons.mp m with rfl | m
          · exact List.mem_cons_self
          · exact List.mem_cons_of_mem _ (List.mem_of_mem_drop m)
        · exact lo' c m
      · refine (vis0.trans vi).trans ?_
        have e1 : Same (hid H' (L' ++ Wj j)) (hid (upd H3 a (.lst (bs.map V.ref ++ [u]))) (L' ++ Wj j)) := by rw [hid_upd hLW]; exact hid_same s3
        exact e1.trans (hid_sub fun c m => (mem c).mp m)
    refine ⟨fun j m σ' H' => m = ds.length - j ∧ j ≤ ds.length ∧ Pv j σ' H', ⟨ds.length, rfl, Nat.zero_le _, L, _, Ro, S2.killO [x] own_x, se.trans s12, fun c m => ⟨lo c m, fun e => notL a List.mem_cons_self (by rw [← e]; exact List.mem_append_left _ m), fun e => notL c (List.mem_cons_of_mem _ e) (List.mem_append_left _ m)⟩, Same.refl _, .refl, hA2, fun _ _ => rfl, hf1⟩, ?_⟩
    rintro j m σ' H' ⟨rfl, hj', L', ρi, Ro', S', se', lo', vi, kk, hA, hBj, hrr⟩
    by_cases hlt : j < ds.length
    · have hjb : j < bs.length := by omega
      refine .inr ⟨⟨_, .ref bs[j], .inl (.inl hA), by rw [List.getElem?_map, List.getElem?_eq_getElem hjb]; rfl⟩, Pv (j + 1), fun σ2 H2 p' => ⟨ds.length - (j + 1), by omega, rfl, hlt, p'⟩, ?_⟩
      rintro y H3 ⟨rfl, hy⟩
      have ey := hy _ (.inl (.inl hA))
      rw [List.getElem?_map, List.getElem?_eq_getElem hjb] at ey
      cases ey
      rw [List.drop_eq_getElem_cons hlt] at hrr
      unfold forL at hrr
      obtain ⟨⟨fl2, ρ2⟩, hb1, hrr⟩ := R.bind_eq_ok.mp hrr
      have dropj : bs.drop j = bs[j] :: bs.drop (j + 1) := List.drop_eq_getElem_cons hjb
      have hbm : bs[j] ∈ bs := List.getElem_mem hjb
      obtain ⟨us, es, hus, hes, rus⟩ := inner _ wm2 j hjb
      rw [List.getElem?_eq_getElem hlt] at hes
      injection hes with hes
      generalize hbb : bs[j] = b at *
      have hbn : b ∉ bs.drop (j + 1) := fun m => by
        have : (bs.drop j).Nodup := ndb.sublist (List.drop_sublist _ _)
        rw [dropj, List.nodup_cons] at this
        exact this.1 m
      have hbW : b ∉ W := fun m => notL b (List.mem_cons_of_mem _ hbm) (List.mem_append_right _ m)
      have hbWj : b ∈ Wj j := List.mem_append_left _ (List.mem_cons_of_mem _ (by rw [dropj]; exact List.mem_cons_self))
      have hHb : H3 b = some (.lst us) := by rw [hBj b (by rw [dropj]; exact List.mem_cons_self)]; exact hus
      have mem : ∀ c, c ∈ (b :: L') ++ Wj (j + 1) ↔ c ∈ L' ++ Wj j := fun c => by
        show c ∈ (b :: L') ++ ((a :: bs.drop (j + 1)) ++ W) ↔ c ∈ L' ++ ((a :: bs.drop j) ++ W)
        rw [dropj]
        simp only [List.mem_append, List.mem_cons]
        constructor
        · rintro ((h | h) | (h | h) | h)
          · exact .inr (.inl (.inr (.inl h)))
          · exact .inl h
          · exact .inr (.inl (.inl h))
          · exact .inr (.inl (.inr (.inr h)))
          · exact .inr (.inr h)
        · rintro (h | (h | h | h) | h)
          · exact .inl (.inr h)
          · exact .inr (.inl (.inl h))
          · exact .inl (.inl h)
          · exact .inr (.inl (.inr h))
          · exact .inr (.inr h)
      have subW : ∀ c ∈ Wj (j + 1), c ∈ Wj j := fun c m => by
        rcases List.mem_append.mp m with m | m
        · refine List.mem_append_left _ ?_
          rcases List.mem_cons.mp m with rfl | m
          · exact List.mem_cons_self
          · exact List.mem_cons_of_mem _ (by rw [dropj]; exact List.mem_cons_of_mem _ m)
        · exact List.mem_append_right _ m
      have Sb := S'.shift (LB := b :: L') (WB := Wj (j + 1)) mem (fun c m => List.mem_cons_of_mem _ m) subW
      have hbL : b ∈ (b :: L') ++ Wj (j + 1) := List.mem_cons_self
      have hox : own1.getD x .sh = .li := by rw [ho1]; exact getD_self _ _ _ hxl
      have Sx := Sb.take (i := x) (v := .ref b) (d := ds[j]) (a := b) (by
        rw [hox, hes]
        exact .li hbL (.lst hHb ((rus.mono vi).mono (hid_sub fun c m => (mem c).mp m)))) List.mem_cons_self (fun m => by
          rcases List.mem_append.mp m with m | m
          · rcases List.mem_cons.mp m with e | m
            · exact hba b hbm e
            · exact hbn m
          · exact hbW m) fun i e hi hlive hR => (S'.loc i e b hlive hR).2 hbWj
      let He' : Hp := fun c => if c = a ∨ c ∈ bs.drop (j + 1) then H3 c else He c
      have He_in : ∀ {c : Addr}, (c = a ∨ c ∈ bs.drop (j + 1)) → He' c = H3 c := fun h => if_pos h
      have He_out : ∀ {c : Addr}, ¬ (c = a ∨ c ∈ bs.drop (j + 1)) → He' c = He c := fun h => if_neg h
      have inAB : ∀ {c : Addr}, (c = a ∨ c ∈ bs.drop (j + 1)) → c ∈ a :: bs := fun h => by
        rcases h with rfl | h
        · exact List.mem_cons_self
        · exact List.mem_cons_of_mem _ (List.mem_of_mem_drop h)
      have seb : Same He' H3 := fun c o e => by
        by_cases h : c = a ∨ c ∈ bs.drop (j + 1)
        · rw [He_in h] at e; exact e
        · rw [He_out h] at e; exact se' c o e
      have back : ∀ {H4 : Hp}, Same He' H4 → Same He H4 := fun h c o e => by
        refine h c o ?_
        rw [He_out (fun z => by rw [heN c (inAB z)] at e; cases e)]
        exact e
      have some3 : ∀ {c : Addr}, (c = a ∨ c ∈ bs.drop (j + 1)) → ∃ o, H3 c = some o ∧ (c ∈ bs.drop (j + 1) → H2 c = some o) := fun {c} h => by
        rcases h with h | h
        · refine ⟨_, by rw [h]; exact hA, fun m => ?_⟩
          rw [← hBj c (by rw [dropj]; exact List.mem_cons_of_mem _ m), h]; exact hA
        · obtain ⟨_, o, e, _⟩ := hB c (List.mem_cons_of_mem _ (List.mem_of_mem_drop h))
          exact ⟨o, by rw [hBj c (by rw [dropj]; exact List.mem_cons_of_mem _ h)]; exact e, fun _ => e⟩
      have loB : ∀ c ∈ b :: L', He' c = none := fun c m => by
        have hn : ¬ (c = a ∨ c ∈ bs.drop (j + 1)) := by
          rcases List.mem_cons.mp m with rfl | m
          · rintro (h | h)
            · exact hba _ hbm h
            · exact hbn h
          · obtain ⟨_, l2, l3⟩ := lo' c m
            rintro (h | h)
            · exact l2 h
            · exact l3 (by rw [dropj]; exact List.mem_cons_of_mem _ h)
        rw [He_out hn]
        rcases List.mem_cons.mp m with rfl | m
        · exact heN _ (List.mem_cons_of_mem _ hbm)
        · exact (lo' c m).1
      have kx : Kept (v :: kp) σ' (σ'.set x (some (.ref b))) := .set fun k m => by
        rcases List.mem_cons.mp m with rfl | m
        · exact hvx
        · exact (hkp k m).2
      have vib : Same (hid H2 (L ++ ((a :: bs) ++ W))) (hid H3 ((b :: L') ++ Wj (j + 1))) := vi.trans (hid_sub fun c m => (mem c).mp m)
      have next : ∀ (σ4 : L2.St) (H4 : Hp) (L4 : List Addr), Same He' H4 → (∀ c ∈ L4, He' c = none) → (∀ c ∈ L4, He c = none ∧ c ≠ a ∧ c ∉ bs.drop (j + 1)) ∧ H4 a = some (.lst (bs.map V.ref)) ∧ ∀ c ∈ bs.drop (j + 1), H4 c = H2 c := fun σ4 H4 L4 se4 lo4 => by
        refine ⟨fun c m => ?_, se4 _ _ (by rw [He_in (.inl rfl)]; exact hA), fun c m => ?_⟩
        · have e := lo4 c m
          have hn : ¬ (c = a ∨ c ∈ bs.drop (j + 1)) := fun h => by
            obtain ⟨o, h3, _⟩ := some3 h
            rw [He_in h, h3] at e
            cases e
          rw [He_out hn] at e
          exact ⟨e, fun h => hn (.inl h), fun h => hn (.inr h)⟩
        · obtain ⟨o, h3, h4⟩ := some3 (.inr m)
          rw [h4 m]
          exact se4 _ _ (by rw [He_in (.inr m)]; exact h3)
      refine ⟨He', Wj (j + 1), b :: L', _, _, fl2, ρ2, Sx, seb, loB, hb1, ?_⟩
      cases fl2 with
      | nx =>
        intro σ4 H4 L4 Ro4 S4 se4 lo4 vi4 kk4
        obtain ⟨n1, n2, n3⟩ := next σ4 H4 L4 se4 lo4
        exact ⟨L4, ρ2, Ro4, S4.killO [x] (h2 _ _ hb1), back se4, n1, vib.trans vi4, kk.trans (kx.trans kk4), n2, n3, hrr⟩
      | ct =>
        intro σ4 H4 L4 Ro4 S4 se4 lo4 vi4 kk4
        obtain ⟨n1, n2, n3⟩ := next σ4 H4 L4 se4 lo4
        exact ⟨L4, ρ2, Ro4, S4, back se4, n1, vib.trans vi4, kk.trans (kx.trans kk4), n2, n3, hrr⟩
      | bk =>
        cases hrr
        intro σ4 H4 L4 Ro4 S4 se4 lo4 vi4 kk4
        obtain ⟨n1, n2, n3⟩ := next σ4 H4 L4 se4 lo4
        exact done (j + 1) σ4 H4 L4 Ro4 rfl ⟨_, rfl⟩ S4 (back se4) (fun c m => (n1 c m).1) (vib.trans vi4) (kk.trans (kx.trans kk4)) n2
      | rt dd =>
        cases hrr
        cases hf2
        intro vv H4 s4 rv
        exact q vv H4 (back s4) (Rep.mono (hid_sub fun c m => List.mem_append_right _ m) rv)
    · have e : j = ds.length := by omega
      subst e
      rw [List.drop_length] at hrr
      cases hrr
      exact .inl ⟨⟨_, .inl (.inl hA), by rw [List.length_map, hlen]; exact Nat.le_refl _⟩, done _ σ' H' L' Ro' rfl ⟨_, rfl⟩ S' se' (fun c m => (lo' c m).1) vi kk hA⟩
end
end MP
/-! What the checker has seen, the evaluator tells: statements. -/
namespace MP
open PySem PySem.Spec PyProof.Rows L2

section
variable {X : Cx} {T : Str → Option Def} {F : Orc} {n : Nat} {N : List Str} {sc : Scope} {dcl own : List O} {ro : O}
theorem SCtx.sto (C : SCtx X T F n N sc) : Sto X N sc sc true := ⟨C.m.hN, C.m.nd, C.m.sc, C.m.calm, fun x _ => C.fn x⟩
theorem lc_parts (C : MCtx X T F n N sc) {e : IE} {x : Expr} {gs : List Comprehension} {scope : Scope} {pos : Pos} (h : ckE T own N sc e (.ListComp x gs scope pos) = true) :
    ∃ (tg iter : Expr) (ifs : List Expr) (wi : TI) (g : TG) (tt : TT) (te : TE) (oN : List (Str × Nat)), gs = [⟨tg, iter, ifs, 0⟩] ∧ PI X tg iter wi ∧ BlkOk X.N X.env.scope scope oN ∧
      (∀ (s : Shared) (H : Hp) (C : Addr) (cl : List (Str × Addr)) (fp : List Addr), PG (X.blk s H scope (compEnvC scope cl C X.env) fp) tg g) ∧
      (∀ (s : Shared) (H : Hp) (C : Addr) (cl : List (Str × Addr)) (fp : List Addr), PTs (X.blk s H scope (compEnvC scope cl C X.env) fp) ifs tt) ∧
      (∀ (s : Shared) (H : Hp) (C : Addr) (cl : List (Str × Addr)) (fp : List Addr), PE (X.blk s H scope (compEnvC scope cl C X.env) fp) x te) ∧ (∀ v, foldedSetIterable iter X.env v = pure v) ∧
      ∀ σ H Q, tX X.prog X.w X.K own (evalE F e) (mdE T own e) σ H Q → tLc wi g tt te (oN.map (·.2)) σ H Q := by
  have hN : X.N.Nodup := by rw [C.hN]; exact C.nd
  have hx : ∃ g it c elt, e = .comp g it c elt := by
    cases e
    case comp => exact ⟨_, _, _, _, rfl⟩
    case bi b es =>
      exfalso
      unfold ckE at h
      cases es with
      | nil => simp at h
      | cons a es => cases es <;> simp at h
    case me m a es =>
      exfalso
      unfold ckE at h
      cases es with
      | nil => simp at h
      | cons a es =>
        cases es with
        | nil => simp at h
        | cons b es => cases es <;> simp at h
    all_goals
      exfalso
      unfold ckE at h
      first
        | (cases h; done)
        | (simp at h; done)
  obtain ⟨g, it, c, elt, rfl⟩ := hx
  unfold ckE at h
  rw [Bool.and_eq_true] at h
  replace h := h.2
  split at h
  · rename_i x1 tg iter ifs scope1 pos1 heq
    cases heq
    simp only [Bool.and_eq_true] at h
    obtain ⟨⟨⟨⟨⟨h1, h2⟩, h3⟩, h4⟩, h5⟩, h6⟩ := h
    obtain ⟨p1, p2⟩ := pi_of it X sc tg iter false C h1
    have ok := blkOk_by h3
    have ok' : BlkOk X.N X.env.scope scope (tgOwn N g) := by rw [C.hN, C.sc]; exact ok
    have hg := fun (s : Shared) (H : Hp) (Ca : Addr) (cl : List (Str × Addr)) (fp : List Addr) => g_of (C.sto s H Ca cl fp) h2
    have he := fun (s : Shared) (H : Hp) (Ca : Addr) (cl : List (Str × Addr)) (fp : List Addr) => (pe_of elt _ _ _ (C.blk s H Ca cl fp) h5).1
    cases c with
    | no =>
      simp only at h4
      cases ifs with
      | cons _ _ => cases h4
      | nil =>
        refine ⟨tg, iter, [], _, tXG X.prog X.w X.K own g, tXT X.prog X.w X.K own (fun _ => .ok true), tX X.prog X.w X.K own (evalE F elt) (mdE T own elt), tgOwn N g, rfl, p1, ok', hg, fun s H Ca cl fp => ts_nil, he, p2, fun σ H Q ht => ?_⟩
        refine x_comp C.calm hN p1 ok' (tgOwn_v g) hg (fun s H Ca cl fp => ts_nil) he (sE_ne h6) p2 σ H Q ?_
        have e1 : evalE F (.comp g it .no elt) = fun r => (evalI F it r).bind fun xs => (compL (turnF g (fun _ => .ok true) (evalE F elt) r) xs).bind fun ys => if ys.length ≤ lim then .ok (.lst ys) else .bad := by funext r; rw [evalE]; rfl
        rw [← e1]; exact ht
    | yes ce =>
      simp only at h4
      split at h4
      · rename_i z
        have ht := fun (s : Shared) (H : Hp) (Ca : Addr) (cl : List (Str × Addr)) (fp : List Addr) => pts_one (pe_of ce _ _ _ (C.blk s H Ca cl fp) h4).2
        refine ⟨tg, iter, [z], _, tXG X.prog X.w X.K own g, tXT X.prog X.w X.K own (fun r => (evalE F ce r).bind unbl), tX X.prog X.w X.K own (evalE F elt) (mdE T own elt), tgOwn N g, rfl, p1, ok', hg, ht, he, p2, fun σ H Q hq => ?_⟩
        refine x_comp C.calm hN p1 ok' (tgOwn_v g) hg ht he (sE_ne h6) p2 σ H Q ?_
        have e1 : evalE F (.comp g it (.yes ce) elt) = fun r => (evalI F it r).bind fun xs => (compL (turnF g (fun r => (evalE F ce r).bind unbl) (evalE F elt) r) xs).bind fun ys => if ys.length ≤ lim then .ok (.lst ys) else .bad := by funext r; rw [evalE]; rfl
        rw [← e1]; exact hq
      · cases h4
  · cases h
theorem nm_1 (C : SCtx X T F n N sc) {i : Nat} {x : Str} (h : nmB N sc i x = true) : X.N[i]? = some x ∧ L2.Loc X.env.scope x := by
  unfold nmB at h
  rw [Bool.and_eq_true, beq_iff_eq] at h
  refine ⟨by rw [C.m.hN]; exact h.1, ?_⟩
  have h2 := h.2
  unfold locB at h2
  unfold L2.Loc
  rw [C.m.sc]
  split at h2
  · exact .inl (by assumption)
  · exact .inr (by assumption)
  · cases h2
theorem ps_name (C : SCtx X T F n N sc) {e : IE} {v : Expr} {i : Nat} {x : Str} {p pos : Pos} (hc : ckE T own N sc e v = true) (hn : nmB N sc i x = true) :
    PS X (.Assign [.Name x p] v pos) (tAsg (tX X.prog X.w X.K own (evalE F e) (mdE T own e)) (gName i)) := by
  obtain ⟨h1, h2⟩ := nm_1 C hn
  have hN : X.N.Nodup := by rw [C.m.hN]; exact C.m.nd
  have he := (pe_of e X sc v C.m hc).1
  by_cases hl : ∃ a b c d, v = .ListComp a b c d
  · obtain ⟨a, b, scope, vp, rfl⟩ := hl
    have sw : ∃ k, swapsWith (.ListComp a b scope vp) (some (.Name x p)) pos.line X.env = pure k ∧ (k = true → X.env.scope.names.lookup x = some .local) := by
      refine ⟨X.env.blockKind == .function && X.env.kindOf x == some .local && p.line == vp.line && !(scope.names.any fun (n, k) => n == x && (k == .local || k == .cell)), rfl, fun hk => ?_⟩
      simp only [Bool.and_eq_true, beq_iff_eq] at hk
      exact hk.1.1.2
    obtain ⟨k, hk, hk2⟩ := sw
    cases k with
    | false => exact ps_set hN h1 h2 he hk (.inl (C.fn x))
    | true =>
      obtain ⟨tg, iter, ifs, wi, g, tt, te, oN, rfl, q1, q2, q3, q4, q5, q6, q7⟩ := lc_parts (F := F) C.m hc
      exact PSi (ps_setLc C.m.calm hN h1 (hk2 rfl) hk q1 q2 q3 q4 q5 q6) fun D σ H hq => q7 σ H _ hq
  · exact ps_set hN h1 h2 he (okX_swap (ck_okX T own hc) (fun a b c d e => hl ⟨a, b, c, d, e⟩) _ _ _) (.inl (C.fn x))
theorem li_1 {x : Nat} (h : isLi own x = true) : own.getD x .sh = .li := of_decide_eq_true h

theorem swap_sub (v o i : Expr) (p : Pos) (l : Nat) (env : PySem.Env) : swapsWith v (some (.Subscript o i p)) l env = pure false := by cases v <;> rfl
theorem swap_tup (v : Expr) (es : List Expr) (k) (p : Pos) (l : Nat) (env : PySem.Env) : swapsWithSole [.Tuple es k p] v l env = pure false := by cases v <;> rfl
theorem stores_tup {v : Expr} (h : noTup v = true) (es : List Expr) (k) (p : Pos) (env : PySem.Env) : swappedStores [.Tuple es k p] v env = pure none := by
  cases v <;> first | rfl | (simp [noTup] at h; done)
mutual
theorem ps_of (C : SCtx X T F n N sc) : ∀ (s : IS) (kp : List Nat) (lc : Option Lp) (own : List O) (st : Stmt), (∀ k, k ∈ kp → noWr k s = true) → ckS T dcl ro N sc lc own s st = true → PSX X ro kp lc own (flowS T dcl s own) st (evalS F s)
  | .asg (.nm i) e, kp, lc, own, st, nw, h => by
    unfold ckS at h
    split at h
    · rename_i tg v pos
      rw [Bool.and_eq_true] at h
      obtain ⟨h1, h2⟩ := h
      simp only at h2
      split at h2
      · simp only [Bool.and_eq_true, decide_eq_true_eq] at h2
        obtain ⟨⟨h2, h3⟩, h4⟩ := h2
        refine s_imp (s_asg (o := newO T dcl own i e) (ps_name (F := F) C h1 h2) h3 (fun k m => by
          have := nw k m
          rw [noWr] at this
          rintro rfl
          simp [gV] at this) ?_) fun r => by rw [evalS]
        generalize ho : newO T dcl own i e = o at h4
        cases o with
        | sh => exact .inl ⟨rfl, sE_ne h4⟩
        | li =>
          refine .inr (.inl ⟨rfl, ?_⟩)
          unfold newO at ho
          split at ho
          · split at ho
            · assumption
            · cases ho
          · split at ho <;> cases ho
          · cases ho
          · cases ho
        | tp k =>
          refine .inr (.inr ⟨k, rfl, ?_⟩)
          unfold newO at ho
          split at ho
          · split at ho <;> cases ho
          · split at ho
            · cases ho; assumption
            · cases ho
          · cases ho
          · cases ho
        | nl =>
          unfold newO at ho
          split at ho
          · split at ho <;> cases ho
          · split at ho <;> cases ho
          · cases ho
          · cases ho
      · cases h2
    · cases h
  | .asg (.tp is) e, kp, lc, own, st, nw, h => by
    unfold ckS at h
    split at h
    · rename_i tg v pos
      simp only [Bool.and_eq_true] at h
      obtain ⟨h1, ⟨h2, h3⟩, h4⟩ := h
      have hg := g_of (own := own) C.sto h2
      have he := (pe_of e X sc v C.m h1).1
      cases tg <;> simp only [ckG] at h2 <;> first | (cases h2; done) | skip
      have hps := ps_asg (pos := pos) he hg (swap_tup _ _ _ _ _ _) (stores_tup h4 _ _ _ _) rfl
      exact s_imp (s_asgT hps (fun k m => by
        have := nw k m
        rw [noWr] at this
        simpa [gV] using this) (sE_ne h3)) fun r => by rw [evalS]
    · cases h
  | .aug x op e, kp, lc, own, st, nw, h => by
    unfold ckS at h
    split at h
    · simp only [Bool.and_eq_true, decide_eq_true_eq] at h
      obtain ⟨⟨⟨⟨h1, rfl⟩, rfl⟩, h4⟩, h5⟩ := h
      obtain ⟨q1, q2⟩ := nm_1 C h1
      exact s_imp (s_aug (ps_aug (by rw [C.m.hN]; exact C.m.nd) q1 q2 (pe_of e X sc _ C.m h4).1 ip_add (.inl (C.fn _))) (fun k m => by
        have := nw k m
        rw [noWr] at this
        rintro rfl
        simp at this) h5) fun r => by rw [evalS] <;> rfl
    · cases h
  | .put x k e, kp, lc, own, st, nw, h => by
    unfold ckS at h
    split at h
    · simp only [Bool.and_eq_true] at h
      obtain ⟨⟨⟨⟨⟨⟨⟨h1, h2⟩, h3⟩, h4⟩, h5⟩, h6⟩, h7⟩, h8⟩ := h
      exact s_imp (s_put C.m.hu (nm_1 C h1).1 (C.m.vis h2) (noRes_1 h3).1 (noRes_1 h3).2 (li_1 h4) (pe_of e X sc _ C.m h5).1 (sE_ne h7) (pe_of k X sc _ C.m h6).1 (swap_sub _ _ _ _ _ _)) fun r => by rw [evalS] <;> rfl
    · cases h
  | .app x e, kp, lc, own, st, nw, h => by
    unfold ckS at h
    split at h
    · simp only [Bool.and_eq_true, beq_iff_eq] at h
      obtain ⟨⟨⟨⟨⟨⟨⟨h1, h2⟩, h3⟩, rfl⟩, h5⟩, h6⟩, h7⟩, h8⟩ := h
      exact s_imp (s_app (nm_1 C h1).1 (C.m.vis h2) (noRes_1 h3).1 (noRes_1 h3).2 (li_1 h6) (pe_of e X sc _ C.m h7).1 (sE_ne h8) (ck_okX T own h7) h5) fun r => by rw [evalS]
    · cases h
  | .ext x e, kp, lc, own, st, nw, h => by
    unfold ckS at h
    split at h
    · simp only [Bool.and_eq_true, beq_iff_eq] at h
      obtain ⟨⟨⟨⟨⟨⟨h1, h2⟩, h3⟩, rfl⟩, h5⟩, h6⟩, h7⟩ := h
      exact s_imp (s_ext (nm_1 C h1).1 (C.m.vis h2) (noRes_1 h3).1 (noRes_1 h3).2 (li_1 h6) (pe_of e X sc _ C.m h7).1 (ck_okX T own h7) h5) fun r => by rw [evalS]
    · cases h
  | .ifs c a b, kp, lc, own, st, nw, h => by
    unfold ckS at h
    split at h
    · simp only [Bool.and_eq_true, Bool.or_eq_true, decide_eq_true_eq] at h
      obtain ⟨⟨⟨h1, h2⟩, h3⟩, h4⟩ := h
      have nab : ∀ k, k ∈ kp → noWrs k a = true ∧ noWrs k b = true := fun k m => by
        have := nw k m
        rw [noWr, Bool.and_eq_true] at this
        exact this
      have pa := pss_of C a kp lc own _ (fun k m => (nab k m).1) h2
      have pb := pss_of C b kp lc own _ (fun k m => (nab k m).2) h3
      have e1 : evalS F (.ifs c a b) = fun r => ((evalE F c r).bind unbl).bind fun k => if k then evalSs F a r else evalSs F b r := by
        funext r; rw [evalS]; cases evalE F c r <;> rfl
      have e2 : flowS T dcl (.ifs c a b) own = if dvs a then flowSs T dcl b own else flowSs T dcl a own := by rw [flowS]
      rw [e1, e2]
      refine s_ifs (pe_of c X sc _ C.m h1).2 pa pb (fun r r' hr => ?_) (fun r r' hr => ?_)
      · by_cases ha : dvs a = true
        · exact (dvs_nx a r r' ha hr).elim
        · rw [if_neg ha]
      · by_cases ha : dvs a = true
        · rw [if_pos ha]
        · rw [if_neg ha]
          rcases h4 with (h4 | h4) | h4
          · exact absurd h4 ha
          · exact (dvs_nx b r r' h4 hr).elim
          · exact h4.symm
    · cases h
  | .loop g it ks body, kp, lc, own, st, nw, h => by
    unfold ckS at h
    split at h
    · simp only [Bool.and_eq_true, Bool.or_eq_true] at h
      obtain ⟨⟨⟨h1, h2⟩, h3⟩, h4⟩ := h
      obtain ⟨p1, p2⟩ := pi_of it X sc _ _ true C.m h1
      have nb : ∀ k, k ∈ kp → k ∉ gV g ∧ noWrs k body = true := fun k m => by
        have := nw k m
        rw [noWr, Bool.and_eq_true] at this
        exact ⟨by simpa using this.1, this.2⟩
      have pb := pss_of C body kp _ _ _ (fun k m => (nb k m).2) h3
      have e2 : flowS T dcl (.loop g it ks body) own = resetO dcl ks own := by rw [flowS]
      rw [e2]
      refine s_imp (s_loop C.xe C.m.calm p1 (g_of C.sto h2) pb p2 (fun k m => (nb k m).1) (fun i hi => resetO_get dcl ks own i hi) fun r r' hr i hi => ?_) fun r => by rw [evalS]
      rcases h4 with h4 | h4
      · exact (dvs_nx body r r' h4 hr).elim
      · exact (agree_get h4 hi).symm
    · cases h
  | .loopV g x ks body, kp, lc, own, st, nw, h => by
    unfold ckS at h
    split at h
    · simp only [Bool.and_eq_true, Bool.or_eq_true, Bool.not_eq_true'] at h
      obtain ⟨⟨⟨⟨⟨⟨⟨⟨⟨h1, h2⟩, h3⟩, h4⟩, h5⟩, h6⟩, h7⟩, h8⟩, h9⟩, h10⟩ := h
      have nb : ∀ k, k ∈ kp → k ∉ gV g ∧ noWrs k body = true := fun k m => by
        have := nw k m
        rw [noWr, Bool.and_eq_true] at this
        exact ⟨by simpa using this.1, this.2⟩
      have hxg : x ∉ gV g := by simpa using h9
      have hxk : x ∉ ks := by simpa using h10
      have pb := pss_of C body (x :: kp) _ _ _ (fun k m => by
        rcases List.mem_cons.mp m with rfl | m
        · exact h8
        · exact (nb k m).2) h6
      have e2 : flowS T dcl (.loopV g x ks body) own = resetO dcl ks own := by rw [flowS]
      rw [e2]
      refine s_imp (s_loopV C.xe C.m.calm (nm_1 C h1).1 (C.m.vis h2) (noRes_1 h3).1 (noRes_1 h3).2 (li_1 h4) (by rw [resetO_get dcl ks own x hxk]; exact li_1 h4) (g_of C.sto h5) pb (fun _ => rfl) (fun k m => (nb k m).1) hxg (fun i hi => resetO_get dcl ks own i hi) fun r r' hr i hi => ?_) fun r => by rw [evalS] <;> rfl
      rcases h7 with h7 | h7
      · exact (dvs_nx body r r' h7 hr).elim
      · exact (agree_get h7 hi).symm
    · cases h
  | .ifSd x k e c a b, kp, lc, own, st, nw, h => by
    unfold ckS at h
    split at h
    · simp only [Bool.and_eq_true, Bool.or_eq_true, beq_iff_eq, decide_eq_true_eq] at h
      obtain ⟨⟨⟨⟨⟨⟨⟨⟨⟨⟨⟨⟨⟨h1, h2⟩, h3⟩, h4⟩, rfl⟩, h6⟩, rfl⟩, h8⟩, h9⟩, h10⟩, h11⟩, h12⟩, h13⟩, h14⟩ := h
      have nab : ∀ k, k ∈ kp → noWrs k a = true ∧ noWrs k b = true := fun k m => by
        have := nw k m
        rw [noWr, Bool.and_eq_true] at this
        exact this
      have pa := pss_of C a kp lc own _ (fun k m => (nab k m).1) h12
      have pb := pss_of C b kp lc own _ (fun k m => (nab k m).2) h13
      have e2 : flowS T dcl (.ifSd x k e c a b) own = if dvs a then flowSs T dcl b own else flowSs T dcl a own := by rw [flowS]
      rw [e2]
      refine s_imp (s_ifSd C.m.hu (nm_1 C h1).1 (C.m.vis h2) (noRes_1 h3).1 (noRes_1 h3).2 (li_1 h4) (pe_of k X sc _ C.m h8).1 (pe_of e X sc _ C.m h9).1 (sE_ne h10) (m2_of rfl (ck_okX T own h8) (ck_okX T own h9) h6) (pe_of c X sc _ C.m h11).1 (ck_okX T own h11) pa pb (fun r r' hr => ?_) (fun r r' hr => ?_)) fun r => by rw [evalS] <;> rfl
      · by_cases ha : dvs a = true
        · exact (dvs_nx a r r' ha hr).elim
        · rw [if_neg ha]
      · by_cases ha : dvs a = true
        · rw [if_pos ha]
        · rw [if_neg ha]
          rcases h14 with (h14 | h14) | h14
          · exact absurd h14 ha
          · exact (dvs_nx b r r' h14 hr).elim
          · exact h14.symm
    · cases h
  | .whl m c ks body, kp, lc, own, st, nw, h => by
    unfold ckS at h
    split at h
    · simp only [Bool.and_eq_true, Bool.or_eq_true] at h
      obtain ⟨⟨h1, h3⟩, h4⟩ := h
      have pb := pss_of C body kp _ _ _ (fun k m => by
        have := nw k m
        rw [noWr] at this
        exact this) h3
      have e2 : flowS T dcl (.whl m c ks body) own = resetO dcl ks own := by rw [flowS]
      rw [e2]
      refine s_imp (s_whl C.xe (pe_of c X sc _ C.m h1).2 pb (fun i hi => resetO_get dcl ks own i hi) fun r r' hr i hi => ?_) fun r => by rw [evalS]
      rcases h4 with h4 | h4
      · exact (dvs_nx body r r' h4 hr).elim
      · exact (agree_get h4 hi).symm
    · cases h
  | .ret e, kp, lc, own, st, nw, h => by
    unfold ckS at h
    split at h
    · rename_i v pos
      rw [Bool.and_eq_true] at h
      have he := (pe_of e X sc v C.m h.1).1
      have h2 := h.2
      have ev : evalS F (.ret e) = fun r => (evalE F e r).bind fun d => .ok (.rt d, r) := by funext r; rw [evalS]
      by_cases hnl : ro = .nl
      · have e2 : flowS T dcl (.ret e) own = own := by first | rfl | (simp [flowS]; done)
        rw [e2, ev]
        unfold retB at h2
        rw [hnl] at h2
        exact s_retN (nl_of C.m h.1 h2) hnl
      have key : ((ro = .sh ∧ mdE T own e ≠ .b) ∨ (ro = .li ∧ mdE T own e = .l) ∨ ∃ k, ro = .tp k ∧ mdE T own e = .t k) ∨ ∃ i, e = .var i ∧ ((ro = .sh ∧ noTp own i = true) ∨ (ro ≠ .sh ∧ ownV own i = ro)) := by
        unfold retB at h2
        cases ro with
        | sh =>
          cases e <;> first | exact .inr ⟨_, rfl, .inl ⟨rfl, h2⟩⟩ | exact .inl (.inl ⟨rfl, sE_ne h2⟩)
        | li =>
          simp only [Bool.or_eq_true, decide_eq_true_eq] at h2
          rcases h2 with h2 | h2
          · exact .inl (.inr (.inl ⟨rfl, h2⟩))
          · split at h2
            · exact .inr ⟨_, rfl, .inr ⟨(fun z => nomatch z), of_decide_eq_true h2⟩⟩
            · cases h2
        | tp k =>
          simp only [Bool.or_eq_true, decide_eq_true_eq] at h2
          rcases h2 with h2 | h2
          · exact .inl (.inr (.inr ⟨k, rfl, h2⟩))
          · split at h2
            · exact .inr ⟨_, rfl, .inr ⟨(fun z => nomatch z), of_decide_eq_true h2⟩⟩
            · cases h2
        | nl => exact absurd rfl hnl
      have e2 : flowS T dcl (.ret e) own = own := by first | rfl | (simp [flowS]; done)
      rw [e2, ev]
      rcases key with key | ⟨i, rfl, key⟩
      · exact s_ret he key
      · have hck := h.1
        unfold ckE at hck
        rw [Bool.and_eq_true] at hck
        replace hck := hck.2
        split at hck
        · simp only [Bool.and_eq_true, beq_iff_eq] at hck
          obtain ⟨⟨q1, q2⟩, q3⟩ := hck
          have e3 : (fun r => (evalE F (.var i) r).bind fun d => R.ok (Fl.rt d, r)) = fun r => (varE i r).bind fun d => .ok (.rt d, r) := by funext r; rw [evalE]
          rw [e3]
          exact s_retV (by rw [C.m.hN]; exact q1) (C.m.vis q2) (noRes_1 q3).1 (noRes_1 q3).2 key
        · cases hck
    · cases h
  | .ex e, kp, lc, own, st, nw, h => by
    unfold ckS at h
    split at h
    · rename_i v pos
      rw [Bool.and_eq_true] at h
      have he := (pe_of e X sc v C.m h.1).1
      have e2 : flowS T dcl (.ex e) own = own := by first | rfl | (simp [flowS]; done)
      rw [e2]
      exact s_imp (s_ex he (okX_swap (ck_okX T own h.1) (fun a b c d z => by rw [z] at h; exact absurd h.2 (by simp)) _ _ _)) fun r => by rw [evalS]
    · cases h
  | .cont, kp, lc, own, st, nw, h => by
    unfold ckS at h
    split at h
    · split at h
      · have e2 : flowS T dcl .cont own = own := by first | rfl | (simp [flowS]; done)
        rw [e2]
        exact s_imp (s_cont h) fun r => by rw [evalS]
      · cases h
    · cases h
  | .brk, kp, lc, own, st, nw, h => by
    unfold ckS at h
    split at h
    · split at h
      · have e2 : flowS T dcl .brk own = own := by first | rfl | (simp [flowS]; done)
        rw [e2]
        exact s_imp (s_brk h) fun r => by rw [evalS]
      · cases h
    · cases h
  | .pass, kp, lc, own, st, nw, h => by
    unfold ckS at h
    split at h
    · have e2 : flowS T dcl .pass own = own := by first | rfl | (simp [flowS]; done)
      rw [e2]
      exact s_imp s_pass fun r => by rw [evalS]
    · cases h
  | .mov _ _, kp, lc, own, st, nw, h => by unfold ckS at h; cases h
  | .ins _ _ _, kp, lc, own, st, nw, h => by unfold ckS at h; cases h
  | .rem _ _, kp, lc, own, st, nw, h => by unfold ckS at h; cases h
  | .popi _ _ _, kp, lc, own, st, nw, h => by unfold ckS at h; cases h
  | .pop x, kp, lc, own, st, nw, h => by
    unfold ckS at h
    split at h
    · rename_i y px nm ap cp pos
      simp only [Bool.and_eq_true, beq_iff_eq] at h
      obtain ⟨⟨⟨⟨⟨h1, h2⟩, h3⟩, rfl⟩, h5⟩, h6⟩ := h
      have e2 : flowS T dcl (.pop x) own = own := by first | rfl | (simp [flowS]; done)
      rw [e2]
      exact s_imp (s_pop (nm_1 C h1).1 (C.m.vis h2) (noRes_1 h3).1 (noRes_1 h3).2 (li_1 h6) h5) fun r => by rw [evalS]
    · cases h
  | .appAt _ _ _, kp, lc, own, st, nw, h => by unfold ckS at h; cases h
  | .sdApp _ _ _, kp, lc, own, st, nw, h => by unfold ckS at h; cases h
  | .kill _, kp, lc, own, st, nw, h => by unfold ckS at h; cases h
  | .frz _, kp, lc, own, st, nw, h => by unfold ckS at h; cases h
  | .told _ _ _ _ _ _, kp, lc, own, st, nw, h => by unfold ckS at h; cases h
theorem pss_of (C : SCtx X T F n N sc) : ∀ (ss : ISs) (kp : List Nat) (lc : Option Lp) (own : List O) (sts : List Stmt), (∀ k, k ∈ kp → noWrs k ss = true) → ckSs T dcl ro N sc lc own ss sts = true → PSsX X ro kp lc own (flowSs T dcl ss own) sts (evalSs F ss)
  | .nil, kp, lc, own, sts, nw, h => by
    unfold ckSs at h
    cases sts with
    | cons _ _ => cases h
    | nil =>
      have e2 : flowSs T dcl .nil own = own := by rw [flowSs]
      rw [e2]
      exact ss_imp s_nil fun r => by rw [evalSs]
  | .cons s ss, kp, lc, own, sts, nw, h => by
    unfold ckSs at h
    have e2 : flowSs T dcl (.cons s ss) own = flowSs T dcl ss (flowS T dcl s own) := by rw [flowSs]
    rw [e2]
    by_cases hs : skipB s = true
    · rw [if_pos hs, Bool.and_eq_true] at h
      have nws : ∀ k, k ∈ kp → noWrs k ss = true := fun k m => by
        have := nw k m
        rw [noWrs, Bool.and_eq_true] at this
        exact this.2
      have ih := pss_of C ss kp lc _ sts nws h.2
      cases s <;> first | (cases hs; done) | skip
      · rename_i ks
        have e3 : flowS T dcl (.kill ks) own = own := by first | rfl | (simp [flowS]; done)
        rw [e3] at ih ⊢
        exact ss_imp (s_skip (k := killR ks) ih fun H L W σ ρ Ro S => ⟨L, Ro, S.kills ks, fun _ m => m⟩) fun r => by rw [evalSs, evalS]; rfl
      · rename_i ks
        have e3 : flowS T dcl (.frz ks) own = frzO ks own := by rw [flowS]
        rw [e3] at ih ⊢
        exact ss_imp (s_skip (k := id) ih fun H L W σ ρ Ro S => S.frzs ks h.1) fun r => by rw [evalSs, evalS]; rfl
    · rw [if_neg hs] at h
      by_cases ht : isTold s = true
      · rw [if_pos ht, Bool.and_eq_true] at h
        cases s <;> first | (cases ht; done) | skip
        rename_i v f es c x body
        obtain ⟨h1, h2⟩ := h
        have nws : ∀ k, k ∈ kp → (k ≠ v ∧ k ≠ x) ∧ noWrs k body = true ∧ noWrs k ss = true := fun k m => by
          have := nw k m
          rw [noWrs, noWr] at this
          simp only [Bool.and_eq_true, bne_iff_ne, ne_eq] at this
          exact ⟨⟨fun z => this.1.1.1 z.symm, fun z => this.1.1.2 z.symm⟩, this.1.2, this.2⟩
        unfold ckTold at h1
        split at h1
        · rename_i y1 p1 e p2 z k3 p3 p4 p5 tx p6 y2 p7 p p8 y3 p9 nm ap k10 p10 cp p11 tail
          simp only [Bool.and_eq_true, Bool.or_eq_true, decide_eq_true_eq, beq_iff_eq] at h1
          obtain ⟨⟨⟨⟨⟨⟨⟨⟨⟨⟨⟨⟨⟨⟨⟨⟨⟨⟨⟨a1, a2⟩, a3⟩, a4⟩, a5⟩, a6⟩, a7⟩, a8⟩, rfl⟩, a10⟩, a11⟩, a12⟩, a13⟩, hro⟩, a15⟩, a16⟩, a17⟩, a18⟩, a19⟩, a20⟩ := h1
          have hrest := pss_of C ss kp lc own tail (fun k m => (nws k m).2.2) h2
          have hbody := pss_of C body (v :: kp) (some ⟨own.set x .li, [x]⟩) (own.set x .li) p (fun k m => by
            rcases List.mem_cons.mp m with rfl | m
            · exact a20
            · exact (nws k m).2.1) a18
          have e3 : flowS T dcl (.told v f es c x body) own = own := by first | rfl | (simp [flowS]; done)
          rw [e3]
          have hm : mdE T own (.call f es) = .n := by
            split at a12
            · rename_i d hd
              rw [mdE, hd]
              show mdO d.ro = _
              rw [of_decide_eq_true a12]; rfl
            · cases a12
          have h1 := ps_name (F := F) (p := p1) (pos := p2) C a11 a1
          rw [hm] at h1
          have ey : y3 = y2 := by
            have b2 := (nm_1 C a2).1
            have b3 := (nm_1 C a3).1
            rw [b2] at b3
            exact (Option.some.inj b3).symm
          subst ey
          have hF : PEX X (own.set v .sh) (.Constant (.bool false) k3 p3) (fun _ => .ok (.bl false)) .s := x_imp (pe_of (T := T) (F := F) (own := own.set v .sh) (.bl false) X sc _ C.m (by unfold ckE; rfl)).1 (fun r => by rw [evalE]) rfl
          have hN : PEX X (own.set x .li) (.Constant .none k10 p10) (fun _ => .ok .non) .s := x_imp (pe_of (T := T) (F := F) (own := own.set x .li) .non X sc _ C.m (by unfold ckE; rfl)).1 (fun r => by rw [evalE]) rfl
          have hNd : X.N.Nodup := by rw [C.m.hN]; exact C.m.nd
          subst hro
          refine ss_imp (s_told (fcall := evalE F (.call f es)) (fcond := fun r => (evalE F c r).bind unbl) (f := evalSs F body) (v := v) (x := x) C.xe C.m.calm h1 (pe_of c X sc z C.m a13).2 hF (nm_1 C a2).1 (C.m.vis a4) (noRes_1 a5).1 (noRes_1 a5).2
            (pg_name hNd (nm_1 C a8).1 (nm_1 C a8).2 (.inl (C.fn _))) rfl hbody (fun _ => rfl) (fun r r' hr i hi => ?_) hN rfl a10 a17 a16 (fun k m => (nws k m).1) hrest) fun r => ?_
          · rcases a19 with a19 | a19
            · exact (dvs_nx body r r' a19 hr).elim
            · exact (agree_get a19 hi).symm
          · have hb : ∀ {α : Type} (a : R MP.D) (k : Bool → R α), (a.bind unbl).bind k = a.bind fun z => (unbl z).bind k := fun a k => by cases a <;> rfl
            show _ = seqF (toldF _ _ _ v x) _ r
            unfold seqF toldF
            simp only [hb]
            rw [evalSs, evalS] <;> rfl
        · cases h1
      rw [if_neg ht] at h
      cases sts with
      | nil => cases h
      | cons st sts =>
        rw [Bool.and_eq_true] at h
        have nws : ∀ k, k ∈ kp → noWr k s = true ∧ noWrs k ss = true := fun k m => by
          have := nw k m
          rw [noWrs, Bool.and_eq_true] at this
          exact this
        refine ss_imp (s_cons (ps_of C s kp lc own st (fun k m => (nws k m).1) h.1) (pss_of C ss kp lc _ sts (fun k m => (nws k m).2) h.2)) fun r => ?_
        rw [evalSs] <;> rfl
end
end
end MP
/-! Defs, all at once; the law's end. -/
namespace MP
open PySem PySem.Spec PyProof.Rows L2

/-- a def as the checker sees it -/
def ckD (T : Str → Option Def) (d : Def) (sc : Scope) (body : List Stmt) : Bool :=
  decide (d.np ≤ d.N.length) && ((List.range d.np).all fun i => decide (d.own.getD i .sh = .sh)) && (dvs d.body || decide (d.ro = .sh)) && ckSs T d.own d.ro d.N sc none d.own d.body body
structure DefOk (K : PySem.W.Frag) (mg : Str → Option Value) (T : Str → Option Def) (x : Str) (d : Def) : Prop where
  ex : ∃ (st : Stmt) (f : Addr) (fd : FuncData) (ps : List Str), L2.Fun K x x st f fd ∧ mg x = some (.ref f) ∧ (∀ us : List Value, us.length = ps.length → bindArgs fd ⟨us, []⟩ = pure (ps.zip us)) ∧ FnScope d.N ps (defScope st) ∧ ps.length = d.np ∧
    ckD T d (defScope st) (defBody st) = true
theorem defAt {K : PySem.W.Frag} {mg : Str → Option Value} {h : Heap} {T : Str → Option Def} {x : Str} {d : Def} {st : Stmt} {f : Addr} {ps : List Str} {oc : Value} {od an : Option Addr} {osl : Array (Option Value)} {kV doc pm cdv ct : Value} (KX : K.In h) (G : h.Ns mainGlobals mg)
    (a : PySem.W.nsIn K mainGlobals x = some (some (.ref f))) (l : K.lookup f = some ⟨oc, od, .func (PySem.W.fnOf x x (defArgs st) (defBody st) (defScope st) .none kV doc pm an cdv ct), osl⟩)
    (c : PySem.W.codeIn K cdv x = true) (k : PySem.W.keepIn K (.ref f) = true)
    (hb : ∀ (kV doc pm : Value) (an : Option Addr) (cdv ct : Value) (us : List Value), us.length = ps.length → bindArgs (PySem.W.fnOf x x (defArgs st) (defBody st) (defScope st) .none kV doc pm an cdv ct) ⟨us, []⟩ = pure (ps.zip us))
    (hs : C8.scC d.N ps (defScope st) = true) (hl : ps.length = d.np) (hck : ckD T d (defScope st) (defBody st) = true) : DefOk K mg T x d :=
  ⟨⟨st, f, _, ps, fun_mk l c k, PySem.W.mg_of KX G a, hb _ _ _ _ _ _, C8.fnScope_by hs, hl, hck⟩⟩

section
variable {P : Program} {w : World} {K : PySem.W.Frag} {mg : Str → Option Value} {base : Heap} {T : Str → Option Def}
theorem sr_start {H : Hp} {W : List Addr} {vs : List V} {ds : List MP.D} {N : List Str} {own : List O} (hw : ∀ a ∈ W, ∃ o, H a = some o ∧ Mut (some o)) (r : Reps P w K (hid H W) vs ds) (ho : ∀ i, i < ds.length → own.getD i .sh = .sh) :
    SR P w K own H [] W (L2.start N vs) (ds.map some ++ List.replicate (N.length - ds.length) none) (fun _ => none) := by
  have hl := r.length
  refine ⟨by simp [L2.start, hl], fun i d e => ?_, (fun _ _ _ _ z => nomatch z), (fun _ _ _ _ _ _ _ z => nomatch z), hw⟩
  have hi : i < ds.length := by
    by_cases hi : i < ds.length
    · exact hi
    · rw [List.getElem?_append_right (by simpa using hi)] at e
      have := List.mem_of_getElem? e
      have := List.eq_of_mem_replicate this
      cases this
  rw [List.getElem?_append_left (by simpa using hi), List.getElem?_map] at e
  obtain ⟨d', e', e2⟩ := Option.map_eq_some_iff.mp e
  cases e2
  obtain ⟨v, ev, rv⟩ := r.get e'
  refine ⟨v, ?_, ?_⟩
  · unfold L2.start
    rw [List.getElem?_append_left (by rw [List.length_map, hl]; exact hi), List.getElem?_map, ev]
    rfl
  · rw [ho i hi]
    exact .sh rv
theorem def_ok {k : Nat} {x : Str} {d : Def} {st : Stmt} {f : Addr} {fd : FuncData} {ps : List Str} (hx : T x = some d) (F : L2.Fun K x x st f fd) (hS : FnScope d.N ps (defScope st)) (hl : ps.length = d.np) (hck : ckD T d (defScope st) (defBody st) = true)
    (hb : ∀ y ∈ bltNames, mg y = none) (ih : ∀ f e, T f = some e → C8.Cal P w K mg base k f (spD P w K (run T k) f e) [])
    (len : ∀ f e ds r, T f = some e → run T k f ds = .ok r → ds.length = e.np) : L2.FnOk P w K mg base CX0 (k + 1) f fd ps (spD P w K (run T (k + 1)) x d) := by
  refine F.ok hS (fun vs H Q E h => ?_) (fun cdv A outer s H vs Q E hr h => ?_)
  · obtain ⟨W, ds, r, _, hr, hn, _⟩ := h
    rw [hr.length, hn, hl]
  · obtain ⟨W, ds, r, hw, hrep, hn, hrun, q⟩ := h
    unfold ckD at hck
    simp only [Bool.and_eq_true, Bool.or_eq_true, decide_eq_true_eq] at hck
    obtain ⟨⟨⟨c1, c2⟩, c3⟩, c4⟩ := hck
    rw [run, hx] at hrun
    have hrun : runBody (run T k) d ds = .ok r := hrun
    unfold runBody at hrun
    rw [if_pos hn] at hrun
    obtain ⟨⟨fl, ρ'⟩, hev, hres⟩ := R.bind_eq_ok.mp hrun
    have C : SCtx (cxOf CX0 P w K mg base d.N x (defScope st) f cdv A outer s H E).nox T (run T k) k d.N (defScope st) :=
      ⟨⟨rfl, hS.nd, rfl, rfl, hr, hb, ih, len⟩, hS.kind, fun _ => rfl, rfl⟩
    refine ⟨_, pss_of C d.body [] none d.own (defBody st) (fun k m => nomatch m) c4, H, W, [], _, _, fl, ρ', sr_start hw hrep fun i hi => ?_, Same.refl H, (fun a m => nomatch m), by rw [← hn] at hev; exact hev, ?_⟩
    · rw [List.all_eq_true] at c2
      exact of_decide_eq_true (c2 i (List.mem_range.mpr (by rw [← hn]; exact hi)))
    · cases fl with
      | nx =>
        cases hres
        rcases c3 with c3 | c3
        · exact (dvs_nx d.body _ _ c3 hev).elim
        · intro σ' H' L' Ro S se lo vi _
          refine q .non H' se ?_
          rw [c3]
          exact Rep.non
      | rt v => cases hres; exact fun v' H' se rr => q v' H' se rr
      | ct => cases hres
      | bk => cases hres
theorem run_len : ∀ k f (e : Def) (ds : List MP.D) (r : MP.D), T f = some e → run T k f ds = .ok r → ds.length = e.np
  | 0, _, _, _, _, _, h => by unfold run at h; cases h
  | k + 1, f, e, ds, r, hT, h => by
    rw [run, hT] at h
    have h : runBody (run T k) e ds = .ok r := h
    unfold runBody at h
    split at h
    · assumption
    · cases h
theorem all_ok (hd : ∀ x d, T x = some d → DefOk K mg T x d) (hb : ∀ y ∈ bltNames, mg y = none) : ∀ (k : Nat) (x : Str) (d : Def), T x = some d → C8.Cal P w K mg base k x (spD P w K (run T k) x d) []
  | 0, x, d, hx => by
    obtain ⟨st, f, fd, ps, F, hm, hbind, hS, hl, hck⟩ := (hd x d hx).ex
    have no : ∀ vs H Q E, spD P w K (run T 0) x d vs H Q E → False := fun vs H Q E ⟨W, ds, r, _, _, _, h, _⟩ => by unfold run at h; cases h
    exact ⟨f, fd, ps, [], ⟨fun vs H Q E h => (no _ _ _ _ h).elim, fun A outer s H args us vs Q E _ _ _ _ h => (no _ _ _ _ h).elim⟩, hm, F.kp, .all hbind, .nil⟩
  | k + 1, x, d, hx => by
    obtain ⟨st, f, fd, ps, F, hm, hbind, hS, hl, hck⟩ := (hd x d hx).ex
    exact ⟨f, fd, ps, [], def_ok hx F hS hl hck hb (all_ok hd hb k) (run_len k), hm, F.kp, .all hbind, .nil⟩
/-- the law's own promise -/
theorem law_ok {k : Nat} {d : Def} {fa : Addr} {x law : Str} (hd : ∀ x d, T x = some d → DefOk K mg T x d) (hb : ∀ y ∈ bltNames, mg y = none) (hx : T law = some d) (hfa : mg law = some (.ref fa)) (hp : d.N.take d.np = [x]) :
    ∃ fd : FuncData, (∀ (s : Shared) (v : Value), BindsTo s fd ⟨[v], []⟩ [(x, v)]) ∧ ∀ base : Heap, K.In base → base.Ns mainGlobals mg → L2.FnOk P w K mg base CX0 (k + 1) fa fd [x] (spD P w K (run T (k + 1)) law d) := by
  obtain ⟨st, f, fd, ps, F, hm, hbind, hS, hl, hck⟩ := (hd law d hx).ex
  have e := hfa.symm.trans hm
  cases e
  have hps : ps = [x] := by rw [← hp, ← hl]; exact hS.pre.symm
  refine ⟨fd, fun s v => .of_eq (by rw [hbind [v] (by rw [hps]; rfl), hps]; rfl), fun base _ _ => ?_⟩
  have r := def_ok (P := P) (w := w) (base := base) hx F hS hl hck hb (all_ok hd hb k) (run_len k)
  rw [hps] at r
  exact r
end
theorem sp_law {P : Program} {w : World} {K : PySem.W.Frag} {T : Str → Option Def} {k : Nat} {d : Def} {law : Str} {n : Nat} (hro : d.ro = .sh) (hnp : d.np = 1) (hlaw : ∀ ns : List Int, ns.length ≤ n → run T k law [.scr ns] = .ok (.bl true)) :
    ∀ (w' : World) (H : Hp) (a : Addr) (ns : List Int), ns.length ≤ n → L2.Only H → SqL K H a (ns.map V.int) → spD P w K (run T k) law d [.ref a] H (fun v _ => v = .bl true) fun _ _ _ => False := by
  intro _ H a ns hn _ hS
  refine ⟨[], [.scr ns], .bl true, (fun a m => nomatch m), .cons (.scr (by rw [hid_nil]; exact hS)) .nil, by rw [hnp]; rfl, hlaw ns hn, fun v H' se r => ?_⟩
  rw [hro] at r
  exact rep_bl r
end MP
/-! Plain words for the laws: loops, sorted texts, equality of plain data. -/
namespace MP
open PySem

theorem run_def {T : Str → Option Def} {k : Nat} {f : Str} {d : Def} {ds : List D} (hT : T f = some d) (hl : ds.length = d.np) : run T (k + 1) f ds = (evalSs (run T k) d.body (ds.map some ++ List.replicate (d.N.length - d.np) none)).bind fun p => match p.1 with
    | .rt v => .ok v
    | .nx => .ok .non
    | _ => .bad := by
  show (match T f with | some d => runBody (run T k) d ds | none => .bad) = _
  rw [hT]
  show runBody (run T k) d ds = _
  unfold runBody
  rw [if_pos hl] <;> rfl
theorem forL_congr {ks : List Nat} {f : D → Env → R (Fl × Env)} : ∀ (xs : List D) {r r' : Env}, killR ks r = killR ks r' → forL ks f xs r = forL ks f xs r'
  | [], r, r', h => by unfold forL; rw [h]
  | x :: xs, r, r', h => by unfold forL; rw [h]
/-- a loop that never leaves: by a fold -/
theorem forL_fold {A : Type} {ks : List Nat} {f : D → Env → R (Fl × Env)} (st : A → Env) (step : A → D → A) : ∀ (xs : List D) (a : A),
    (∀ a x, x ∈ xs → ∃ fl e', f x (killR ks (st a)) = .ok (fl, e') ∧ (fl = .nx ∨ fl = .ct) ∧ killR ks e' = killR ks (st (step a x))) → forL ks f xs (st a) = .ok (.nx, killR ks (st (xs.foldl step a)))
  | [], a, _ => rfl
  | x :: xs, a, h => by
    obtain ⟨fl, e', h1, h2, h3⟩ := h a x List.mem_cons_self
    have ih := forL_fold st step xs (step a x) fun a y m => h a y (List.mem_cons_of_mem _ m)
    rw [List.foldl_cons, ← ih, ← forL_congr xs h3]
    show ((f x (killR ks (st a))).bind _) = _
    rw [h1]
    rcases h2 with rfl | rfl <;> rfl
/-- a loop that never leaves: by what stays true -/
theorem forL_inv {ks : List Nat} {f : D → Env → R (Fl × Env)} (I : Nat → Env → Prop) (xs : List D) (r : Env) (h0 : I 0 (killR ks r))
    (hs : ∀ i x e, xs[i]? = some x → I i e → ∃ fl e', f x e = .ok (fl, e') ∧ (fl = .nx ∨ fl = .ct) ∧ I (i + 1) (killR ks e')) : ∃ e, forL ks f xs r = .ok (.nx, e) ∧ I xs.length e := by
  suffices ∀ (ys : List D) (i : Nat) (r : Env), xs.drop i = ys → i + ys.length = xs.length → I i (killR ks r) → ∃ e, forL ks f ys r = .ok (.nx, e) ∧ I xs.length e from this xs 0 r rfl (by simp) h0
  intro ys
  induction ys with
  | nil =>
    intro i r hd hl hI
    simp at hl
    subst hl
    exact ⟨_, rfl, hI⟩
  | cons y ys ih =>
    intro i r hd hl hI
    have hy : xs[i]? = some y := by
      have := congrArg (·[0]?) hd
      simpa using this
    obtain ⟨fl, e', h1, h2, h3⟩ := hs i y _ hy hI
    obtain ⟨e, h4, h5⟩ := ih (i + 1) e' (by rw [← List.drop_drop, hd]; rfl) (by simp at hl ⊢; omega) h3
    refine ⟨e, ?_, h5⟩
    show ((f y (killR ks r)).bind _) = _
    rw [h1]
    rcases h2 with rfl | rfl <;> exact h4
/-- a search: the first item at which the loop leaves with an answer -/
theorem forL_find {ks : List Nat} {f : D → Env → R (Fl × Env)} {r0 : Env} (p : D → Bool) (v : D) : ∀ (xs : List D) (r : Env), killR ks r = r0 →
    (∀ x, x ∈ xs → ∃ fl e', f x r0 = .ok (fl, e') ∧ (if p x then fl = .rt v else (fl = .nx ∨ fl = .ct) ∧ killR ks e' = r0)) → ∃ e, forL ks f xs r = .ok (if xs.any p then .rt v else .nx, e) ∧ (xs.any p = false → e = r0)
  | [], r, h, _ => ⟨r0, by unfold forL; rw [h]; rfl, fun _ => rfl⟩
  | x :: xs, r, h, hs => by
    obtain ⟨fl, e', h1, h2⟩ := hs x List.mem_cons_self
    by_cases hp : p x = true
    · rw [if_pos hp] at h2
      subst h2
      refine ⟨e', ?_, fun z => by rw [List.any_cons, hp] at z; cases z⟩
      show ((f x (killR ks r)).bind _) = _
      rw [h, h1, List.any_cons, hp]
      rfl
    · rw [if_neg hp] at h2
      obtain ⟨h2, h3⟩ := h2
      obtain ⟨e, h4, h5⟩ := forL_find p v xs e' h3 fun y m => hs y (List.mem_cons_of_mem _ m)
      have hp' : p x = false := by simpa using hp
      refine ⟨e, ?_, fun z => h5 (by rw [List.any_cons, hp'] at z; exact z)⟩
      show ((f x (killR ks r)).bind _) = _
      rw [h, h1, List.any_cons, hp']
      rcases h2 with rfl | rfl <;> exact h4
/-- a comprehension by what each turn gives -/
theorem compL_map {f : D → R (Option D)} {g : D → D} {p : D → Bool} : ∀ (xs : List D), (∀ x ∈ xs, f x = .ok (if p x then some (g x) else none)) → compL f xs = .ok ((xs.filter p).map g)
  | [], _ => rfl
  | x :: xs, h => by
    unfold compL
    rw [h x List.mem_cons_self, compL_map xs fun y m => h y (List.mem_cons_of_mem _ m)]
    by_cases hp : p x = true
    · simp [hp]
    · simp [hp]

/-! ### a suite, statement by statement -/
section
variable {F : Orc} {s : IS} {ss a b : ISs} {e c : IE} {r r1 : Env} {d : D} {i : Nat} {g : IG} {it : II} {ks : List Nat} {xs : List D} {fl : Fl}
theorem ev_nx (h : evalS F s r = .ok (.nx, r1)) : evalSs F (.cons s ss) r = evalSs F ss r1 := by rw [evalSs, h]; rfl
theorem ev_rt (h : evalS F s r = .ok (.rt d, r1)) : evalSs F (.cons s ss) r = .ok (.rt d, r1) := by rw [evalSs, h]; rfl
theorem ev_asg (h : evalE F e r = .ok d) : evalS F (.asg (.nm i) e) r = .ok (.nx, r.set i (some d)) := by rw [evalS, h]; rfl
theorem ev_ret (h : evalE F e r = .ok d) : evalS F (.ret e) r = .ok (.rt d, r) := by rw [evalS, h]; rfl
theorem ev_loop (h : evalI F it r = .ok xs) : evalS F (.loop g it ks a) r = forL ks (fun x r => (asgG g x r).bind fun r' => evalSs F a r') xs r := by rw [evalS, h]; rfl
theorem ev_tt (h : evalE F c r = .ok (.bl true)) : evalS F (.ifs c a b) r = evalSs F a r := by rw [evalS, h]; rfl
theorem ev_ff (h : evalE F c r = .ok (.bl false)) : evalS F (.ifs c a b) r = evalSs F b r := by rw [evalS, h]; rfl
end
/-! ### .. by what is wanted behind it -/
def Ev (F : Orc) (ss : ISs) (r : Env) (Q : Fl → Env → Prop) : Prop := ∃ fl r', evalSs F ss r = .ok (fl, r') ∧ Q fl r'
def Then (F : Orc) (ss : ISs) (Q : Fl → Env → Prop) : Fl → Env → Prop
  | .nx, r => Ev F ss r Q
  | fl, r => Q fl r
section
variable {F : Orc} {s : IS} {ss a b : ISs} {e c : IE} {r r1 : Env} {d : D} {i : Nat} {g : IG} {it : II} {ks : List Nat} {xs : List D} {fl : Fl} {Q : Fl → Env → Prop}
theorem Ev.nil (q : Q .nx r) : Ev F .nil r Q := ⟨.nx, r, by rw [evalSs], q⟩
theorem Ev.step (h : evalS F s r = .ok (.nx, r1)) (k : Ev F ss r1 Q) : Ev F (.cons s ss) r Q := by
  obtain ⟨fl, r', h2, q⟩ := k
  exact ⟨fl, r', (ev_nx h).trans h2, q⟩
theorem Ev.asg (h : evalE F e r = .ok d) (k : Ev F ss (r.set i (some d)) Q) : Ev F (.cons (.asg (.nm i) e) ss) r Q := Ev.step (ev_asg h) k
theorem Ev.ret (h : evalE F e r = .ok d) (q : Q (.rt d) r) : Ev F (.cons (.ret e) ss) r Q := ⟨.rt d, r, ev_rt (ev_ret h), q⟩
theorem Ev.tt (h : evalE F c r = .ok (.bl true)) (k : Ev F a r (Then F ss Q)) : Ev F (.cons (.ifs c a b) ss) r Q := by
  obtain ⟨fl, r', h2, q⟩ := k
  have h3 := (ev_tt (b := b) h).trans h2
  cases fl with
  | nx => exact Ev.step h3 q
  | rt v => exact ⟨_, _, by rw [evalSs, h3]; rfl, q⟩
  | ct => exact ⟨_, _, by rw [evalSs, h3]; rfl, q⟩
  | bk => exact ⟨_, _, by rw [evalSs, h3]; rfl, q⟩
theorem Ev.ff (h : evalE F c r = .ok (.bl false)) (k : Ev F b r (Then F ss Q)) : Ev F (.cons (.ifs c a b) ss) r Q := by
  obtain ⟨fl, r', h2, q⟩ := k
  have h3 := (ev_ff (a := a) h).trans h2
  cases fl with
  | nx => exact Ev.step h3 q
  | rt v => exact ⟨_, _, by rw [evalSs, h3]; rfl, q⟩
  | ct => exact ⟨_, _, by rw [evalSs, h3]; rfl, q⟩
  | bk => exact ⟨_, _, by rw [evalSs, h3]; rfl, q⟩
theorem Ev.app {x : Nat} {v : D} (h1 : varE x r = .ok (.lst xs)) (h2 : evalE F e r = .ok v) (h3 : xs.length < lim) (k : Ev F ss (r.set x (some (.lst (xs ++ [v])))) Q) : Ev F (.cons (.app x e) ss) r Q :=
  Ev.step (by rw [evalS, h1]; simp only [R.bind_ok, lstOf]; rw [h2]; simp only [R.bind_ok]; rw [if_pos h3]) k
theorem Ev.loop (I : Nat → Env → Prop) (hit : evalI F it r = .ok xs) (h0 : I 0 (killR ks r))
    (hs : ∀ i x e, xs[i]? = some x → I i e → ∃ e', asgG g x e = .ok e' ∧ Ev F a e' fun fl e2 => (fl = .nx ∨ fl = .ct) ∧ I (i + 1) (killR ks e2))
    (k : ∀ e, I xs.length e → Ev F ss e Q) : Ev F (.cons (.loop g it ks a) ss) r Q := by
  obtain ⟨e, he, hI⟩ := forL_inv (ks := ks) (f := fun x r => (asgG g x r).bind fun r' => evalSs F a r') I xs r h0 fun i x e hx hI => by
    obtain ⟨e', h1, fl, e2, h2, h3, h4⟩ := hs i x e hx hI
    exact ⟨fl, e2, by rw [h1]; exact h2, h3, h4⟩
  exact Ev.step ((ev_loop hit).trans he) (k e hI)
/-- a loop that searches: leaves with v at the first item with p -/
theorem Ev.find (p : D → Bool) (v : D) (hit : evalI F it r = .ok xs)
    (hs : ∀ x, x ∈ xs → ∃ e', asgG g x (killR ks r) = .ok e' ∧ Ev F a e' fun fl e2 => if p x then fl = .rt v else (fl = .nx ∨ fl = .ct) ∧ killR ks e2 = killR ks r)
    (k1 : xs.any p = true → ∀ e, Q (.rt v) e) (k2 : xs.any p = false → Ev F ss (killR ks r) Q) : Ev F (.cons (.loop g it ks a) ss) r Q := by
  obtain ⟨e, he, hI⟩ := forL_find (ks := ks) (f := fun x r => (asgG g x r).bind fun r' => evalSs F a r') (r0 := killR ks r) p v xs r rfl fun x hx => by
    obtain ⟨e', h1, fl, e2, h2, h3⟩ := hs x hx
    exact ⟨fl, e2, by rw [h1]; exact h2, h3⟩
  have h3 := (ev_loop (F := F) (a := a) (g := g) (ks := ks) hit).trans he
  cases ha : xs.any p with
  | true =>
    rw [ha] at h3
    exact ⟨.rt v, e, ev_rt h3, k1 ha e⟩
  | false =>
    rw [ha] at h3
    have := hI ha
    subst this
    exact Ev.step h3 (k2 ha)
end
theorem ev_comp {F : Orc} {g : IG} {it : II} {c : IO} {e : IE} {r : Env} {xs ys : List D} (h1 : evalI F it r = .ok xs) (h2 : compL (fun x => (asgG g x r).bind fun r' => (evalC F c r').bind fun b => if b then (evalE F e r').bind fun y => .ok (some y) else .ok none) xs = .ok ys) (h3 : ys.length ≤ lim) :
    evalE F (.comp g it c e) r = .ok (.lst ys) := by
  rw [evalE, h1]
  show ((compL _ xs).bind _) = _
  rw [h2]
  show (if _ then _ else _) = _
  rw [if_pos h3]
theorem idx_lst {xs : List D} {i : Int} (h0 : 0 ≤ i) (h1 : i < xs.length) : ∃ x, xs[i.toNat]? = some x ∧ idxD (.lst xs) (.int i) = .ok x := by
  have hl : i.toNat < xs.length := by omega
  refine ⟨xs[i.toNat], List.getElem?_eq_getElem hl, ?_⟩
  show atD xs i = _
  unfold atD
  rw [if_pos h0, List.getElem?_eq_getElem hl]
  rfl
/-- a def's answer -/
theorem run_ev {T : Str → Option Def} {k : Nat} {f : Str} {d : Def} {ds : List D} {P : D → Prop} (hT : T f = some d) (hl : ds.length = d.np) (h : Ev (run T k) d.body (ds.map some ++ List.replicate (d.N.length - d.np) none) fun fl _ => ∃ v, fl = .rt v ∧ P v) : ∃ v, run T (k + 1) f ds = .ok v ∧ P v := by
  obtain ⟨fl, r', h1, v, rfl, hp⟩ := h
  exact ⟨v, by rw [run_def hT hl, h1]; rfl, hp⟩
theorem run_rt {T : Str → Option Def} {k : Nat} {f : Str} {d : Def} {ds : List D} {v : D} {r : Env} (hT : T f = some d) (hl : ds.length = d.np) (h : evalSs (run T k) d.body (ds.map some ++ List.replicate (d.N.length - d.np) none) = .ok (.rt v, r)) : run T (k + 1) f ds = .ok v := by
  rw [run_def hT hl, h]; rfl
theorem ite_if {c : Prop} [Decidable c] {α : Type} {a : α} (h : c) : (if c then R.ok a else R.bad) = R.ok a := if_pos h
theorem bind_of {α β : Type} {x : R α} {a : α} {f : α → R β} (h : x = .ok a) : x.bind f = f a := by rw [h]; rfl

theorem eqD_str (a b : Str) : eqD (.str a) (.str b) = .ok (decide (a = b)) := by
  have e1 : eqD (.str a) (.str b) = (if MP.plain (.str a) && MP.plain (.str b) then .ok (decide (D.str a = D.str b)) else .bad) := rfl
  rw [e1]
  simp [MP.plain, plainN]
theorem eqD_int (a b : Int) : eqD (.int a) (.int b) = .ok (decide (a = b)) := by
  have e1 : eqD (.int a) (.int b) = (if MP.plain (.int a) && MP.plain (.int b) then .ok (decide (D.int a = D.int b)) else .bad) := rfl
  rw [e1]
  simp [MP.plain, plainN]
/-! ### sorted texts -/
theorem strs_ok (l : List Str) : sortOk (l.map .str) = true := by
  unfold sortOk
  rw [Bool.or_eq_true]
  right
  rw [List.all_eq_true]
  intro d hd
  obtain ⟨s, _, rfl⟩ := List.mem_map.mp hd
  simp only [Bool.and_eq_true, List.all_eq_true]
  refine ⟨⟨⟨⟨rfl, rfl⟩, rfl⟩, rfl⟩, fun e he => ?_⟩
  obtain ⟨t, _, rfl⟩ := List.mem_map.mp he
  exact ⟨⟨rfl, rfl⟩, rfl⟩
theorem plain_strs {l : List Str} : ∀ d ∈ l.map D.str, plainN 30 d = true := fun d hd => by
  obtain ⟨s, _, rfl⟩ := List.mem_map.mp hd
  rfl
theorem sortL_mem {xs : List D} {d : D} : d ∈ sortL xs ↔ d ∈ xs := (sortL_perm xs).mem_iff
/-- one set, sorted, picked: one list -/
theorem sort_pick {xs ys : List D} {p q : D → Bool} (hx : ∀ d ∈ xs, plainN 30 d = true) (hy : ∀ d ∈ ys, plainN 30 d = true) (h : (xs.filter p).Perm (ys.filter q)) : (sortL xs).filter p = (sortL ys).filter q := by
  have O := ord_plain 30
  have px : ((sortL xs).filter p).Perm (xs.filter p) := (sortL_perm xs).filter p
  have py : ((sortL ys).filter q).Perm (ys.filter q) := (sortL_perm ys).filter q
  refine srtd_uniq O (fun x hm => ?_) (px.trans (h.trans py.symm)) ?_ ?_
  · exact hx x (sortL_mem.mp (List.mem_filter.mp hm).1)
  · exact (sortL_srtd O hx).filter _
  · exact (sortL_srtd O hy).filter _
end MP
/-! Rows of a stand as data: a table's name and cells, each a blank of a number or a name. -/
namespace MP
open PySem

inductive Cell where | blank (n : Int) | name (s : Str)
  deriving DecidableEq
abbrev Row := Str × List Cell
def cD : Cell → D
  | .blank n => .tup [.str "blank", .int n]
  | .name s => .tup [.str "name", .str s]
def rD (r : Row) : D := .tup [.str r.1, .tup (r.2.map cD)]
theorem cD_inj {a b : Cell} : cD a = cD b ↔ a = b := by
  constructor
  · intro h
    cases a <;> cases b <;> simp [cD] at h <;> first | (rw [h]; done) | (exact absurd h.1 (by decide)) | (exact absurd h (by decide))
  · rintro rfl; rfl
theorem map_inj {α : Type} {f : α → D} (hf : ∀ {a b : α}, f a = f b ↔ a = b) : ∀ {xs ys : List α}, xs.map f = ys.map f ↔ xs = ys
  | [], [] => by simp
  | [], _ :: _ => by simp
  | _ :: _, [] => by simp
  | x :: xs, y :: ys => by
    rw [List.map_cons, List.map_cons, List.cons.injEq, List.cons.injEq, hf, map_inj hf]
theorem rD_inj {a b : Row} : rD a = rD b ↔ a = b := by
  constructor
  · intro h
    unfold rD at h
    simp only [D.tup.injEq, List.cons.injEq, D.str.injEq, and_true] at h
    exact Prod.ext h.1 ((map_inj cD_inj).mp h.2)
  · rintro rfl; rfl
theorem plN_str (n : Nat) (s : Str) : plainN n (.str s) = true := by cases n <;> rfl
theorem plN_int (n : Nat) (s : Int) : plainN n (.int s) = true := by cases n <;> rfl
theorem plN_cD (n : Nat) (c : Cell) : plainN (n + 1) (cD c) = true := by
  cases c <;> (unfold cD; rw [plainN]; simp [plN_str, plN_int])
theorem plN_rD (n : Nat) (r : Row) : plainN (n + 3) (rD r) = true := by
  unfold rD
  rw [plainN]
  simp only [List.all_cons, List.all_nil, plN_str, Bool.true_and, Bool.and_true]
  rw [plainN, List.all_eq_true]
  intro d hd
  obtain ⟨t, _, rfl⟩ := List.mem_map.mp hd
  exact plN_cD n t
theorem plN_rows (n : Nat) (rs : List Row) : plainN (n + 4) (.lst (rs.map rD)) = true := by
  rw [plainN, List.all_eq_true]
  intro d hd
  obtain ⟨p, _, rfl⟩ := List.mem_map.mp hd
  exact plN_rD n p
theorem eqD_plain {a b : D} (ha : MP.plain a = true) (hb : MP.plain b = true) : eqD a b = .ok (decide (a = b)) := by
  have e1 : eqD a b = (if MP.plain a && MP.plain b then .ok (decide (a = b)) else .bad) := by
    cases a <;> first | rfl | (cases b <;> first | rfl | (simp [MP.plain, plainN] at ha; done) | (simp [MP.plain, plainN] at hb; done))
  rw [e1, ha, hb]; rfl
def Oks (r : R Bool) : Prop := ∃ b, r = .ok b
theorem ltGo_cons {n : Nat} {x y : D} {xs ys : List D} (hx : MP.plain x = true) (hy : MP.plain y = true) (h1 : x = y → Oks (ltGo n xs ys)) (h2 : x ≠ y → Oks (ltN n x y)) : Oks (ltGo n (x :: xs) (y :: ys)) := by
  rw [ltGo, eqD_plain hx hy]
  by_cases h : x = y
  · rw [decide_eq_true h]; exact h1 h
  · rw [decide_eq_false h]; exact h2 h
theorem ltN_str (n : Nat) (a b : Str) : Oks (ltN n (.str a) (.str b)) := by cases n <;> exact ⟨_, rfl⟩
theorem ltN_int (n : Nat) (a b : Int) : Oks (ltN n (.int a) (.int b)) := by cases n <;> exact ⟨_, rfl⟩
theorem ltGo_nil (n : Nat) : Oks (ltGo n [] []) := ⟨false, by rw [ltGo]⟩
theorem ltN_cD (n : Nat) (a b : Cell) : Oks (ltN (n + 1) (cD a) (cD b)) := by
  cases a <;> cases b <;> (show Oks (ltGo n _ _)) <;> refine ltGo_cons rfl rfl (fun h => ?_) (fun _ => ltN_str n _ _)
  · exact ltGo_cons rfl rfl (fun _ => ltGo_nil n) fun _ => ltN_int n _ _
  · exact absurd h (by decide)
  · exact absurd h (by decide)
  · exact ltGo_cons rfl rfl (fun _ => ltGo_nil n) fun _ => ltN_str n _ _
theorem ltGo_cells (n : Nat) : ∀ xs ys : List Cell, Oks (ltGo (n + 1) (xs.map cD) (ys.map cD))
  | [], [] => ltGo_nil _
  | [], _ :: _ => ⟨true, by rw [List.map_nil, List.map_cons, ltGo]⟩
  | _ :: _, [] => ⟨false, by rw [List.map_nil, List.map_cons, ltGo]⟩
  | x :: xs, y :: ys => ltGo_cons (plN_cD 29 x) (plN_cD 29 y) (fun _ => ltGo_cells n xs ys) fun _ => ltN_cD n x y
theorem plN_cells (n : Nat) (cs : List Cell) : plainN (n + 2) (.tup (cs.map cD)) = true := by
  rw [plainN, List.all_eq_true]
  intro d hd
  obtain ⟨t, _, rfl⟩ := List.mem_map.mp hd
  exact plN_cD n t
theorem cmp_rows (a b : Row) : cmpOk (rD a) (rD b) = true := by
  have h : Oks (ltD (rD a) (rD b)) := by
    show Oks (ltGo 29 [.str a.1, .tup (a.2.map cD)] [.str b.1, .tup (b.2.map cD)])
    refine ltGo_cons rfl rfl (fun _ => ?_) (fun _ => ltN_str _ _ _)
    refine ltGo_cons (plN_cells 28 _) (plN_cells 28 _) (fun _ => ltGo_nil _) fun _ => ?_
    exact ltGo_cells 27 _ _
  obtain ⟨b, h⟩ := h
  unfold cmpOk
  rw [h]
theorem sort_rows (rs : List Row) : sortOk (rs.map rD) = true := by
  unfold sortOk
  rw [Bool.or_eq_true]
  right
  rw [List.all_eq_true]
  intro d hd
  obtain ⟨s, _, rfl⟩ := List.mem_map.mp hd
  simp only [Bool.and_eq_true, List.all_eq_true]
  refine ⟨⟨⟨⟨rfl, rfl⟩, rfl⟩, plN_rD 27 s⟩, fun e he => ?_⟩
  obtain ⟨t, _, rfl⟩ := List.mem_map.mp he
  exact ⟨⟨rfl, rfl⟩, cmp_rows s t⟩
theorem sort_ints (l : List Int) : sortOk (l.map .int) = true := by
  unfold sortOk
  rw [Bool.or_eq_true]
  right
  rw [List.all_eq_true]
  intro d hd
  obtain ⟨s, _, rfl⟩ := List.mem_map.mp hd
  simp only [Bool.and_eq_true, List.all_eq_true]
  refine ⟨⟨⟨⟨rfl, rfl⟩, rfl⟩, rfl⟩, fun e he => ?_⟩
  obtain ⟨t, _, rfl⟩ := List.mem_map.mp he
  exact ⟨⟨rfl, rfl⟩, rfl⟩
theorem in_plain {x : D} {ys : List D} (hx : MP.plain x = true) (hy : ys.all MP.plain = true) (hs : ∀ s, x ≠ .str s ∨ True) : inD x (.lst ys) = .ok (ys.any fun y => y == x) := by
  have e1 : inD x (.lst ys) = (if MP.plain x && ys.all MP.plain then .ok (ys.any fun y => y == x) else .bad) := by cases x <;> rfl
  rw [e1, hx, hy]; rfl
theorem in_plainT {x : D} {ys : List D} (hx : MP.plain x = true) (hy : ys.all MP.plain = true) : inD x (.tup ys) = .ok (ys.any fun y => y == x) := by
  have e1 : inD x (.tup ys) = (if MP.plain x && ys.all MP.plain then .ok (ys.any fun y => y == x) else .bad) := by cases x <;> rfl
  rw [e1, hx, hy]; rfl
theorem any_map {α : Type} {f : α → D} (hf : ∀ {a b : α}, f a = f b ↔ a = b) (xs : List α) (x : α) [Decidable (x ∈ xs)] : ((xs.map f).any fun y => y == f x) = decide (x ∈ xs) := by
  rw [Bool.eq_iff_iff, List.any_eq_true, decide_eq_true_eq]
  constructor
  · rintro ⟨d, hd, he⟩
    obtain ⟨t, ht, rfl⟩ := List.mem_map.mp hd
    have := hf.mp (eq_of_beq he)
    subst this
    exact ht
  · intro h
    exact ⟨_, List.mem_map.mpr ⟨x, h, rfl⟩, beq_self_eq_true _⟩
end MP
/-! Defs that many laws share, each with what it answers. -/
namespace LC
open PySem MP

theorem fmod_nat (m : Int) (n : Nat) (hn : 0 < n) : ∃ a : Nat, a < n ∧ m.fmod n = a := by
  have h1 : 0 ≤ m.fmod n := Int.fmod_nonneg_of_pos _ (by omega)
  have h2 : m.fmod n < n := Int.fmod_lt_of_pos _ (by omega)
  exact ⟨(m.fmod n).toNat, by omega, by omega⟩
theorem rng_get {n i : Nat} {x : D} (h : ((List.range n).map fun (i : Nat) => D.int i)[i]? = some x) : i < n ∧ x = .int i := by
  rw [List.getElem?_map] at h
  obtain ⟨j, hj, rfl⟩ := Option.map_eq_some_iff.mp h
  obtain ⟨hlt, hj⟩ := List.getElem?_eq_some_iff.mp hj
  rw [List.getElem_range] at hj
  subst hj
  exact ⟨by simpa using hlt, rfl⟩
theorem rng_mem {n : Nat} {x : D} (h : x ∈ (List.range n).map fun (i : Nat) => D.int i) : ∃ i : Nat, i < n ∧ x = .int i := by
  obtain ⟨i, hi, rfl⟩ := List.mem_map.mp h
  exact ⟨i, List.mem_range.mp hi, rfl⟩
theorem mulOk_r {i j : Int} (h1 : -18446744073709551616 < j) (h2 : j < 18446744073709551616) : mulOk i j = true := by
  simp only [mulOk, Bool.or_eq_true, Bool.and_eq_true, decide_eq_true_eq]; exact .inr ⟨h1, h2⟩
theorem compL_all {f : D → R (Option D)} {P : D → Prop} : ∀ (xs : List D), (∀ x ∈ xs, ∃ y, f x = .ok (some y) ∧ P y) → ∃ ys, compL f xs = .ok ys ∧ ys.length = xs.length ∧ ∀ y ∈ ys, P y
  | [], _ => ⟨[], rfl, rfl, fun _ h => nomatch h⟩
  | x :: xs, h => by
    obtain ⟨y, h1, h2⟩ := h x List.mem_cons_self
    obtain ⟨ys, h3, h4, h5⟩ := compL_all xs fun x m => h x (List.mem_cons_of_mem _ m)
    refine ⟨y :: ys, ?_, by simp [h4], fun z hz => ?_⟩
    · unfold compL; rw [h1, h3]; rfl
    · rcases List.mem_cons.mp hz with rfl | hz
      · exact h2
      · exact h5 z hz
/-- data that are all of a form -/
theorem as_map {α : Type} {f : α → D} {P : α → Prop} : ∀ {ys : List D}, (∀ y ∈ ys, ∃ a, y = f a ∧ P a) → ∃ as : List α, ys = as.map f ∧ ∀ a ∈ as, P a
  | [], _ => ⟨[], rfl, fun _ h => nomatch h⟩
  | y :: ys, h => by
    obtain ⟨a, rfl, ha⟩ := h y List.mem_cons_self
    obtain ⟨as, rfl, has⟩ := as_map fun y m => h y (List.mem_cons_of_mem _ m)
    exact ⟨a :: as, rfl, fun b hb => (List.mem_cons.mp hb).elim (fun e => e ▸ ha) (has b)⟩
theorem idx_map {α : Type} {f : α → D} {xs : List α} {i : Int} (h0 : 0 ≤ i) (h1 : i < xs.length) : ∃ a, a ∈ xs ∧ xs[i.toNat]? = some a ∧ idxD (.lst (xs.map f)) (.int i) = .ok (f a) := by
  obtain ⟨x, hx, e⟩ := idx_lst (xs := xs.map f) h0 (by rw [List.length_map]; exact h1)
  rw [List.getElem?_map] at hx
  obtain ⟨a, ha, rfl⟩ := Option.map_eq_some_iff.mp hx
  exact ⟨a, List.mem_of_getElem? ha, ha, e⟩
theorem idx_str {s : Str} {i : Int} (h0 : 0 ≤ i) (h1 : i < s.length) : ∃ t : Str, t.length = 1 ∧ idxD (.str s) (.int i) = .ok (.str t) := by
  have hl : i.toNat < s.cps.toList.length := by
    have : s.length = s.cps.size := rfl
    rw [Array.length_toList]; omega
  refine ⟨⟨#[s.cps.toList[i.toNat]]⟩, rfl, ?_⟩
  show (atD s.cps.toList i).bind _ = _
  unfold atD
  rw [if_pos h0, List.getElem?_eq_getElem hl]
  rfl

theorem ev_me1 {F : Orc} {m : ME} {a b : IE} {r : MP.Env} {x y : D} (h1 : evalE F a r = .ok x) (h2 : evalE F b r = .ok y) : evalE F (.me m a (.cons b .nil)) r = meD m x [y] := by
  rw [evalE, h1, evalEs, h2, evalEs] <;> rfl

/-! ### mix -/
def dMix : MP.Def := { np := 2, N := ["_law_cell", "_law_j", "_law_number"], own := [.sh, .sh, .sh], ro := .sh, body := (.cons (.asg (.nm 2) (.bin .mod (.bin .add (.bin .mul (.var 0) (.bin .add (.bin .mul (.int 2) (.var 1)) (.int 3))) (.var 1)) (.int 2147483629))) (.cons (.ret (.bin .mod (.bin .mul (.bin .add (.bin .mul (.var 2) (.var 2)) (.int 1)) (.int 48271)) (.int 2147483629))) .nil)) }
def mix (c j : Int) : Int := let n := (c * (2 * j + 3) + j).fmod 2147483629; ((n * n + 1) * 48271).fmod 2147483629
section
variable {T : Str → Option Def}
theorem mix_ok (hT : T "_law_mix" = some dMix) (k : Nat) (c j : Int) (h1 : -1000000 < j) (h2 : j < 1000000) : run T (k + 1) "_law_mix" [.int c, .int j] = .ok (.int (mix c j)) := by
  rw [run_def hT rfl]
  simp only [dMix]
  have m1 : mulOk 2 j = true := by simp [mulOk]
  have m2 : mulOk c (2 * j + 3) = true := mulOk_r (by omega) (by omega)
  have n1 : 0 ≤ (c * (2 * j + 3) + j).fmod 2147483629 := Int.fmod_nonneg_of_pos _ (by decide)
  have n2 : (c * (2 * j + 3) + j).fmod 2147483629 < 2147483629 := Int.fmod_lt_of_pos _ (by decide)
  generalize hn : (c * (2 * j + 3) + j).fmod 2147483629 = n at n1 n2
  have m3 : mulOk n n = true := mulOk_r (by omega) (by omega)
  have m4 : mulOk (n * n + 1) 48271 = true := mulOk_r (by decide) (by decide)
  simp [evalSs, evalS, evalE, varE, asgG, binD, m1, m2, m3, m4, hn, mix]
theorem mix_nonneg (c j : Int) : 0 ≤ mix c j := Int.fmod_nonneg_of_pos _ (by decide)
theorem mix_lt (c j : Int) : mix c j < 2147483629 := Int.fmod_lt_of_pos _ (by decide)

/-! ### words -/
def abc : Str := "abcdefghijklmnopqrstuvwxyz"
def dWords : MP.Def := { np := 1, N := ["_law_cell", "_law_letters", "_law_size", "_law_stem", "_law_at", "_law_found", "_law_k", "_law_sign"], own := [.sh, .sh, .sh, .sh, .sh, .li, .sh, .sh], ro := .li, body := (.cons (.asg (.nm 1) (.str "abcdefghijklmnopqrstuvwxyz")) (.cons (.asg (.nm 2) (.bin .add (.int 2) (.bin .mod (.call "_law_mix" (.cons (.var 0) (.cons (.int 1) .nil))) (.int 6)))) (.cons (.asg (.nm 3) (.me .join (.str "") (.cons (.comp (.nm 6) (.rng1 (.var 2)) .no (.idx (.var 1) (.bin .mod (.call "_law_mix" (.cons (.var 0) (.cons (.bin .add (.int 2) (.var 6)) .nil))) (.int 26)))) .nil))) (.cons (.asg (.nm 4) (.bin .mod (.call "_law_mix" (.cons (.var 0) (.cons (.int 9) .nil))) (.var 2))) (.cons (.asg (.nm 5) (.lst .nil)) (.cons (.loop (.nm 6) (.rng1 (.int 4)) [6, 7] (.cons (.asg (.nm 7) (.idx (.var 1) (.bin .mod (.bin .add (.me .find (.var 1) (.cons (.idx (.var 3) (.var 4)) .nil)) (.bin .mul (.int 7) (.var 6))) (.int 26)))) (.cons (.app 5 (.bin .add (.bin .add (.sl (.var 3) .no (.yes (.var 4))) (.var 7)) (.sl (.var 3) (.yes (.bin .add (.var 4) (.int 1))) .no))) .nil))) (.cons (.ret (.bin .cat (.var 5) (.lst (.cons (.bin .add (.var 3) (.idx (.var 1) (.bin .mod (.call "_law_mix" (.cons (.var 0) (.cons (.int 10) .nil))) (.int 26)))) (.cons (.sl (.var 3) .no (.yes (.bin .sub (.var 2) (.int 1)))) .nil))))) .nil))))))) }
theorem letter_at (m : Int) : ∃ t : Str, t.length = 1 ∧ idxD (.str abc) (.int (m.fmod 26)) = .ok (.str t) :=
  idx_str (Int.fmod_nonneg_of_pos _ (by decide)) (by have := Int.fmod_lt_of_pos m (b := 26) (by decide); have e : abc.length = 26 := by decide +kernel
                                                     rw [e]; exact this)
theorem strsOf_map' (l : List Str) : strsOf (l.map .str) = some l := by
  induction l with
  | nil => rfl
  | cons n ns ih => show (strsOf (ns.map .str)).map _ = _; rw [ih]; rfl
theorem sum_ones : ∀ (l : List Str), (∀ s ∈ l, s.length = 1) → (l.map (·.length)).sum = l.length
  | [], _ => rfl
  | s :: l, h => by
    rw [List.map_cons, List.sum_cons, sum_ones l fun t m => h t (List.mem_cons_of_mem _ m), h s List.mem_cons_self, List.length_cons]
    omega
theorem joinL_one : ∀ parts : List (List Nat), (TL.joinL [] parts).length = (parts.map (·.length)).sum
  | [] => by simp [TL.joinL]
  | [p] => by simp [TL.joinL]
  | p :: p2 :: r => by
    have ih := joinL_one (p2 :: r)
    simp only [TL.joinL, List.length_append, List.map_cons, List.sum_cons, List.length_nil] at ih ⊢
    omega
theorem join_size (ys : List Str) : (Txt.join "" ys).length = (ys.map (·.length)).sum := by
  rw [TL.join_eq, TL.len_tl, TL.tl_join]
  have e0 : TL.tl "" = [] := by decide +kernel
  rw [e0, joinL_one, List.map_map]
  have e : ((fun l : List Nat => l.length) ∘ TL.tl) = fun y : Str => y.length := by funext y; exact (TL.len_tl y).symm
  rw [e]
theorem add_strs {a b : Str} (h : a.length + b.length ≤ 1000) : binD .add (.str a) (.str b) = .ok (.str (a ++ b)) ∧ (a ++ b).length = a.length + b.length := by
  refine ⟨?_, PySem.Str.length_append ..⟩
  show (if _ then _ else _) = _
  rw [if_pos]
  show _ ≤ 16777216
  omega
theorem words_ok (hM : T "_law_mix" = some dMix) (hT : T "_law_words" = some dWords) (k : Nat) (c : Int) : ∃ W : List Str, W.length = 6 ∧ (∀ s ∈ W, s.length ≤ 20) ∧ run T (k + 2) "_law_words" [.int c] = .ok (.lst (W.map .str)) := by
  have key : ∃ v, run T (k + 2) "_law_words" [.int c] = .ok v ∧ ∃ W : List Str, v = .lst (W.map .str) ∧ W.length = 6 ∧ ∀ s ∈ W, s.length ≤ 20 := by
    refine run_ev hT rfl ?_
    show Ev (run T (k + 1)) dWords.body [some (.int c), none, none, none, none, none, none, none] _
    refine Ev.asg (d := .str abc) (by rw [evalE]; rfl) ?_
    obtain ⟨q, hq, eq⟩ := fmod_nat (mix c 1) 6 (by decide)
    have eq' : (mix c 1).fmod 6 = q := eq
    have m1 := mix_ok hM k c 1 (by decide) (by decide)
    refine Ev.asg (d := .int (2 + q)) (by simp [evalE, evalEs, varE, binD, m1, eq']) ?_
    show Ev _ _ [some (.int c), some (.str abc), some (.int (2 + q)), none, none, none, none, none] _
    -- the stem
    have hcomp : ∃ ys, compL (fun x => (asgG (.nm 6) x [some (.int c), some (.str abc), some (.int (2 + q)), none, none, none, none, none]).bind fun r' => (evalC (run T (k + 1)) .no r').bind fun b =>
        if b then (evalE (run T (k + 1)) (.idx (.var 1) (.bin .mod (.call "_law_mix" (.cons (.var 0) (.cons (.bin .add (.int 2) (.var 6)) .nil))) (.int 26))) r').bind fun y => .ok (some y) else .ok none) ((List.range (q + 2)).map fun (i : Nat) => D.int i) = .ok ys ∧
        ys.length = ((List.range (q + 2)).map fun (i : Nat) => D.int i).length ∧ ∀ y ∈ ys, ∃ t : Str, y = .str t ∧ t.length = 1 := by
      refine compL_all _ fun x hx => ?_
      obtain ⟨i, hi, rfl⟩ := rng_mem hx
      have m2 := mix_ok hM k c (2 + i) (by omega) (by omega)
      obtain ⟨t, ht, et⟩ := letter_at (mix c (2 + i))
      exact ⟨.str t, by simp [asgG, evalC, evalE, evalEs, varE, binD, m2, et], t, rfl, ht⟩
    obtain ⟨ys, hys, hyl, hyp⟩ := hcomp
    obtain ⟨ts, rfl, hts⟩ := as_map hyp
    rw [List.length_map, List.length_map, List.length_range] at hyl
    have hsz : small62 (2 + (q : Int)) = true := by unfold small62; simp only [Bool.and_eq_true, decide_eq_true_eq]; constructor <;> omega
    have hnat : (2 + (q : Int)).toNat = q + 2 := by omega
    have hstem : (Txt.join "" ts).length = q + 2 := by rw [join_size, sum_ones ts hts, hyl]
    have hjoin : meD .join (.str "") [.lst (ts.map .str)] = .ok (.str (Txt.join "" ts)) := by
      simp only [meD, strsOf_map']
      rw [if_pos]
      rw [sum_ones ts hts]
      have e0 : ("" : Str).length = 0 := by decide +kernel
      rw [e0]
      show _ ≤ 16777216
      omega
    generalize Txt.join "" ts = stem at hstem hjoin
    refine Ev.asg (d := .str stem) ?_ ?_
    · have hc := ev_comp (F := run T (k + 1)) (g := .nm 6) (it := .rng1 (.var 2)) (c := .no) (e := .idx (.var 1) (.bin .mod (.call "_law_mix" (.cons (.var 0) (.cons (.bin .add (.int 2) (.var 6)) .nil))) (.int 26)))
        (r := [some (.int c), some (.str abc), some (.int (2 + q)), none, none, none, none, none]) (xs := (List.range (q + 2)).map fun (i : Nat) => D.int i) (by rw [evalI, evalE]; exact (bind_of (a := D.int (2 + q)) rfl).trans ((bind_of (a := 2 + (q : Int)) rfl).trans ((if_pos hsz).trans (by rw [hnat])))) hys (by rw [List.length_map]; show _ ≤ 16777216; omega)
      exact (ev_me1 (x := .str "") (by rw [evalE]) hc).trans hjoin
    obtain ⟨a, ha, ea⟩ := fmod_nat (mix c 9) (q + 2) (by omega)
    have m9 := mix_ok hM k c 9 (by decide) (by decide)
    have hq0 : ¬ (2 + (q : Int)) = 0 := by omega
    have e2q : ((q + 2 : Nat) : Int) = 2 + (q : Int) := by omega
    have ea' : (mix c 9).fmod (2 + (q : Int)) = a := by rw [← e2q]; exact ea
    refine Ev.asg (d := .int a) (by simp [evalE, evalEs, varE, binD, m9, ea', hq0]) ?_
    refine Ev.asg (d := .lst []) (by simp [evalE, evalEs]) ?_
    show Ev _ _ [some (.int c), some (.str abc), some (.int (2 + q)), some (.str stem), some (.int a), some (.lst []), none, none] _
    obtain ⟨ch, hch, ech⟩ := idx_str (s := stem) (i := a) (by omega) (by rw [hstem]; omega)
    refine Ev.loop (xs := (List.range 4).map fun (i : Nat) => D.int i)
      (fun i e => ∃ W : List Str, e = [some (.int c), some (.str abc), some (.int (2 + q)), some (.str stem), some (.int a), some (.lst (W.map .str)), none, none] ∧ W.length = i ∧ ∀ s ∈ W, s.length ≤ 20)
      (by simp [evalI, evalE, unint]; decide) ⟨[], rfl, rfl, fun _ h => nomatch h⟩ ?_ ?_
    · rintro i x e hx ⟨W, rfl, hW, hWl⟩
      obtain ⟨hi, rfl⟩ := rng_get hx
      refine ⟨_, rfl, ?_⟩
      show Ev _ _ [some (.int c), some (.str abc), some (.int (2 + q)), some (.str stem), some (.int a), some (.lst (W.map .str)), some (.int i), none] _
      obtain ⟨t, ht, et⟩ := letter_at (Txt.find abc ch + 7 * i)
      have hm7 : mulOk 7 i = true := by unfold mulOk; simp
      have hfind : meD .find (.str abc) [.str ch] = .ok (.int (Txt.find abc ch)) := rfl
      refine Ev.asg (d := .str t) (by simp [evalE, evalEs, varE, binD, ech, hfind, hm7, et]) ?_
      show Ev _ _ [some (.int c), some (.str abc), some (.int (2 + q)), some (.str stem), some (.int a), some (.lst (W.map .str)), some (.int i), some (.str t)] _
      have l1 := L2.cutS_length stem none (some a)
      have l2 := L2.cutS_length stem (some (a + 1)) none
      generalize hp1 : L2.cutS stem none (some a) = p1 at l1
      generalize hp2 : L2.cutS stem (some (a + 1)) none = p2 at l2
      have s1 : sliD (.str stem) none (some a) = .ok (.str p1) := by rw [← hp1]; rfl
      have s2 : sliD (.str stem) (some (a + 1)) none = .ok (.str p2) := by rw [← hp2]; rfl
      obtain ⟨b1, b2⟩ := add_strs (a := p1) (b := t) (by omega)
      obtain ⟨b3, b4⟩ := add_strs (a := p1 ++ t) (b := p2) (by omega)
      refine Ev.app rfl (v := .str (p1 ++ t ++ p2)) ?_ (by rw [List.length_map, hW]; show i < 16777216; omega) (Ev.nil ⟨.inl rfl, W ++ [p1 ++ t ++ p2], ?_, by simp [hW], fun s hs => ?_⟩)
      · have e1 : binD .add (.int a) (.int 1) = .ok (.int (a + 1)) := rfl
        simp [evalE, evalO, varE, unint, s1, s2, b1, b3, e1]
      · show ([some (.int c), some (.str abc), some (.int (2 + q)), some (.str stem), some (.int a), some (.lst (W.map .str ++ [.str (p1 ++ t ++ p2)])), none, none] : MP.Env) = _
        simp
      · rcases List.mem_append.mp hs with hs | hs
        · exact hWl s hs
        · rw [List.mem_singleton.mp hs, b4, b2, ht]; omega
    · rintro e ⟨W, rfl, hW, hWl⟩
      rw [List.length_map, List.length_range] at hW
      obtain ⟨t, ht, et⟩ := letter_at (mix c 10)
      have m10 := mix_ok hM k c 10 (by decide) (by decide)
      obtain ⟨b1, b2⟩ := add_strs (a := stem) (b := t) (by omega)
      have l1 := L2.cutS_length stem none (some (2 + (q : Int) - 1))
      generalize hp1 : L2.cutS stem none (some (2 + (q : Int) - 1)) = p1 at l1
      have s1 : sliD (.str stem) none (some (2 + (q : Int) - 1)) = .ok (.str p1) := by rw [← hp1]; rfl
      have e1 : binD .sub (.int (2 + q)) (.int 1) = .ok (.int (2 + q - 1)) := rfl
      have e2 : binD .mod (.int (mix c 10)) (.int 26) = .ok (.int ((mix c 10).fmod 26)) := rfl
      have e3 : binD .cat (.lst (W.map .str)) (.lst [.str (stem ++ t), .str p1]) = .ok (.lst (W.map .str ++ [.str (stem ++ t), .str p1])) := by
        show (if _ then _ else _) = _
        rw [if_pos]
        rw [List.length_map, hW]
        show 6 ≤ 16777216
        decide
      refine Ev.ret (d := .lst ((W ++ [stem ++ t, p1]).map .str)) ?_ ⟨_, rfl, W ++ [stem ++ t, p1], rfl, by simp [hW], fun s hs => ?_⟩
      · simp only [evalE, evalEs, evalO, varE, R.bind_ok, List.getElem?_cons_zero, List.getElem?_cons_succ, m10, e2, et, b1, e1, unint, s1, e3]
        simp
      · rcases List.mem_append.mp hs with hs | hs
        · exact hWl s hs
        · simp at hs
          rcases hs with rfl | rfl
          · omega
          · omega
  obtain ⟨v, h1, W, rfl, h2, h3⟩ := key
  exact ⟨W, h2, h3, h1⟩

/-! ### a world, cells, rows -/
def dWorld : MP.Def := { np := 1, N := ["_law_cell"], own := [.sh], ro := .sh, body := (.cons (.ret (.tup (.cons (.call "_law_words" (.cons (.var 0) .nil)) (.cons (.bin .mod (.call "_law_mix" (.cons (.var 0) (.cons (.int 11) .nil))) (.int 400000)) (.cons (.bin .add (.int 1) (.bin .mod (.call "_law_mix" (.cons (.var 0) (.cons (.int 12) .nil))) (.int 50000))) .nil))))) .nil) }
def dCellBy : MP.Def := { np := 2, N := ["_law_world_here", "_law_number", "_law_words_here", "_law_start", "_law_step"], own := [.sh, .sh, .sh, .sh, .sh], ro := .sh, body := (.cons (.asg (.tp [2, 3, 4]) (.var 0)) (.cons (.ifs (.cmp .eq (.bin .mod (.var 1) (.int 2)) (.int 0)) (.cons (.ret (.tup (.cons (.str "blank") (.cons (.bin .add (.bin .mul (.var 3) (.bin .fdiv (.bin .mod (.bin .fdiv (.var 1) (.int 2)) (.int 3)) (.int 2))) (.bin .mul (.var 4) (.bin .mod (.bin .fdiv (.var 1) (.int 6)) (.int 12)))) .nil)))) .nil) .nil) (.cons (.ret (.tup (.cons (.str "name") (.cons (.idx (.var 2) (.bin .mod (.bin .fdiv (.var 1) (.int 2)) (.int 6))) .nil)))) .nil))) }
def dRow : MP.Def := { np := 2, N := ["_law_world_here", "_law_cell", "_law_size", "_law_cells", "_law_k"], own := [.sh, .sh, .sh, .sh, .sh], ro := .sh, body := (.cons (.asg (.nm 2) (.bin .add (.int 1) (.bin .mod (.call "_law_mix" (.cons (.var 1) (.cons (.int 1) .nil))) (.int 4)))) (.cons (.asg (.nm 3) (.comp (.nm 4) (.rng1 (.var 2)) .no (.call "_law_cell_by" (.cons (.var 0) (.cons (.call "_law_mix" (.cons (.var 1) (.cons (.bin .add (.int 3) (.var 4)) .nil))) .nil))))) (.cons (.ifs (.cmp .eq (.bin .mod (.call "_law_mix" (.cons (.var 1) (.cons (.int 8) .nil))) (.int 4)) (.int 1)) (.cons (.asg (.nm 3) (.comp (.nm 4) (.rng1 (.var 2)) .no (.tup (.cons (.str "name") (.cons (.idx (.idx (.var 0) (.int 0)) (.bin .mod (.call "_law_mix" (.cons (.var 1) (.cons (.bin .add (.int 3) (.var 4)) .nil))) (.int 6))) .nil))))) .nil) .nil) (.cons (.ret (.tup (.cons (.idx (.idx (.var 0) (.int 0)) (.bin .mod (.call "_law_mix" (.cons (.var 1) (.cons (.int 2) .nil))) (.int 3))) (.cons (.bi .tuple (.cons (.var 3) .nil)) .nil)))) .nil)))) }
def dStand : MP.Def := { np := 1, N := ["_law_rows", "_law_found", "_law_row_here"], own := [.sh, .li, .sh], ro := .li, body := (.cons (.asg (.nm 1) (.lst .nil)) (.cons (.loop (.nm 2) (.of (.bi .sorted (.cons (.var 0) .nil))) [2] (.cons (.ifs (.cmp .notin (.var 2) (.var 1)) (.cons (.app 1 (.var 2)) .nil) .nil) .nil)) (.cons (.ret (.var 1)) .nil))) }
def wD (W : List Str) (st sp : Int) : D := .tup [.lst (W.map .str), .int st, .int sp]
theorem world_ok (hM : T "_law_mix" = some dMix) (hW : T "_law_words" = some dWords) (hT : T "_law_world" = some dWorld) (k : Nat) (c : Int) : ∃ (W : List Str) (st sp : Int), W.length = 6 ∧ (∀ s ∈ W, s.length ≤ 20) ∧ 0 ≤ st ∧ st < 400000 ∧ 1 ≤ sp ∧ sp ≤ 50000 ∧ run T (k + 3) "_law_world" [.int c] = .ok (wD W st sp) := by
  obtain ⟨W, h1, h2, h3⟩ := words_ok hM hW k c
  have a1 : 0 ≤ (mix c 11).fmod 400000 := Int.fmod_nonneg_of_pos _ (by decide)
  have a2 : (mix c 11).fmod 400000 < 400000 := Int.fmod_lt_of_pos _ (by decide)
  have a3 : 0 ≤ (mix c 12).fmod 50000 := Int.fmod_nonneg_of_pos _ (by decide)
  have a4 : (mix c 12).fmod 50000 < 50000 := Int.fmod_lt_of_pos _ (by decide)
  refine ⟨W, (mix c 11).fmod 400000, 1 + (mix c 12).fmod 50000, h1, h2, a1, a2, by omega, by omega, ?_⟩
  have m11 := mix_ok hM (k + 1) c 11 (by decide) (by decide)
  have m12 := mix_ok hM (k + 1) c 12 (by decide) (by decide)
  refine run_rt hT rfl (r := [some (.int c)]) ?_
  show evalSs (run T (k + 2)) dWorld.body [some (.int c)] = _
  refine ev_rt (ev_ret ?_)
  have e1 : binD .mod (.int (mix c 11)) (.int 400000) = .ok (.int ((mix c 11).fmod 400000)) := rfl
  have e2 : binD .mod (.int (mix c 12)) (.int 50000) = .ok (.int ((mix c 12).fmod 50000)) := rfl
  have e3 : binD .add (.int 1) (.int ((mix c 12).fmod 50000)) = .ok (.int (1 + (mix c 12).fmod 50000)) := rfl
  simp only [evalE, evalEs, varE, List.getElem?_cons_zero, R.bind_ok, h3, m11, m12, e1, e2, e3]
  rfl
/-- a cell of these words -/
def inW (W : List Str) : Cell → Prop
  | .blank n => 0 ≤ n
  | .name s => s ∈ W
theorem cell_by_ok (hT : T "_law_cell_by" = some dCellBy) (k : Nat) {W : List Str} {st sp m : Int} (hW : W.length = 6) (h0 : 0 ≤ st) (h1 : 0 ≤ sp) (hm : 0 ≤ m) : ∃ c : Cell, inW W c ∧ run T (k + 1) "_law_cell_by" [wD W st sp, .int m] = .ok (cD c) := by
  have key : ∃ v, run T (k + 1) "_law_cell_by" [wD W st sp, .int m] = .ok v ∧ ∃ c : Cell, v = cD c ∧ inW W c := by
    refine run_ev hT rfl ?_
    show Ev (run T k) dCellBy.body [some (wD W st sp), some (.int m), none, none, none] _
    refine Ev.step (r1 := [some (wD W st sp), some (.int m), some (.lst (W.map .str)), some (.int st), some (.int sp)]) (by rw [evalS, evalE]; rfl) ?_
    obtain ⟨q, hq, eq⟩ := fmod_nat m 2 (by decide)
    have eq' : m.fmod 2 = q := eq
    have c1 : evalE (run T k) (.cmp .eq (.bin .mod (.var 1) (.int 2)) (.int 0)) [some (wD W st sp), some (.int m), some (.lst (W.map .str)), some (.int st), some (.int sp)] = .ok (.bl (decide ((q : Int) = 0))) := by
      have := eqD_int q 0
      have e1 : binD .mod (.int m) (.int 2) = .ok (.int (m.fmod 2)) := rfl
      simp [evalE, varE, e1, cmpD, eq', this]
    by_cases hz : (q : Int) = 0
    · rw [decide_eq_true hz] at c1
      obtain ⟨a, ha, ea⟩ := fmod_nat (m.fdiv 2) 3 (by decide)
      obtain ⟨b, hb, eb⟩ := fmod_nat (m.fdiv 6) 12 (by decide)
      have ea' : (m.fdiv 2).fmod 3 = a := ea
      have eb' : (m.fdiv 6).fmod 12 = b := eb
      have ed : ((a : Nat) : Int).fdiv 2 = ((a / 2 : Nat) : Int) := by rw [Int.fdiv_eq_ediv_of_nonneg _ (by decide)]; omega
      have e1 : binD .fdiv (.int m) (.int 2) = .ok (.int (m.fdiv 2)) := rfl
      have e2 : binD .mod (.int (m.fdiv 2)) (.int 3) = .ok (.int ((m.fdiv 2).fmod 3)) := rfl
      have e3 : binD .fdiv (.int a) (.int 2) = .ok (.int ((a : Int).fdiv 2)) := rfl
      have e4 : binD .fdiv (.int m) (.int 6) = .ok (.int (m.fdiv 6)) := rfl
      have e5 : binD .mod (.int (m.fdiv 6)) (.int 12) = .ok (.int ((m.fdiv 6).fmod 12)) := rfl
      have e6 : binD .mul (.int st) (.int ((a / 2 : Nat) : Int)) = .ok (.int (st * ((a / 2 : Nat) : Int))) := if_pos (mulOk_r (by omega) (by omega))
      have e7 : binD .mul (.int sp) (.int b) = .ok (.int (sp * b)) := if_pos (mulOk_r (by omega) (by omega))
      have e8 : binD .add (.int (st * ((a / 2 : Nat) : Int))) (.int (sp * b)) = .ok (.int (st * ((a / 2 : Nat) : Int) + sp * b)) := rfl
      refine Ev.tt c1 (Ev.ret (d := cD (.blank (st * ((a / 2 : Nat) : Int) + sp * b))) ?_ ⟨_, rfl, _, rfl, ?_⟩)
      · simp only [evalE, evalEs, varE, List.getElem?_cons_zero, List.getElem?_cons_succ, R.bind_ok, e1, e2, ea', e3, ed, e4, e5, eb', e6, e7, e8]
        rfl
      · exact Int.add_nonneg (Int.mul_nonneg h0 (by omega)) (Int.mul_nonneg h1 (by omega))
    · rw [decide_eq_false hz] at c1
      have a1 : 0 ≤ (m.fdiv 2).fmod 6 := Int.fmod_nonneg_of_pos _ (by decide)
      have a2 : (m.fdiv 2).fmod 6 < 6 := Int.fmod_lt_of_pos _ (by decide)
      obtain ⟨s, hs, _, es⟩ := idx_map (f := D.str) (xs := W) a1 (by rw [hW]; exact a2)
      have e1 : binD .fdiv (.int m) (.int 2) = .ok (.int (m.fdiv 2)) := rfl
      have e2 : binD .mod (.int (m.fdiv 2)) (.int 6) = .ok (.int ((m.fdiv 2).fmod 6)) := rfl
      refine Ev.ff c1 (Ev.nil (Ev.ret (d := cD (.name s)) ?_ ⟨_, rfl, _, rfl, hs⟩))
      simp only [evalE, evalEs, varE, List.getElem?_cons_zero, List.getElem?_cons_succ, R.bind_ok, e1, e2, es]
      rfl
  obtain ⟨v, h1, c, rfl, h2⟩ := key
  exact ⟨c, h2, h1⟩

theorem small_n {m : Int} (hm : 0 ≤ m) : ∃ q : Nat, q < 4 ∧ m.fmod 4 = q ∧ small62 (1 + (q : Int)) = true ∧ (1 + (q : Int)).toNat = q + 1 := by
  obtain ⟨q, hq, e⟩ := fmod_nat m 4 (by decide)
  refine ⟨q, hq, e, ?_, by omega⟩
  unfold small62; simp only [Bool.and_eq_true, decide_eq_true_eq]; constructor <;> omega
theorem ev_rng1 {F : Orc} {a : IE} {r : MP.Env} {n : Int} {m : Nat} (h1 : evalE F a r = .ok (.int n)) (h2 : small62 n = true) (h3 : n.toNat = m) : evalI F (.rng1 a) r = .ok ((List.range m).map fun (i : Nat) => D.int i) := by
  subst h3
  rw [evalI, h1]
  show (if small62 n = true then R.ok ((List.range n.toNat).map fun (i : Nat) => D.int i) else R.bad) = _
  rw [if_pos h2]
theorem tuple_lst (xs : List D) : biD .tuple [.lst xs] = .ok (.tup xs) := rfl
theorem row_ok (hM : T "_law_mix" = some dMix) (hC : T "_law_cell_by" = some dCellBy) (hT : T "_law_row" = some dRow) (k : Nat) {W : List Str} {st sp : Int} (hW : W.length = 6) (h0 : 0 ≤ st) (h1 : 0 ≤ sp) (c : Int) :
    ∃ r : Row, r.1 ∈ W ∧ r.2.length ≤ 4 ∧ (∀ x ∈ r.2, inW W x) ∧ run T (k + 2) "_law_row" [wD W st sp, .int c] = .ok (rD r) := by
  have key : ∃ v, run T (k + 2) "_law_row" [wD W st sp, .int c] = .ok v ∧ ∃ r : Row, v = rD r ∧ r.1 ∈ W ∧ r.2.length ≤ 4 ∧ ∀ x ∈ r.2, inW W x := by
    refine run_ev hT rfl ?_
    show Ev (run T (k + 1)) dRow.body [some (wD W st sp), some (.int c), none, none, none] _
    have m1 := mix_ok hM k c 1 (by decide) (by decide)
    obtain ⟨q, hq, eq, hs, hn⟩ := small_n (mix_nonneg c 1)
    have e1 : binD .mod (.int (mix c 1)) (.int 4) = .ok (.int ((mix c 1).fmod 4)) := rfl
    have e2 : binD .add (.int 1) (.int q) = .ok (.int (1 + q)) := rfl
    refine Ev.asg (d := .int (1 + q)) (by simp only [evalE, evalEs, varE, List.getElem?_cons_zero, List.getElem?_cons_succ, R.bind_ok, m1, e1, eq, e2]) ?_
    show Ev _ _ [some (wD W st sp), some (.int c), some (.int (1 + q)), none, none] _
    have mixk : ∀ i : Nat, i < 4 → run T (k + 1) "_law_mix" [.int c, .int (3 + i)] = .ok (.int (mix c (3 + i))) := fun i hi => mix_ok hM k c (3 + i) (by omega) (by omega)
    -- the end, from any cells
    have done : ∀ cs : List Cell, cs.length ≤ 4 → (∀ x ∈ cs, inW W x) → Ev (run T (k + 1)) (.cons (.ret (.tup (.cons (.idx (.idx (.var 0) (.int 0)) (.bin .mod (.call "_law_mix" (.cons (.var 1) (.cons (.int 2) .nil))) (.int 3))) (.cons (.bi .tuple (.cons (.var 3) .nil)) .nil)))) .nil)
        [some (wD W st sp), some (.int c), some (.int (1 + q)), some (.lst (cs.map cD)), none] fun fl _ => ∃ v, fl = .rt v ∧ ∃ r : Row, v = rD r ∧ r.1 ∈ W ∧ r.2.length ≤ 4 ∧ ∀ x ∈ r.2, inW W x := fun cs hl hc => by
      have m2 := mix_ok hM k c 2 (by decide) (by decide)
      have a1 : 0 ≤ (mix c 2).fmod 3 := Int.fmod_nonneg_of_pos _ (by decide)
      have a2 : (mix c 2).fmod 3 < 3 := Int.fmod_lt_of_pos _ (by decide)
      obtain ⟨s, hs', _, es⟩ := idx_map (f := D.str) (xs := W) a1 (by rw [hW]; omega)
      have e3 : binD .mod (.int (mix c 2)) (.int 3) = .ok (.int ((mix c 2).fmod 3)) := rfl
      have e4 : idxD (wD W st sp) (.int 0) = .ok (.lst (W.map .str)) := rfl
      refine Ev.ret (d := rD (s, cs)) ?_ ⟨_, rfl, _, rfl, hs', hl, hc⟩
      simp only [evalE, evalEs, varE, List.getElem?_cons_zero, List.getElem?_cons_succ, R.bind_ok, e4, m2, e3, es, tuple_lst]
      rfl
    have hc1 : ∃ ys, compL (fun x => (asgG (.nm 4) x [some (wD W st sp), some (.int c), some (.int (1 + q)), none, none]).bind fun r' => (evalC (run T (k + 1)) .no r').bind fun b =>
        if b then (evalE (run T (k + 1)) (.call "_law_cell_by" (.cons (.var 0) (.cons (.call "_law_mix" (.cons (.var 1) (.cons (.bin .add (.int 3) (.var 4)) .nil))) .nil))) r').bind fun y => .ok (some y) else .ok none) ((List.range (q + 1)).map fun (i : Nat) => D.int i) = .ok ys ∧
        ys.length = ((List.range (q + 1)).map fun (i : Nat) => D.int i).length ∧ ∀ y ∈ ys, ∃ x : Cell, y = cD x ∧ inW W x := by
      refine compL_all _ fun x hx => ?_
      obtain ⟨i, hi, rfl⟩ := rng_mem hx
      obtain ⟨cl, hcl, rcl⟩ := cell_by_ok hC k (st := st) (sp := sp) hW h0 h1 (mix_nonneg c (3 + i))
      have m3 := mixk i (by omega)
      have e5 : binD .add (.int 3) (.int i) = .ok (.int (3 + i)) := rfl
      refine ⟨cD cl, ?_, cl, rfl, hcl⟩
      show ((R.ok ([some (wD W st sp), some (.int c), some (.int (1 + q)), none, some (.int i)] : MP.Env)).bind _) = _
      simp only [evalC, evalE, evalEs, varE, List.getElem?_cons_zero, List.getElem?_cons_succ, R.bind_ok, e5, m3, rcl, if_true]
    obtain ⟨ys, hys, hyl, hyp⟩ := hc1
    obtain ⟨cs, rfl, hcs⟩ := as_map hyp
    rw [List.length_map, List.length_map, List.length_range] at hyl
    have rg : evalI (run T (k + 1)) (.rng1 (.var 2)) [some (wD W st sp), some (.int c), some (.int (1 + q)), none, none] = .ok ((List.range (q + 1)).map fun (i : Nat) => D.int i) := ev_rng1 (by rw [evalE]; rfl) hs hn
    refine Ev.asg (d := .lst (cs.map cD)) (ev_comp rg hys (by rw [List.length_map]; show _ ≤ 16777216; omega)) ?_
    show Ev _ _ [some (wD W st sp), some (.int c), some (.int (1 + q)), some (.lst (cs.map cD)), none] _
    have m8 := mix_ok hM k c 8 (by decide) (by decide)
    obtain ⟨p, hp, ep⟩ := fmod_nat (mix c 8) 4 (by decide)
    have ep' : (mix c 8).fmod 4 = p := ep
    have c1 : evalE (run T (k + 1)) (.cmp .eq (.bin .mod (.call "_law_mix" (.cons (.var 1) (.cons (.int 8) .nil))) (.int 4)) (.int 1)) [some (wD W st sp), some (.int c), some (.int (1 + q)), some (.lst (cs.map cD)), none] = .ok (.bl (decide ((p : Int) = 1))) := by
      have e6 : binD .mod (.int (mix c 8)) (.int 4) = .ok (.int ((mix c 8).fmod 4)) := rfl
      have e7 : cmpD .eq (.int p) (.int 1) = .ok (decide ((p : Int) = 1)) := eqD_int p 1
      simp only [evalE, evalEs, varE, List.getElem?_cons_zero, List.getElem?_cons_succ, R.bind_ok, m8, e6, ep', e7]
    by_cases hz : (p : Int) = 1
    · rw [decide_eq_true hz] at c1
      refine Ev.tt c1 ?_
      have hc2 : ∃ ys, compL (fun x => (asgG (.nm 4) x [some (wD W st sp), some (.int c), some (.int (1 + q)), some (.lst (cs.map cD)), none]).bind fun r' => (evalC (run T (k + 1)) .no r').bind fun b =>
          if b then (evalE (run T (k + 1)) (.tup (.cons (.str "name") (.cons (.idx (.idx (.var 0) (.int 0)) (.bin .mod (.call "_law_mix" (.cons (.var 1) (.cons (.bin .add (.int 3) (.var 4)) .nil))) (.int 6))) .nil))) r').bind fun y => .ok (some y) else .ok none) ((List.range (q + 1)).map fun (i : Nat) => D.int i) = .ok ys ∧
          ys.length = ((List.range (q + 1)).map fun (i : Nat) => D.int i).length ∧ ∀ y ∈ ys, ∃ x : Cell, y = cD x ∧ inW W x := by
        refine compL_all _ fun x hx => ?_
        obtain ⟨i, hi, rfl⟩ := rng_mem hx
        have m3 := mixk i (by omega)
        have e5 : binD .add (.int 3) (.int i) = .ok (.int (3 + i)) := rfl
        have a1 : 0 ≤ (mix c (3 + i)).fmod 6 := Int.fmod_nonneg_of_pos _ (by decide)
        have a2 : (mix c (3 + i)).fmod 6 < 6 := Int.fmod_lt_of_pos _ (by decide)
        obtain ⟨s, hs', _, es⟩ := idx_map (f := D.str) (xs := W) a1 (by rw [hW]; exact a2)
        have e3 : binD .mod (.int (mix c (3 + i))) (.int 6) = .ok (.int ((mix c (3 + i)).fmod 6)) := rfl
        have e4 : idxD (wD W st sp) (.int 0) = .ok (.lst (W.map .str)) := rfl
        refine ⟨cD (.name s), ?_, _, rfl, hs'⟩
        show ((R.ok ([some (wD W st sp), some (.int c), some (.int (1 + q)), some (.lst (cs.map cD)), some (.int i)] : MP.Env)).bind _) = _
        simp only [evalC, evalE, evalEs, varE, List.getElem?_cons_zero, List.getElem?_cons_succ, R.bind_ok, e5, m3, e4, e3, es, if_true]
        rfl
      obtain ⟨ys, hys2, hyl2, hyp2⟩ := hc2
      obtain ⟨cs2, rfl, hcs2⟩ := as_map hyp2
      rw [List.length_map, List.length_map, List.length_range] at hyl2
      have rg2 : evalI (run T (k + 1)) (.rng1 (.var 2)) [some (wD W st sp), some (.int c), some (.int (1 + q)), some (.lst (cs.map cD)), none] = .ok ((List.range (q + 1)).map fun (i : Nat) => D.int i) := ev_rng1 (by rw [evalE]; rfl) hs hn
      refine Ev.asg (d := .lst (cs2.map cD)) (ev_comp rg2 hys2 (by rw [List.length_map]; show _ ≤ 16777216; omega)) (Ev.nil ?_)
      exact done cs2 (by omega) hcs2
    · rw [decide_eq_false hz] at c1
      exact Ev.ff c1 (Ev.nil (done cs (by omega) hcs))
  obtain ⟨v, e, r, rfl, h2, h3, h4⟩ := key
  exact ⟨r, h2, h3, h4, e⟩
/-- each row once, rising -/
theorem stand_ok (hT : T "_law_stand" = some dStand) (k : Nat) (rs : List Row) (hl : rs.length ≤ 100000) : ∃ ss : List Row, ss.Nodup ∧ (∀ r, r ∈ ss ↔ r ∈ rs) ∧ run T (k + 1) "_law_stand" [.lst (rs.map rD)] = .ok (.lst (ss.map rD)) := by
  have key : ∃ v, run T (k + 1) "_law_stand" [.lst (rs.map rD)] = .ok v ∧ ∃ ss : List Row, v = .lst (ss.map rD) ∧ ss.Nodup ∧ ∀ r, r ∈ ss ↔ r ∈ rs := by
    refine run_ev hT rfl ?_
    generalize hP : D.lst (rs.map rD) = P
    show Ev (run T k) dStand.body [some P, none, none] _
    obtain ⟨zs, hz⟩ : ∃ zs : List Row, sortL (rs.map rD) = zs.map rD ∧ ∀ r, r ∈ zs ↔ r ∈ rs := by
      obtain ⟨zs, hz, _⟩ := as_map (f := rD) (P := fun r : Row => True) (ys := sortL (rs.map rD)) fun y hy => by
        obtain ⟨r, _, rfl⟩ := List.mem_map.mp (sortL_mem.mp hy)
        exact ⟨r, rfl, trivial⟩
      refine ⟨zs, hz, fun r => ?_⟩
      constructor
      · intro h
        have : rD r ∈ sortL (rs.map rD) := by rw [hz]; exact List.mem_map.mpr ⟨r, h, rfl⟩
        obtain ⟨r', h', e⟩ := List.mem_map.mp (sortL_mem.mp this)
        rw [← rD_inj.mp e]; exact h'
      · intro h
        have : rD r ∈ zs.map rD := by rw [← hz]; exact sortL_mem.mpr (List.mem_map.mpr ⟨r, h, rfl⟩)
        obtain ⟨r', h', e⟩ := List.mem_map.mp this
        rw [← rD_inj.mp e]; exact h'
    have so : biD .sorted [P] = .ok (.lst (zs.map rD)) := by
      rw [← hP]
      show sortD _ = _
      unfold sortD
      rw [if_pos (sort_rows rs), hz.1]
    refine Ev.asg (d := .lst []) (by simp [evalE, evalEs]) ?_
    have zl : zs.length ≤ 100000 := by
      have := (sortL_perm (rs.map rD)).length_eq
      rw [hz.1, List.length_map, List.length_map] at this
      omega
    refine Ev.loop (xs := zs.map rD) (fun i e => ∃ ss : List Row, e = [some P, some (.lst (ss.map rD)), none] ∧ ss.length ≤ i ∧ ss.Nodup ∧ ∀ r, r ∈ ss ↔ r ∈ zs.take i)
      (by simp only [evalI, evalE, evalEs, varE, List.set_cons_succ, List.set_cons_zero, List.getElem?_cons_zero, R.bind_ok, so]; rfl) ⟨[], rfl, Nat.le_refl _, List.nodup_nil, fun r => by simp⟩ ?_ ?_
    · rintro i x e hx ⟨ss, rfl, hsl, hn, hm⟩
      rw [List.getElem?_map] at hx
      obtain ⟨r, hr, rfl⟩ := Option.map_eq_some_iff.mp hx
      have hi : i < zs.length := (List.getElem?_eq_some_iff.mp hr).1
      have tk : zs.take (i + 1) = zs.take i ++ [r] := by rw [List.take_add_one, hr]; rfl
      refine ⟨_, rfl, ?_⟩
      show Ev _ _ [some P, some (.lst (ss.map rD)), some (rD r)] _
      have hin : inD (rD r) (.lst (ss.map rD)) = .ok (decide (r ∈ ss)) := by
        have hall : (ss.map rD).all MP.plain = true := by
          rw [List.all_eq_true]
          intro d hd
          obtain ⟨t, _, rfl⟩ := List.mem_map.mp hd
          exact plN_rD 27 t
        rw [in_plain (plN_rD 27 r) hall (fun _ => .inr trivial), any_map rD_inj]
      have c1 : evalE (run T k) (.cmp .notin (.var 2) (.var 1)) [some P, some (.lst (ss.map rD)), some (rD r)] = .ok (.bl (!decide (r ∈ ss))) := by
        simp only [evalE, varE, List.getElem?_cons_zero, List.getElem?_cons_succ, R.bind_ok, cmpD, hin]
      by_cases h : r ∈ ss
      · rw [decide_eq_true h] at c1
        refine Ev.ff c1 (Ev.nil (Ev.nil ⟨.inl rfl, ss, rfl, by omega, hn, fun r' => ?_⟩))
        rw [hm, tk]
        constructor
        · exact fun z => List.mem_append_left _ z
        · intro z
          rcases List.mem_append.mp z with z | z
          · exact z
          · rw [List.mem_singleton.mp z]; exact (hm r).mp h
      · rw [decide_eq_false h] at c1
        refine Ev.tt c1 (Ev.app rfl (v := rD r) (by rw [evalE]; rfl) (by rw [List.length_map]; show _ < 16777216; omega) (Ev.nil (Ev.nil ⟨.inl rfl, ss ++ [r], ?_, by simp; omega, ?_, fun r' => ?_⟩)))
        · show ([some P, some (.lst (ss.map rD ++ [rD r])), none] : MP.Env) = _
          simp
        · rw [List.nodup_append]
          refine ⟨hn, by simp, fun a ha b hb => ?_⟩
          rintro rfl
          exact h (by simpa [List.mem_singleton.mp hb] using ha)
        · rw [tk, List.mem_append, List.mem_append, hm]
    · rintro e ⟨ss, rfl, _, hn, hm⟩
      refine Ev.ret (d := .lst (ss.map rD)) (by rw [evalE]; rfl) ⟨_, rfl, ss, rfl, hn, fun r => ?_⟩
      rw [hm, List.length_map, List.take_length, hz.2]
  obtain ⟨v, e, ss, rfl, h1, h2⟩ := key
  exact ⟨ss, h1, h2, e⟩

/-! ### the blanks of rows -/
def dBlanks : MP.Def := { np := 1, N := ["rows", "known", "table", "cells", "sort", "what"], own := [.sh, .li, .sh, .sh, .sh, .sh], ro := .li, body := (.cons (.asg (.nm 1) .edic) (.cons (.loop (.tp [2, 3]) (.of (.var 0)) [2, 3, 4, 5] (.cons (.loop (.tp [4, 5]) (.of (.var 3)) [4, 5] (.cons (.ifs (.cmp .eq (.var 4) (.str "blank")) (.cons (.put 1 (.var 5) (.bl true)) .nil) .nil) .nil)) .nil)) (.cons (.ret (.bi .sortedKeys (.cons (.var 1) .nil))) .nil))) }
def kI (ks : List Int) : List (D × D) := ks.map fun n => (.int n, .bl true)
def addI (ks : List Int) (x : Int) : List Int := if x ∈ ks then ks else ks ++ [x]
theorem kI_any (ks : List Int) (x : Int) : ((kI ks).any fun p => decide (p.1 = .int x)) = decide (x ∈ ks) := by
  induction ks with
  | nil => rfl
  | cons k ks ih =>
    show (decide (D.int k = D.int x) || (kI ks).any _) = _
    rw [ih]
    by_cases h : k = x
    · subst h; simp
    · have : ¬ x = k := fun e => h e.symm
      simp [h, this]
theorem kI_put (ks : List Int) (x : Int) : putKV (kI ks) (.int x) (.bl true) = kI (addI ks x) := by
  unfold putKV addI
  rw [kI_any]
  by_cases h : x ∈ ks
  · rw [if_pos (by simpa using h), if_pos h]
    unfold kI
    rw [List.map_map]
    refine List.map_congr_left fun s _ => ?_
    simp only [Function.comp]
    split <;> rfl
  · rw [if_neg (by simpa using h), if_neg h]
    simp [kI]
theorem kI_flat (ks : List Int) : ((kI ks).all fun p => flatKey p.1) = true := by
  rw [List.all_eq_true]
  intro p hp
  obtain ⟨s, _, rfl⟩ := List.mem_map.mp hp
  rfl
theorem addI_mem {ks : List Int} {x s : Int} : s ∈ addI ks x ↔ s ∈ ks ∨ s = x := by
  unfold addI
  split
  · constructor
    · exact .inl
    · rintro (h | rfl)
      · exact h
      · assumption
  · simp
theorem addI_len (ks : List Int) (x : Int) : (addI ks x).length ≤ ks.length + 1 := by
  unfold addI
  split <;> simp
theorem addI_nodup {ks : List Int} {x : Int} (h : ks.Nodup) : (addI ks x).Nodup := by
  unfold addI
  split
  · exact h
  · rename_i hx
    rw [List.nodup_append]
    refine ⟨h, by simp, fun a ha b hb => ?_⟩
    rintro rfl
    exact hx (by simpa [List.mem_singleton.mp hb] using ha)
theorem blanks_ok (hT : T "blanks_of" = some dBlanks) (k : Nat) (rs : List Row) (hl : rs.length ≤ 100000) (h4 : ∀ r ∈ rs, r.2.length ≤ 10) : ∃ ks : List Int, ks.Nodup ∧ (∀ n, n ∈ ks ↔ ∃ r ∈ rs, Cell.blank n ∈ r.2) ∧ ks.length ≤ 10 * rs.length ∧ run T (k + 1) "blanks_of" [.lst (rs.map rD)] = .ok (.lst (sortL (ks.map .int))) := by
  have key : ∃ v, run T (k + 1) "blanks_of" [.lst (rs.map rD)] = .ok v ∧ ∃ ks : List Int, v = .lst (sortL (ks.map .int)) ∧ ks.Nodup ∧ (∀ n, n ∈ ks ↔ ∃ r ∈ rs, Cell.blank n ∈ r.2) ∧ ks.length ≤ 10 * rs.length := by
    refine run_ev hT rfl ?_
    generalize hP : D.lst (rs.map rD) = P
    show Ev (run T k) dBlanks.body [some P, none, none, none, none, none] _
    refine Ev.asg (d := .dic []) (by rw [evalE]) ?_
    show Ev _ _ [some P, some (.dic []), none, none, none, none] _
    refine Ev.loop (xs := rs.map rD) (fun i e => ∃ ks : List Int, e = [some P, some (.dic (kI ks)), none, none, none, none] ∧ ks.Nodup ∧ ks.length ≤ 10 * i ∧ ∀ n, n ∈ ks ↔ ∃ r ∈ rs.take i, Cell.blank n ∈ r.2)
      (by subst hP; rfl) ⟨[], rfl, List.nodup_nil, Nat.le_refl _, fun n => by simp⟩ ?_ ?_
    · rintro i x e hx ⟨ks, rfl, hn, hkl, hm⟩
      rw [List.getElem?_map] at hx
      obtain ⟨r, hr, rfl⟩ := Option.map_eq_some_iff.mp hx
      have hi : i < rs.length := (List.getElem?_eq_some_iff.mp hr).1
      have hr4 := h4 r (List.mem_of_getElem? hr)
      have tk : rs.take (i + 1) = rs.take i ++ [r] := by rw [List.take_add_one, hr]; rfl
      refine ⟨_, rfl, ?_⟩
      show Ev _ _ [some P, some (.dic (kI ks)), some (.str r.1), some (.tup (r.2.map cD)), none, none] _
      refine Ev.loop (xs := r.2.map cD) (fun j e => ∃ ks2 : List Int, e = [some P, some (.dic (kI ks2)), some (.str r.1), some (.tup (r.2.map cD)), none, none] ∧ ks2.Nodup ∧ ks2.length ≤ 10 * i + j ∧ ∀ n, n ∈ ks2 ↔ n ∈ ks ∨ Cell.blank n ∈ r.2.take j)
        rfl ⟨ks, rfl, hn, by omega, fun n => by simp⟩ ?_ ?_
      · rintro j y e hy ⟨ks2, rfl, hn2, hkl2, hm2⟩
        rw [List.getElem?_map] at hy
        obtain ⟨c, hc, rfl⟩ := Option.map_eq_some_iff.mp hy
        have hj : j < r.2.length := (List.getElem?_eq_some_iff.mp hc).1
        have tk2 : r.2.take (j + 1) = r.2.take j ++ [c] := by rw [List.take_add_one, hc]; rfl
        cases c with
        | blank n =>
          refine ⟨[some P, some (.dic (kI ks2)), some (.str r.1), some (.tup (r.2.map cD)), some (.str "blank"), some (.int n)], rfl, ?_⟩
          have c1 : evalE (run T k) (.cmp .eq (.var 4) (.str "blank")) [some P, some (.dic (kI ks2)), some (.str r.1), some (.tup (r.2.map cD)), some (.str "blank"), some (.int n)] = .ok (.bl true) := by
            have := eqD_str "blank" "blank"
            simp [evalE, varE, cmpD, this]
          have kf : keyFor (kI ks2) (.int n) = true := by unfold keyFor; rw [kI_flat]; rfl
          have kl : (kI ks2).length < lim := by unfold kI; rw [List.length_map]; show _ < 16777216; omega
          refine Ev.tt c1 (Ev.step (r1 := [some P, some (.dic (kI (addI ks2 n))), some (.str r.1), some (.tup (r.2.map cD)), some (.str "blank"), some (.int n)]) ?_ (Ev.nil (Ev.nil ⟨.inl rfl, addI ks2 n, rfl, addI_nodup hn2, ?_, fun z => ?_⟩)))
          · simp [evalS, evalE, varE, kf, kl, kI_put]
          · have := addI_len ks2 n; omega
          · rw [addI_mem, hm2, tk2, List.mem_append, List.mem_singleton, or_assoc]
            simp
        | name s =>
          refine ⟨[some P, some (.dic (kI ks2)), some (.str r.1), some (.tup (r.2.map cD)), some (.str "name"), some (.str s)], rfl, ?_⟩
          have c1 : evalE (run T k) (.cmp .eq (.var 4) (.str "blank")) [some P, some (.dic (kI ks2)), some (.str r.1), some (.tup (r.2.map cD)), some (.str "name"), some (.str s)] = .ok (.bl false) := by
            have := eqD_str "name" "blank"
            rw [decide_eq_false (by decide)] at this
            simp [evalE, varE, cmpD, this]
          refine Ev.ff c1 (Ev.nil (Ev.nil ⟨.inl rfl, ks2, rfl, hn2, by omega, fun z => ?_⟩))
          rw [hm2, tk2, List.mem_append, List.mem_singleton]
          simp
      · rintro e ⟨ks2, rfl, hn2, hkl2, hm2⟩
        rw [List.length_map] at hkl2 hm2
        refine Ev.nil ⟨.inl rfl, ks2, rfl, hn2, by omega, fun n => ?_⟩
        rw [hm2, List.take_length, hm, tk]
        constructor
        · rintro (⟨q, hq, h⟩ | h)
          · exact ⟨q, List.mem_append_left _ hq, h⟩
          · exact ⟨r, List.mem_append_right _ List.mem_cons_self, h⟩
        · rintro ⟨q, hq, h⟩
          rcases List.mem_append.mp hq with hq | hq
          · exact .inl ⟨q, hq, h⟩
          · rw [List.mem_singleton.mp hq] at h; exact .inr h
    · rintro e ⟨ks, rfl, hn, hkl, hm⟩
      rw [List.length_map] at hkl hm
      rw [List.take_length] at hm
      refine Ev.ret (d := .lst (sortL (ks.map .int))) ?_ ⟨_, rfl, ks, rfl, hn, hm, hkl⟩
      have hf := kI_flat ks
      have hm' : (kI ks).map (·.1) = ks.map .int := by unfold kI; rw [List.map_map]; rfl
      have hso := sort_ints ks
      simp [evalE, evalEs, varE, biD, hf, hm', sortD, hso]
  obtain ⟨v, e, ks, rfl, h1, h2, h3⟩ := key
  exact ⟨ks, h1, h2, h3, e⟩
end
end LC
/-! Kinds of data: what a def may give, seen from its text alone. -/
namespace MP
open PySem

inductive Ty where
  | any | non | bl | int | rng (lo hi : Int) | str (lo hi : Nat) | lit (s : Str) | tn | tc (t ts : Ty) | tup (ts : Ty)
  | tups (t : Ty) (lo hi : Nat) | lst (t : Ty) (lo hi : Nat) | uni (a b : Ty) | bot | scr | tv (n : Nat)
  deriving DecidableEq
section
-- V: what the open kinds stand for
variable (V : Nat → D → Prop)
mutual
inductive Has : Ty → D → Prop
  | any (d : D) : Has .any d
  | non : Has .non .non
  | bl (b : Bool) : Has .bl (.bl b)
  | int (i : Int) : Has .int (.int i)
  | rng {lo hi i : Int} : lo ≤ i → i ≤ hi → Has (.rng lo hi) (.int i)
  | str {lo hi : Nat} {s : Str} : lo ≤ s.length → s.length ≤ hi → Has (.str lo hi) (.str s)
  | lit (s : Str) : Has (.lit s) (.str s)
  | tup {ts : Ty} {ds : List D} : HasT ts ds → Has (.tup ts) (.tup ds)
  | tups {t : Ty} {lo hi : Nat} {ds : List D} : (∀ d, d ∈ ds → Has t d) → lo ≤ ds.length → ds.length ≤ hi → Has (.tups t lo hi) (.tup ds)
  | lst {t : Ty} {lo hi : Nat} {ds : List D} : (∀ d, d ∈ ds → Has t d) → lo ≤ ds.length → ds.length ≤ hi → Has (.lst t lo hi) (.lst ds)
  | ul {a b : Ty} {d : D} : Has a d → Has (.uni a b) d
  | ur {a b : Ty} {d : D} : Has b d → Has (.uni a b) d
  | scr (ns : List Int) : Has .scr (.scr ns)
  | tv {n : Nat} {d : D} : V n d → Has (.tv n) d
inductive HasT : Ty → List D → Prop
  | any (ds : List D) : HasT .any ds
  | nil : HasT .tn []
  | cons {t ts : Ty} {d : D} {ds : List D} : Has t d → HasT ts ds → HasT (.tc t ts) (d :: ds)
  | ul {a b : Ty} {ds : List D} : HasT a ds → HasT (.uni a b) ds
  | ur {a b : Ty} {ds : List D} : HasT b ds → HasT (.uni a b) ds
end
end
variable {V : Nat → D → Prop}
theorem asMap {α : Type} {f : α → D} {P : α → Prop} : ∀ {ys : List D}, (∀ y ∈ ys, ∃ a, y = f a ∧ P a) → ∃ as : List α, ys = as.map f ∧ ∀ a ∈ as, P a
  | [], _ => ⟨[], rfl, fun _ h => nomatch h⟩
  | y :: ys, h => by
    obtain ⟨a, rfl, ha⟩ := h y List.mem_cons_self
    obtain ⟨as, rfl, has⟩ := asMap fun y m => h y (List.mem_cons_of_mem _ m)
    exact ⟨a :: as, rfl, fun b hb => (List.mem_cons.mp hb).elim (fun e => e ▸ ha) (has b)⟩
/-! ### wider and narrower -/
def sameLen : Ty → Ty → Bool
  | .tn, .tn => true
  | .tc _ a, .tc _ b => sameLen a b
  | _, _ => false
def tagOk : Ty → Ty → Bool
  | .tc (.lit s) _, .tc (.lit t) _ => decide (s = t)
  | _, _ => true
def fitsT : Ty → Ty → Bool
  | .int, .int => true | .int, .rng _ _ => true | .rng _ _, .int => true | .rng _ _, .rng _ _ => true
  | .str _ _, .str _ _ => true | .str _ _, .lit _ => true | .lit _, .str _ _ => true | .lit _, .lit _ => true
  | .lst _ _ _, .lst _ _ _ => true | .tups _ _ _, .tups _ _ _ => true
  | .tup a, .tup b => sameLen a b && tagOk a b
  | a, b => decide (a = b)
def joinN : Nat → Ty → Ty → Ty
  | 0, a, b => if a = b then a else .uni a b
  | n + 1, a, b => if a = b then a else match a, b with
    | .bot, b => b
    | a, .bot => a
    | .int, .rng _ _ => .int
    | .rng _ _, .int => .int
    | .rng a b, .rng c d => .rng (if a ≤ c then a else c) (if b ≤ d then d else b)
    | .str a b, .str c d => .str (if a ≤ c then a else c) (if b ≤ d then d else b)
    | .lit s, .str c d => .str (if s.length ≤ c then s.length else c) (if s.length ≤ d then d else s.length)
    | .str c d, .lit s => .str (if s.length ≤ c then s.length else c) (if s.length ≤ d then d else s.length)
    | .lit s, .lit t => .str (if s.length ≤ t.length then s.length else t.length) (if s.length ≤ t.length then t.length else s.length)
    | .lst t a b, .lst u c d => .lst (joinN n t u) (if a ≤ c then a else c) (if b ≤ d then d else b)
    | .tups t a b, .tups u c d => .tups (joinN n t u) (if a ≤ c then a else c) (if b ≤ d then d else b)
    | .tup a, .tup b => if sameLen a b && tagOk a b then .tup (joinN n a b) else .uni (.tup a) (.tup b)
    | .tc t ts, .tc u us => .tc (joinN n t u) (joinN n ts us)
    | .uni a b, c => if fitsT a c then .uni (joinN n a c) b else if fitsT b c then .uni a (joinN n b c) else .uni a (joinN n b c)
    | a, .uni c d => joinN n (joinN n a c) d
    | a, b => .uni a b
theorem has_join : ∀ (n : Nat) (a b : Ty), (∀ d, Has V a d ∨ Has V b d → Has V (joinN n a b) d) ∧ (∀ ds, HasT V a ds ∨ HasT V b ds → HasT V (joinN n a b) ds)
  | 0, a, b => by
    unfold joinN
    split
    · rename_i h; subst h
      exact ⟨fun d h => h.elim id id, fun d h => h.elim id id⟩
    · exact ⟨fun d h => h.elim .ul .ur, fun d h => h.elim .ul .ur⟩
  | n + 1, a, b => by
    have ih := has_join n
    unfold joinN
    split
    · rename_i h; subst h
      exact ⟨fun d h => h.elim id id, fun d h => h.elim id id⟩
    · split
      · exact ⟨fun d h => h.elim (fun z => nomatch z) id, fun d h => h.elim (fun z => nomatch z) id⟩
      · exact ⟨fun d h => h.elim id (fun z => nomatch z), fun d h => h.elim id (fun z => nomatch z)⟩
      · refine ⟨fun d h => ?_, fun ds h => ?_⟩
        · rcases h with h | h <;> cases h <;> exact .int _
        · rcases h with h | h <;> cases h
      · refine ⟨fun d h => ?_, fun ds h => ?_⟩
        · rcases h with h | h <;> cases h <;> exact .int _
        · rcases h with h | h <;> cases h
      · refine ⟨fun d h => ?_, fun ds h => ?_⟩
        · rcases h with h | h <;> cases h <;> refine .rng ?_ ?_ <;> split <;> omega
        · rcases h with h | h <;> cases h
      · refine ⟨fun d h => ?_, fun ds h => ?_⟩
        · rcases h with h | h <;> cases h <;> refine .str ?_ ?_ <;> split <;> omega
        · rcases h with h | h <;> cases h
      · refine ⟨fun d h => ?_, fun ds h => ?_⟩
        · rcases h with h | h <;> cases h <;> refine .str ?_ ?_ <;> split <;> omega
        · rcases h with h | h <;> cases h
      · refine ⟨fun d h => ?_, fun ds h => ?_⟩
        · rcases h with h | h <;> cases h <;> refine .str ?_ ?_ <;> split <;> omega
        · rcases h with h | h <;> cases h
      · refine ⟨fun d h => ?_, fun ds h => ?_⟩
        · rcases h with h | h <;> cases h <;> refine .str ?_ ?_ <;> split <;> omega
        · rcases h with h | h <;> cases h
      · rename_i t a b u c d _
        refine ⟨fun d h => ?_, fun ds h => ?_⟩
        · rcases h with h | h <;> cases h <;> rename_i h1 h2 h3
          · exact .lst (fun x m => (ih t u).1 x (.inl (h1 x m))) (by split <;> omega) (by split <;> omega)
          · exact .lst (fun x m => (ih t u).1 x (.inr (h1 x m))) (by split <;> omega) (by split <;> omega)
        · rcases h with h | h <;> cases h
      · rename_i t a b u c d _
        refine ⟨fun d h => ?_, fun ds h => ?_⟩
        · rcases h with h | h <;> cases h <;> rename_i h1 h2 h3
          · exact .tups (fun x m => (ih t u).1 x (.inl (h1 x m))) (by split <;> omega) (by split <;> omega)
          · exact .tups (fun x m => (ih t u).1 x (.inr (h1 x m))) (by split <;> omega) (by split <;> omega)
        · rcases h with h | h <;> cases h
      · rename_i a b _
        refine ⟨fun d h => ?_, fun ds h => ?_⟩
        · split
          · rcases h with h | h <;> cases h <;> rename_i h1
            · exact .tup ((ih a b).2 _ (.inl h1))
            · exact .tup ((ih a b).2 _ (.inr h1))
          · exact h.elim .ul .ur
        · rcases h with h | h <;> cases h
      · rename_i t ts u us _
        refine ⟨fun d h => ?_, fun ds h => ?_⟩
        · rcases h with h | h <;> cases h
        · rcases h with h | h <;> cases h <;> rename_i h1 h2
          · exact .cons ((ih t u).1 _ (.inl h1)) ((ih ts us).2 _ (.inl h2))
          · exact .cons ((ih t u).1 _ (.inr h1)) ((ih ts us).2 _ (.inr h2))
      · rename_i a2 b2 _ _
        refine ⟨fun d h => ?_, fun ds h => ?_⟩
        · split
          · rcases h with h | h
            · cases h with
              | ul h => exact .ul ((ih a2 b).1 _ (.inl h))
              | ur h => exact .ur h
            · exact .ul ((ih a2 b).1 _ (.inr h))
          · split <;>
            · rcases h with h | h
              · cases h with
                | ul h => exact .ul h
                | ur h => exact .ur ((ih b2 b).1 _ (.inl h))
              · exact .ur ((ih b2 b).1 _ (.inr h))
        · split
          · rcases h with h | h
            · cases h with
              | ul h => exact .ul ((ih a2 b).2 _ (.inl h))
              | ur h => exact .ur h
            · exact .ul ((ih a2 b).2 _ (.inr h))
          · split <;>
            · rcases h with h | h
              · cases h with
                | ul h => exact .ul h
                | ur h => exact .ur ((ih b2 b).2 _ (.inl h))
              · exact .ur ((ih b2 b).2 _ (.inr h))
      · rename_i c d _ _ _
        refine ⟨fun x h => ?_, fun ds h => ?_⟩
        · refine (ih _ d).1 _ ?_
          rcases h with h | h
          · exact .inl ((ih a c).1 _ (.inl h))
          · cases h with
            | ul h => exact .inl ((ih a c).1 _ (.inr h))
            | ur h => exact .inr h
        · refine (ih _ d).2 _ ?_
          rcases h with h | h
          · exact .inl ((ih a c).2 _ (.inl h))
          · cases h with
            | ul h => exact .inl ((ih a c).2 _ (.inr h))
            | ur h => exact .inr h
      · exact ⟨fun d h => h.elim .ul .ur, fun d h => h.elim .ul .ur⟩
def joinT (a b : Ty) : Ty := joinN 40 a b
theorem join_l {a b : Ty} {d : D} (h : Has V a d) : Has V (joinT a b) d := (has_join 40 a b).1 d (.inl h)
theorem join_r {a b : Ty} {d : D} (h : Has V b d) : Has V (joinT a b) d := (has_join 40 a b).1 d (.inr h)

def leN : Nat → Ty → Ty → Bool
  | 0, a, b => decide (a = b)
  | n + 1, a, b => decide (a = b) || match a, b with
    | _, .any => true
    | .bot, _ => true
    | .uni a b, c => leN n a c && leN n b c
    | .rng _ _, .int => true
    | .rng a b, .rng c d => decide (c ≤ a) && decide (b ≤ d)
    | .str a b, .str c d => decide (c ≤ a) && decide (b ≤ d)
    | .lit s, .str c d => decide (c ≤ s.length) && decide (s.length ≤ d)
    | .lst t a b, .lst u c d => leN n t u && decide (c ≤ a) && decide (b ≤ d)
    | .tups t a b, .tups u c d => leN n t u && decide (c ≤ a) && decide (b ≤ d)
    | .tup a, .tup b => leN n a b
    | .tc t ts, .tc u us => leN n t u && leN n ts us
    | a, .uni c d => leN n a c || leN n a d
    | _, _ => false
theorem has_le : ∀ (n : Nat) (a b : Ty), leN n a b = true → (∀ d, Has V a d → Has V b d) ∧ (∀ ds, HasT V a ds → HasT V b ds)
  | 0, a, b, h => by
    unfold leN at h
    have := of_decide_eq_true h
    subst this
    exact ⟨fun d h => h, fun d h => h⟩
  | n + 1, a, b, h => by
    have ih := has_le n
    unfold leN at h
    rw [Bool.or_eq_true, decide_eq_true_eq] at h
    rcases h with h | h
    · subst h
      exact ⟨fun d h => h, fun d h => h⟩
    · split at h
      · exact ⟨fun d _ => .any d, fun d _ => .any d⟩
      · exact ⟨(fun d h => nomatch h), (fun d h => nomatch h)⟩
      · rename_i a b c _
        rw [Bool.and_eq_true] at h
        refine ⟨fun d hd => ?_, fun d hd => ?_⟩
        · cases hd with
          | ul hd => exact (ih _ _ h.1).1 d hd
          | ur hd => exact (ih _ _ h.2).1 d hd
        · cases hd with
          | ul hd => exact (ih _ _ h.1).2 d hd
          | ur hd => exact (ih _ _ h.2).2 d hd
      · exact ⟨fun d hd => by cases hd; exact .int _, fun d hd => by cases hd⟩
      · rw [Bool.and_eq_true, decide_eq_true_eq, decide_eq_true_eq] at h
        exact ⟨fun d hd => by cases hd; exact .rng (by omega) (by omega), fun d hd => by cases hd⟩
      · rw [Bool.and_eq_true, decide_eq_true_eq, decide_eq_true_eq] at h
        exact ⟨fun d hd => by cases hd; exact .str (by omega) (by omega), fun d hd => by cases hd⟩
      · rw [Bool.and_eq_true, decide_eq_true_eq, decide_eq_true_eq] at h
        exact ⟨fun d hd => by cases hd; exact .str (by omega) (by omega), fun d hd => by cases hd⟩
      · rw [Bool.and_eq_true, Bool.and_eq_true, decide_eq_true_eq, decide_eq_true_eq] at h
        refine ⟨fun d hd => ?_, fun d hd => by cases hd⟩
        cases hd with
        | lst h1 h2 h3 => exact .lst (fun x m => (ih _ _ h.1.1).1 x (h1 x m)) (by omega) (by omega)
      · rw [Bool.and_eq_true, Bool.and_eq_true, decide_eq_true_eq, decide_eq_true_eq] at h
        refine ⟨fun d hd => ?_, fun d hd => by cases hd⟩
        cases hd with
        | tups h1 h2 h3 => exact .tups (fun x m => (ih _ _ h.1.1).1 x (h1 x m)) (by omega) (by omega)
      · refine ⟨fun d hd => ?_, fun d hd => by cases hd⟩
        cases hd with
        | tup hd => exact .tup ((ih _ _ h).2 _ hd)
      · rw [Bool.and_eq_true] at h
        refine ⟨(fun d hd => nomatch hd), fun d hd => ?_⟩
        cases hd with
        | cons h1 h2 => exact .cons ((ih _ _ h.1).1 _ h1) ((ih _ _ h.2).2 _ h2)
      · rw [Bool.or_eq_true] at h
        refine ⟨fun x hd => ?_, fun x hd => ?_⟩
        · rcases h with h | h
          · exact .ul ((ih _ _ h).1 x hd)
          · exact .ur ((ih _ _ h).1 x hd)
        · rcases h with h | h
          · exact .ul ((ih _ _ h).2 x hd)
          · exact .ur ((ih _ _ h).2 x hd)
      · cases h
def leT (a b : Ty) : Bool := leN 40 a b
theorem le_has {a b : Ty} {d : D} (h : leT a b = true) (hd : Has V a d) : Has V b d := (has_le 40 a b h).1 d hd

/-! ### what a kind is like -/
def asInt : Ty → Option (Option (Int × Int))
  | .int => some none
  | .rng a b => some (some (a, b))
  | .uni a b => match asInt a, asInt b with
    | some (some (a, b)), some (some (c, d)) => some (some (if a ≤ c then a else c, if b ≤ d then d else b))
    | some _, some _ => some none
    | _, _ => none
  | _ => none
def InO (o : Option (Int × Int)) (i : Int) : Prop := ∀ a b, o = some (a, b) → a ≤ i ∧ i ≤ b
theorem asInt_ok : ∀ {t : Ty} {o : Option (Int × Int)} {d : D}, asInt t = some o → Has V t d → ∃ i, d = .int i ∧ InO o i
  | .int, o, d, h, hd => by
    cases h; cases hd
    exact ⟨_, rfl, fun a b z => nomatch z⟩
  | .rng a b, o, d, h, hd => by
    cases h; cases hd
    exact ⟨_, rfl, fun a b z => by cases z; exact ⟨by assumption, by assumption⟩⟩
  | .uni t u, o, d, h, hd => by
    unfold asInt at h
    have i1 := fun {o d} => @asInt_ok t o d
    have i2 := fun {o d} => @asInt_ok u o d
    split at h
    · rename_i a b c e h1 h2
      cases h
      cases hd with
      | ul hd =>
        obtain ⟨i, rfl, hi⟩ := i1 h1 hd
        have := hi _ _ rfl
        exact ⟨i, rfl, fun x y z => by cases z; constructor <;> split <;> omega⟩
      | ur hd =>
        obtain ⟨i, rfl, hi⟩ := i2 h2 hd
        have := hi _ _ rfl
        exact ⟨i, rfl, fun x y z => by cases z; constructor <;> split <;> omega⟩
    · rename_i _ h1 h2
      cases h
      cases hd with
      | ul hd =>
        obtain ⟨i, rfl, _⟩ := i1 h1 hd
        exact ⟨i, rfl, fun a b z => nomatch z⟩
      | ur hd =>
        obtain ⟨i, rfl, _⟩ := i2 h2 hd
        exact ⟨i, rfl, fun a b z => nomatch z⟩
    · cases h
  | .any, _, _, h, _ => nomatch h
  | .non, _, _, h, _ => nomatch h
  | .bl, _, _, h, _ => nomatch h
  | .str _ _, _, _, h, _ => nomatch h
  | .lit _, _, _, h, _ => nomatch h
  | .tn, _, _, h, _ => nomatch h
  | .tc _ _, _, _, h, _ => nomatch h
  | .tup _, _, _, h, _ => nomatch h
  | .tups _ _ _, _, _, h, _ => nomatch h
  | .lst _ _ _, _, _, h, _ => nomatch h
  | .bot, _, _, h, _ => nomatch h
  | (.tv _), _, _, h, _ => nomatch h
  | .scr, _, _, h, _ => nomatch h
def ofO : Option (Int × Int) → Ty
  | some (a, b) => .rng a b
  | none => .int
theorem ofO_has {o : Option (Int × Int)} {i : Int} (h : InO o i) : Has V (ofO o) (.int i) := by
  cases o with
  | none => exact .int i
  | some p => exact .rng (h _ _ rfl).1 (h _ _ rfl).2
def asStr : Ty → Option (Nat × Nat)
  | .str a b => some (a, b)
  | .lit s => some (s.length, s.length)
  | .uni a b => match asStr a, asStr b with
    | some (a, b), some (c, d) => some (if a ≤ c then a else c, if b ≤ d then d else b)
    | _, _ => none
  | _ => none
theorem asStr_ok : ∀ {t : Ty} {a b : Nat} {d : D}, asStr t = some (a, b) → Has V t d → ∃ s, d = .str s ∧ a ≤ s.length ∧ s.length ≤ b
  | .str _ _, a, b, d, h, hd => by
    cases h; cases hd
    exact ⟨_, rfl, by assumption, by assumption⟩
  | .lit s, a, b, d, h, hd => by
    cases h; cases hd
    exact ⟨_, rfl, Nat.le_refl _, Nat.le_refl _⟩
  | .uni t u, a, b, d, h, hd => by
    unfold asStr at h
    have i1 := fun {a b d} => @asStr_ok t a b d
    have i2 := fun {a b d} => @asStr_ok u a b d
    split at h
    · rename_i a b c e h1 h2
      cases h
      cases hd with
      | ul hd =>
        obtain ⟨i, rfl, h3, h4⟩ := i1 h1 hd
        exact ⟨i, rfl, by split <;> omega, by split <;> omega⟩
      | ur hd =>
        obtain ⟨i, rfl, h3, h4⟩ := i2 h2 hd
        exact ⟨i, rfl, by split <;> omega, by split <;> omega⟩
    · cases h
  | .any, _, _, _, h, _ => nomatch h
  | .non, _, _, _, h, _ => nomatch h
  | .bl, _, _, _, h, _ => nomatch h
  | .int, _, _, _, h, _ => nomatch h
  | .rng _ _, _, _, _, h, _ => nomatch h
  | .tn, _, _, _, h, _ => nomatch h
  | .tc _ _, _, _, _, h, _ => nomatch h
  | .tup _, _, _, _, h, _ => nomatch h
  | .tups _ _ _, _, _, _, h, _ => nomatch h
  | .lst _ _ _, _, _, _, h, _ => nomatch h
  | .bot, _, _, _, h, _ => nomatch h
  | (.tv _), _, _, _, h, _ => nomatch h
  | .scr, _, _, _, h, _ => nomatch h
def asLst : Ty → Option (Ty × Nat × Nat)
  | .lst t a b => some (t, a, b)
  | .uni a b => match asLst a, asLst b with
    | some (t, a, b), some (u, c, d) => some (joinT t u, if a ≤ c then a else c, if b ≤ d then d else b)
    | _, _ => none
  | _ => none
theorem asLst_ok : ∀ {t u : Ty} {a b : Nat} {d : D}, asLst t = some (u, a, b) → Has V t d → ∃ s, d = .lst s ∧ (∀ x, x ∈ s → Has V u x) ∧ a ≤ s.length ∧ s.length ≤ b
  | .lst _ _ _, u, a, b, d, h, hd => by
    cases h; cases hd
    exact ⟨_, rfl, by assumption, by assumption, by assumption⟩
  | .uni t t', u, a, b, d, h, hd => by
    unfold asLst at h
    have i1 := fun {u a b d} => @asLst_ok t u a b d
    have i2 := fun {u a b d} => @asLst_ok t' u a b d
    split at h
    · rename_i h1 h2
      cases h
      cases hd with
      | ul hd =>
        obtain ⟨i, rfl, h3, h4, h5⟩ := i1 h1 hd
        exact ⟨i, rfl, fun x m => join_l (h3 x m), by split <;> omega, by split <;> omega⟩
      | ur hd =>
        obtain ⟨i, rfl, h3, h4, h5⟩ := i2 h2 hd
        exact ⟨i, rfl, fun x m => join_r (h3 x m), by split <;> omega, by split <;> omega⟩
    · cases h
  | .any, _, _, _, _, h, _ => nomatch h
  | .non, _, _, _, _, h, _ => nomatch h
  | .bl, _, _, _, _, h, _ => nomatch h
  | .int, _, _, _, _, h, _ => nomatch h
  | .rng _ _, _, _, _, _, h, _ => nomatch h
  | .str _ _, _, _, _, _, h, _ => nomatch h
  | .lit _, _, _, _, _, h, _ => nomatch h
  | .tn, _, _, _, _, h, _ => nomatch h
  | .tc _ _, _, _, _, _, h, _ => nomatch h
  | .tup _, _, _, _, _, h, _ => nomatch h
  | .tups _ _ _, _, _, _, _, h, _ => nomatch h
  | .bot, _, _, _, _, h, _ => nomatch h
  | (.tv _), _, _, _, _, h, _ => nomatch h
  | .scr, _, _, _, _, h, _ => nomatch h
def asTups : Ty → Option (Ty × Nat × Nat)
  | .tups t a b => some (t, a, b)
  | _ => none
theorem asTups_ok {t u : Ty} {a b : Nat} {d : D} (h : asTups t = some (u, a, b)) (hd : Has V t d) : ∃ s, d = .tup s ∧ (∀ x, x ∈ s → Has V u x) ∧ a ≤ s.length ∧ s.length ≤ b := by
  cases t <;> first | (cases h; done) | skip
  cases h; cases hd
  exact ⟨_, rfl, by assumption, by assumption, by assumption⟩
/-- the items of a tuple, one by one -/
def chn : Ty → Option (List Ty)
  | .tn => some []
  | .tc t ts => (chn ts).map (t :: ·)
  | _ => none
def zipJ : List Ty → List Ty → Option (List Ty)
  | [], [] => some []
  | a :: as, b :: bs => (zipJ as bs).map (joinT a b :: ·)
  | _, _ => none
def asTup : Ty → Option (List Ty)
  | .tup ts => chn ts
  | .uni a b => match asTup a, asTup b with
    | some x, some y => zipJ x y
    | _, _ => none
  | _ => none
inductive Has2 (V : Nat → D → Prop) : List Ty → List D → Prop
  | nil : Has2 V [] []
  | cons {t : Ty} {ts : List Ty} {d : D} {ds : List D} : Has V t d → Has2 V ts ds → Has2 V (t :: ts) (d :: ds)
theorem chn_ok : ∀ {ts : Ty} {l : List Ty} {ds : List D}, chn ts = some l → HasT V ts ds → Has2 V l ds
  | .tn, l, ds, h, hd => by cases h; cases hd; exact .nil
  | .tc t ts, l, ds, h, hd => by
    unfold chn at h
    obtain ⟨l', h1, rfl⟩ := Option.map_eq_some_iff.mp h
    cases hd with
    | cons a b => exact .cons a (chn_ok h1 b)
  | .any, _, _, h, _ => nomatch h
  | .non, _, _, h, _ => nomatch h
  | .bl, _, _, h, _ => nomatch h
  | .int, _, _, h, _ => nomatch h
  | .rng _ _, _, _, h, _ => nomatch h
  | .str _ _, _, _, h, _ => nomatch h
  | .lit _, _, _, h, _ => nomatch h
  | .tup _, _, _, h, _ => nomatch h
  | .tups _ _ _, _, _, h, _ => nomatch h
  | .lst _ _ _, _, _, h, _ => nomatch h
  | .uni _ _, _, _, h, _ => nomatch h
  | .bot, _, _, h, _ => nomatch h
  | (.tv _), _, _, h, _ => nomatch h
  | .scr, _, _, h, _ => nomatch h
theorem zipJ_ok : ∀ {a b c : List Ty} {ds : List D}, zipJ a b = some c → Has2 V a ds ∨ Has2 V b ds → Has2 V c ds
  | [], [], c, ds, h, hd => by
    cases h
    exact hd.elim id id
  | x :: xs, y :: ys, c, ds, h, hd => by
    unfold zipJ at h
    obtain ⟨l', h1, rfl⟩ := Option.map_eq_some_iff.mp h
    rcases hd with hd | hd
    · cases hd with
      | cons p q => exact .cons (join_l p) (zipJ_ok h1 (.inl q))
    · cases hd with
      | cons p q => exact .cons (join_r p) (zipJ_ok h1 (.inr q))
  | [], _ :: _, _, _, h, _ => nomatch h
  | _ :: _, [], _, _, h, _ => nomatch h
theorem asTup_ok : ∀ {t : Ty} {l : List Ty} {d : D}, asTup t = some l → Has V t d → ∃ ds, d = .tup ds ∧ Has2 V l ds
  | .tup ts, l, d, h, hd => by
    cases hd with
    | tup hd => exact ⟨_, rfl, chn_ok h hd⟩
  | .uni t u, l, d, h, hd => by
    unfold asTup at h
    split at h
    · rename_i h1 h2
      cases hd with
      | ul hd =>
        obtain ⟨ds, rfl, q⟩ := asTup_ok h1 hd
        exact ⟨ds, rfl, zipJ_ok h (.inl q)⟩
      | ur hd =>
        obtain ⟨ds, rfl, q⟩ := asTup_ok h2 hd
        exact ⟨ds, rfl, zipJ_ok h (.inr q)⟩
    · cases h
  | .any, _, _, h, _ => nomatch h
  | .non, _, _, h, _ => nomatch h
  | .bl, _, _, h, _ => nomatch h
  | .int, _, _, h, _ => nomatch h
  | .rng _ _, _, _, h, _ => nomatch h
  | .str _ _, _, _, h, _ => nomatch h
  | .lit _, _, _, h, _ => nomatch h
  | .tn, _, _, h, _ => nomatch h
  | .tc _ _, _, _, h, _ => nomatch h
  | .tups _ _ _, _, _, h, _ => nomatch h
  | .lst _ _ _, _, _, h, _ => nomatch h
  | .bot, _, _, h, _ => nomatch h
  | (.tv _), _, _, h, _ => nomatch h
  | .scr, _, _, h, _ => nomatch h
theorem Has2.len : ∀ {l : List Ty} {ds : List D}, Has2 V l ds → l.length = ds.length
  | _, _, .nil => rfl
  | _, _, .cons _ b => by rw [List.length_cons, List.length_cons, b.len]
theorem Has2.get : ∀ {l : List Ty} {ds : List D} {i : Nat} {t : Ty}, Has2 V l ds → l[i]? = some t → ∃ d, ds[i]? = some d ∧ Has V t d
  | _, _, _, _, .nil, e => by simp at e
  | _, _, 0, _, .cons r _, e => by simp at e; subst e; exact ⟨_, rfl, r⟩
  | _, _, i + 1, t, .cons _ q, e => by
    obtain ⟨v, h1, h2⟩ := Has2.get (i := i) (t := t) q (by simpa using e)
    exact ⟨v, by simpa using h1, h2⟩

/-! ### operators -/
def addO : Option (Int × Int) → Option (Int × Int) → Option (Int × Int)
  | some (a, b), some (c, d) => some (a + c, b + d)
  | _, _ => none
def subO : Option (Int × Int) → Option (Int × Int) → Option (Int × Int)
  | some (a, b), some (c, d) => some (a - d, b - c)
  | _, _ => none
def smallO : Option (Int × Int) → Bool
  | some (a, b) => decide (-18446744073709551616 < a) && decide (b < 18446744073709551616)
  | none => false
def mulO : Option (Int × Int) → Option (Int × Int) → Option (Int × Int)
  | some (a, b), some (c, d) => if 0 ≤ a ∧ 0 ≤ c then some (a * c, b * d) else none
  | _, _ => none
def binT (op : BOp) (a b : Ty) : Option Ty := match asInt a, asInt b with
  | some x, some y => match op with
    | .add => some (ofO (addO x y))
    | .sub => some (ofO (subO x y))
    | .mul => if smallO x || smallO y then some (ofO (mulO x y)) else none
    | .mod => match y with
      | some (c, d) => if 0 < c then some (.rng 0 (d - 1)) else none
      | none => none
    | .fdiv => match y with
      | some (c, d) => if 0 < c ∧ d < 1073741824 then (match x with
        | some (p, q) => if 0 ≤ p then some (.rng 0 (if c = d then q.fdiv c else q)) else some .int
        | none => some .int) else none
      | none => none
    | .cat => none
  | _, _ => match asStr a, asStr b with
    | some (p, q), some (r, s) => if op = .add ∧ q + s ≤ lim then some (.str (p + r) (q + s)) else none
    | _, _ => match asLst a, asLst b with
      | some (t, p, q), some (u, r, s) => if (op = .add ∨ op = .cat) ∧ q + s ≤ lim then some (.lst (joinT t u) (p + r) (q + s)) else none
      | _, _ => none
theorem binT_ok {op : BOp} {a b t : Ty} {x y : D} (h : binT op a b = some t) (ha : Has V a x) (hb : Has V b y) : ∃ z, binD op x y = .ok z ∧ Has V t z := by
  unfold binT at h
  split at h
  · rename_i o p h1 h2
    obtain ⟨i, rfl, hi⟩ := asInt_ok h1 ha
    obtain ⟨j, rfl, hj⟩ := asInt_ok h2 hb
    cases op with
    | add =>
      cases h
      refine ⟨_, rfl, ofO_has fun c d e => ?_⟩
      cases o <;> cases p <;> simp only [addO] at e <;> first | (cases e; done) | skip
      cases e
      have := hi _ _ rfl
      have := hj _ _ rfl
      omega
    | sub =>
      cases h
      refine ⟨_, rfl, ofO_has fun c d e => ?_⟩
      cases o <;> cases p <;> simp only [subO] at e <;> first | (cases e; done) | skip
      cases e
      have := hi _ _ rfl
      have := hj _ _ rfl
      omega
    | mul =>
      simp only at h
      split at h
      · rename_i hs
        cases h
        have hm : mulOk i j = true := by
          unfold mulOk
          simp only [Bool.or_eq_true, Bool.and_eq_true, decide_eq_true_eq] at hs ⊢
          rcases hs with hs | hs
          · cases o with
            | none => cases hs
            | some o =>
              obtain ⟨c, d⟩ := o
              have := hi _ _ rfl
              simp only [smallO, Bool.and_eq_true, decide_eq_true_eq] at hs
              left; omega
          · cases p with
            | none => cases hs
            | some o =>
              obtain ⟨c, d⟩ := o
              have := hj _ _ rfl
              simp only [smallO, Bool.and_eq_true, decide_eq_true_eq] at hs
              right; omega
        refine ⟨.int (i * j), by simp only [binD, hm, if_true], ofO_has fun c d e => ?_⟩
        cases o <;> cases p <;> simp only [mulO] at e <;> first | (cases e; done) | skip
        split at e
        · rename_i hz
          cases e
          have h1 := hi _ _ rfl
          have h2 := hj _ _ rfl
          exact ⟨Int.mul_le_mul h1.1 h2.1 hz.2 (by omega), Int.mul_le_mul h1.2 h2.2 (by omega) (by omega)⟩
        · cases e
      · cases h
    | mod =>
      simp only at h
      split at h
      · split at h
        · rename_i hz
          cases h
          have h2 := hj _ _ rfl
          have hne : j ≠ 0 := by omega
          refine ⟨.int (i.fmod j), by simp only [binD, if_neg hne], .rng (Int.fmod_nonneg_of_pos _ (by omega)) ?_⟩
          have := Int.fmod_lt_of_pos i (b := j) (by omega)
          omega
        · cases h
      · cases h
    | fdiv =>
      simp only at h
      split at h
      · rename_i c d
        split at h
        · rename_i hz
          have h2 := hj _ _ rfl
          have hne : j ≠ 0 ∧ j.natAbs < 1073741824 := by omega
          refine ⟨.int (i.fdiv j), by simp only [binD, if_pos hne], ?_⟩
          split at h
          · rename_i p q
            have h1 := hi _ _ rfl
            split at h
            · cases h
              have e0 : i.fdiv j = i / j := Int.fdiv_eq_ediv_of_nonneg _ (by omega)
              refine .rng ?_ ?_
              · rw [e0]; exact Int.ediv_nonneg (by omega) (by omega)
              · split
                · rename_i hcd
                  have hjc : j = c := by omega
                  subst hjc
                  rw [e0, Int.fdiv_eq_ediv_of_nonneg _ (by omega : (0 : Int) ≤ j)]
                  exact Int.ediv_le_ediv (by omega) h1.2
                · rw [e0]
                  have : i / j ≤ i := Int.ediv_le_self _ (by omega)
                  omega
            · cases h; exact .int _
          · cases h; exact .int _
        · cases h
      · cases h
    | cat => cases h
  · split at h
    · rename_i h1 h2
      split at h
      · rename_i hz
        cases h
        obtain ⟨s, rfl, h3, h4⟩ := asStr_ok h1 ha
        obtain ⟨s', rfl, h5, h6⟩ := asStr_ok h2 hb
        obtain ⟨rfl, hz⟩ := hz
        have hl : s.length + s'.length ≤ lim := by omega
        exact ⟨.str (s ++ s'), by simp only [binD, if_pos hl], .str (by rw [PySem.Str.length_append]; omega) (by rw [PySem.Str.length_append]; omega)⟩
      · cases h
    · split at h
      · rename_i h1 h2
        split at h
        · rename_i hz
          cases h
          obtain ⟨s, rfl, h7, h3, h4⟩ := asLst_ok h1 ha
          obtain ⟨s', rfl, h8, h5, h6⟩ := asLst_ok h2 hb
          obtain ⟨ho, hz⟩ := hz
          have hl : s.length + s'.length ≤ lim := by omega
          refine ⟨.lst (s ++ s'), ?_, .lst (fun x m => ?_) (by rw [List.length_append]; omega) (by rw [List.length_append]; omega)⟩
          · rcases ho with rfl | rfl <;> simp only [binD, if_pos hl]
          · rcases List.mem_append.mp m with m | m
            · exact join_l (h7 x m)
            · exact join_r (h8 x m)
        · cases h
      · cases h
/-- == and in compare item by item -/
def plT : Ty → Nat → Bool
  | .non, _ => true
  | .int, _ => true
  | .rng _ _, _ => true
  | .str _ _, _ => true
  | .lit _, _ => true
  | .tn, _ => true
  | .bot, _ => true
  | .tc t ts, n => plT t n && plT ts n
  | .tup ts, n => match n with
    | 0 => false
    | n + 1 => plT ts n
  | .tups t _ _, n => match n with
    | 0 => false
    | n + 1 => plT t n
  | .lst t _ _, n => match n with
    | 0 => false
    | n + 1 => plT t n
  | .uni a b, n => plT a n && plT b n
  | .any, _ => false
  | .bl, _ => false
  | .scr, _ => false
  | .tv _, _ => false
theorem plT_ok : ∀ (t : Ty) (n : Nat), plT t n = true → (∀ d, Has V t d → plainN n d = true) ∧ (∀ ds, HasT V t ds → ∀ d ∈ ds, plainN n d = true)
  | .non, n, h => ⟨fun d hd => by cases hd; cases n <;> rfl, fun ds hd => nomatch hd⟩
  | .int, n, h => ⟨fun d hd => by cases hd; cases n <;> rfl, fun ds hd => nomatch hd⟩
  | .rng _ _, n, h => ⟨fun d hd => by cases hd; cases n <;> rfl, fun ds hd => nomatch hd⟩
  | .str _ _, n, h => ⟨fun d hd => by cases hd; cases n <;> rfl, fun ds hd => nomatch hd⟩
  | .lit _, n, h => ⟨fun d hd => by cases hd; cases n <;> rfl, fun ds hd => nomatch hd⟩
  | .tn, n, h => ⟨(fun d hd => nomatch hd), fun ds hd => by cases hd; exact fun d m => nomatch m⟩
  | .bot, n, h => ⟨(fun d hd => nomatch hd), fun ds hd => nomatch hd⟩
  | .tc t ts, n, h => ⟨(fun d hd => nomatch hd), fun ds hd d m => by
      unfold plT at h
      rw [Bool.and_eq_true] at h
      cases hd with
      | cons a b =>
        rcases List.mem_cons.mp m with rfl | m
        · exact (plT_ok t n h.1).1 _ a
        · exact (plT_ok ts n h.2).2 _ b d m⟩
  | .tup ts, n, h => ⟨fun d hd => by
      cases n with
      | zero => cases h
      | succ n =>
        cases hd with
        | tup a =>
          rw [plainN, List.all_eq_true]
          exact fun d m => (plT_ok ts n h).2 _ a d m, fun ds hd => nomatch hd⟩
  | .tups t _ _, n, h => ⟨fun d hd => by
      cases n with
      | zero => cases h
      | succ n =>
        cases hd with
        | tups a _ _ =>
          rw [plainN, List.all_eq_true]
          exact fun d m => (plT_ok t n h).1 _ (a d m), fun ds hd => nomatch hd⟩
  | .lst t _ _, n, h => ⟨fun d hd => by
      cases n with
      | zero => cases h
      | succ n =>
        cases hd with
        | lst a _ _ =>
          rw [plainN, List.all_eq_true]
          exact fun d m => (plT_ok t n h).1 _ (a d m), fun ds hd => nomatch hd⟩
  | .uni a b, n, h => by
    unfold plT at h
    rw [Bool.and_eq_true] at h
    refine ⟨fun d hd => ?_, fun ds hd => ?_⟩
    · cases hd with
      | ul hd => exact (plT_ok a n h.1).1 d hd
      | ur hd => exact (plT_ok b n h.2).1 d hd
    · cases hd with
      | ul hd => exact (plT_ok a n h.1).2 ds hd
      | ur hd => exact (plT_ok b n h.2).2 ds hd
  | .any, _, h => nomatch h
  | .bl, _, h => nomatch h
  | .scr, _, h => nomatch h
  | .tv _, _, h => nomatch h
theorem pl_of {t : Ty} {d : D} (h : plT t 30 = true) (hd : Has V t d) : MP.plain d = true := (plT_ok t 30 h).1 d hd
def isNonT : Ty → Bool
  | .non => true
  | _ => false
def plSeq (b : Ty) : Bool := match asLst b with
  | some (t, _, _) => plT t 30
  | none => match asTups b with
    | some (t, _, _) => plT t 30
    | none => match asTup b with
      | some l => l.all fun t => plT t 30
      | none => false
def inT (a b : Ty) : Bool := (asStr a).isSome && (asStr b).isSome || plT a 30 && plSeq b
def cmpT (op : CO) (a b : Ty) : Bool := match op with
  | .eq => plT a 30 && plT b 30
  | .ne => plT a 30 && plT b 30
  | .lt => (asInt a).isSome && (asInt b).isSome || (asStr a).isSome && (asStr b).isSome
  | .le => (asInt a).isSome && (asInt b).isSome
  | .gt => (asInt a).isSome && (asInt b).isSome
  | .ge => (asInt a).isSome && (asInt b).isSome
  | .isin => inT a b
  | .notin => inT a b
  | .is => isNonT b
  | .isnot => isNonT b
theorem someInt {t : Ty} {d : D} (h : (asInt t).isSome = true) (hd : Has V t d) : ∃ i, d = .int i := by
  obtain ⟨o, ho⟩ := Option.isSome_iff_exists.mp h
  obtain ⟨i, rfl, _⟩ := asInt_ok ho hd
  exact ⟨i, rfl⟩
theorem someStr {t : Ty} {d : D} (h : (asStr t).isSome = true) (hd : Has V t d) : ∃ i, d = .str i := by
  obtain ⟨⟨a, b⟩, ho⟩ := Option.isSome_iff_exists.mp h
  obtain ⟨i, rfl, _⟩ := asStr_ok ho hd
  exact ⟨i, rfl⟩
theorem plSeq_ok {b : Ty} {y : D} (h : plSeq b = true) (hb : Has V b y) : ∃ ys, (y = .lst ys ∨ y = .tup ys) ∧ ys.all MP.plain = true := by
  unfold plSeq at h
  split at h
  · rename_i t _ _ e
    obtain ⟨s, rfl, h1, _⟩ := asLst_ok e hb
    exact ⟨s, .inl rfl, by rw [List.all_eq_true]; exact fun x m => pl_of h (h1 x m)⟩
  · split at h
    · rename_i t _ _ e
      obtain ⟨s, rfl, h1, _⟩ := asTups_ok e hb
      exact ⟨s, .inr rfl, by rw [List.all_eq_true]; exact fun x m => pl_of h (h1 x m)⟩
    · split at h
      · rename_i l e
        obtain ⟨ds, rfl, h2⟩ := asTup_ok e hb
        refine ⟨ds, .inr rfl, ?_⟩
        clear e hb
        induction h2 with
        | nil => rfl
        | cons a b ih =>
          rw [List.all_cons, Bool.and_eq_true] at h ⊢
          exact ⟨pl_of h.1 a, ih h.2⟩
      · cases h
theorem inT_ok {a b : Ty} {x y : D} (h : inT a b = true) (ha : Has V a x) (hb : Has V b y) : Oks (inD x y) := by
  unfold inT at h
  rw [Bool.or_eq_true, Bool.and_eq_true, Bool.and_eq_true] at h
  rcases h with h | h
  · obtain ⟨s, rfl⟩ := someStr h.1 ha
    obtain ⟨t, rfl⟩ := someStr h.2 hb
    exact ⟨_, rfl⟩
  · obtain ⟨ys, hy, hp⟩ := plSeq_ok h.2 hb
    rcases hy with rfl | rfl
    · exact ⟨_, in_plain (pl_of h.1 ha) hp (fun _ => .inr trivial)⟩
    · exact ⟨_, in_plainT (pl_of h.1 ha) hp⟩
theorem cmpT_ok {op : CO} {a b : Ty} {x y : D} (h : cmpT op a b = true) (ha : Has V a x) (hb : Has V b y) : Oks (cmpD op x y) := by
  cases op <;> simp only [cmpT, Bool.and_eq_true, Bool.or_eq_true] at h
  · exact ⟨_, eqD_plain (pl_of h.1 ha) (pl_of h.2 hb)⟩
  · exact ⟨_, by rw [cmpD, eqD_plain (pl_of h.1 ha) (pl_of h.2 hb)]; rfl⟩
  · rcases h with h | h
    · obtain ⟨i, rfl⟩ := someInt h.1 ha
      obtain ⟨j, rfl⟩ := someInt h.2 hb
      exact ⟨_, rfl⟩
    · obtain ⟨i, rfl⟩ := someStr h.1 ha
      obtain ⟨j, rfl⟩ := someStr h.2 hb
      exact ⟨_, rfl⟩
  · obtain ⟨i, rfl⟩ := someInt h.1 ha
    obtain ⟨j, rfl⟩ := someInt h.2 hb
    exact ⟨_, rfl⟩
  · obtain ⟨i, rfl⟩ := someInt h.1 ha
    obtain ⟨j, rfl⟩ := someInt h.2 hb
    exact ⟨_, rfl⟩
  · obtain ⟨i, rfl⟩ := someInt h.1 ha
    obtain ⟨j, rfl⟩ := someInt h.2 hb
    exact ⟨_, rfl⟩
  · exact inT_ok h ha hb
  · obtain ⟨k, hk⟩ := inT_ok h ha hb
    exact ⟨!k, by rw [cmpD, hk]; rfl⟩
  · cases b <;> first | (cases h; done) | skip
    cases hb
    exact ⟨_, rfl⟩
  · cases b <;> first | (cases h; done) | skip
    cases hb
    exact ⟨_, rfl⟩

/-! ### items, slices -/
def fitIx (i j : Int) (lo : Nat) : Bool := decide (0 ≤ i) && decide (j < lo) || decide (j < 0) && decide (-(lo : Int) ≤ i)
theorem atD_ok {α : Type} {xs : List α} {i j k : Int} {lo : Nat} (h : fitIx i j lo = true) (h1 : i ≤ k) (h2 : k ≤ j) (hl : lo ≤ xs.length) : ∃ x, atD xs k = .ok x ∧ x ∈ xs := by
  unfold fitIx at h
  simp only [Bool.or_eq_true, Bool.and_eq_true, decide_eq_true_eq] at h
  unfold atD
  rcases h with h | h
  · have hlt : k.toNat < xs.length := by omega
    rw [if_pos (by omega), List.getElem?_eq_getElem hlt]
    exact ⟨_, rfl, List.getElem_mem _⟩
  · have hlt : (k + xs.length).toNat < xs.length := by omega
    rw [if_neg (by omega), if_pos (by omega), List.getElem?_eq_getElem hlt]
    exact ⟨_, rfl, List.getElem_mem _⟩
def tyIdx (a b : Ty) : Option Ty := match asInt b with
  | some (some (i, j)) => (match asLst a with
    | some (t, lo, _) => if fitIx i j lo then some t else none
    | none => match asTups a with
      | some (t, lo, _) => if fitIx i j lo then some t else none
      | none => match asStr a with
        | some (lo, _) => if fitIx i j lo then some (.str 1 1) else none
        | none => match asTup a with
          | some l => if i = j ∧ 0 ≤ i then l[i.toNat]? else none
          | none => none)
  | _ => none
theorem tyIdx_ok {a b t : Ty} {x y : D} (h : tyIdx a b = some t) (ha : Has V a x) (hb : Has V b y) : ∃ z, idxD x y = .ok z ∧ Has V t z := by
  unfold tyIdx at h
  split at h
  · rename_i i j e
    obtain ⟨k, rfl, hk⟩ := asInt_ok e hb
    have hk := hk _ _ rfl
    split at h
    · rename_i e2
      obtain ⟨s, rfl, h1, h2, h3⟩ := asLst_ok e2 ha
      split at h
      · rename_i hf
        cases h
        obtain ⟨z, h4, h5⟩ := atD_ok hf hk.1 hk.2 h2
        exact ⟨z, h4, h1 z h5⟩
      · cases h
    · split at h
      · rename_i e2
        obtain ⟨s, rfl, h1, h2, h3⟩ := asTups_ok e2 ha
        split at h
        · rename_i hf
          cases h
          obtain ⟨z, h4, h5⟩ := atD_ok hf hk.1 hk.2 h2
          exact ⟨z, h4, h1 z h5⟩
        · cases h
      · split at h
        · rename_i e2
          obtain ⟨s, rfl, h1, h2⟩ := asStr_ok e2 ha
          split at h
          · rename_i hf
            cases h
            have hl : s.length = s.cps.toList.length := by rw [Array.length_toList]; rfl
            obtain ⟨z, h4, h5⟩ := atD_ok (xs := s.cps.toList) hf hk.1 hk.2 (by omega)
            exact ⟨.str ⟨#[z]⟩, by simp only [idxD, h4, R.bind_ok], .str (Nat.le_refl 1) (Nat.le_refl 1)⟩
          · cases h
        · split at h
          · rename_i e2
            obtain ⟨ds, rfl, h2⟩ := asTup_ok e2 ha
            split at h
            · rename_i hf
              obtain ⟨z, h4, h5⟩ := h2.get h
              refine ⟨z, ?_, h5⟩
              have hki : k = i := by omega
              subst hki
              show atD ds k = _
              unfold atD
              rw [if_pos hf.2, h4]
              rfl
            · cases h
          · cases h
  · cases h
def tySl (a : Ty) : Option Ty := match asLst a with
  | some (t, _, hi) => some (.lst t 0 hi)
  | none => match asStr a with
    | some (_, hi) => some (.str 0 hi)
    | none => none
theorem slice_len {α : Type} (xs : List α) (lo hi : Option Int) : (sliceL xs lo hi).length ≤ xs.length := by
  unfold sliceL
  rw [List.length_take, List.length_drop]
  omega
theorem slice_mem {α : Type} {xs : List α} {lo hi : Option Int} {x : α} (h : x ∈ sliceL xs lo hi) : x ∈ xs := by
  unfold sliceL at h
  exact List.mem_of_mem_drop (List.mem_of_mem_take h)
theorem tySl_ok {a t : Ty} {x : D} {l r : Option Int} (h : tySl a = some t) (ha : Has V a x) : ∃ z, sliD x l r = .ok z ∧ Has V t z := by
  unfold tySl at h
  split at h
  · rename_i e
    cases h
    obtain ⟨s, rfl, h1, h2, h3⟩ := asLst_ok e ha
    exact ⟨_, rfl, .lst (fun x m => h1 x (slice_mem m)) (Nat.zero_le _) (Nat.le_trans (slice_len _ _ _) h3)⟩
  · split at h
    · rename_i e
      cases h
      obtain ⟨s, rfl, h1, h2⟩ := asStr_ok e ha
      exact ⟨_, rfl, .str (Nat.zero_le _) (Nat.le_trans (L2.cutS_length _ _ _) h2)⟩
    · cases h

/-! ### built-ins -/
def sortT (t : Ty) : Bool := (asInt t).isSome || (asStr t).isSome
theorem sortT_ok {t : Ty} {ds : List D} (h : sortT t = true) (hd : ∀ d, d ∈ ds → Has V t d) : sortOk ds = true := by
  unfold sortT at h
  rw [Bool.or_eq_true] at h
  rcases h with h | h
  · obtain ⟨is, rfl, _⟩ := asMap (f := D.int) (P := fun _ : Int => True) (ys := ds) fun y m => by
      obtain ⟨i, rfl⟩ := someInt h (hd y m)
      exact ⟨i, rfl, trivial⟩
    exact sort_ints is
  · obtain ⟨is, rfl, _⟩ := asMap (f := D.str) (P := fun _ : Str => True) (ys := ds) fun y m => by
      obtain ⟨i, rfl⟩ := someStr h (hd y m)
      exact ⟨i, rfl, trivial⟩
    exact strs_ok is
def biT (b : BI) (a : Ty) : Option Ty := match b with
  | .len => (match asLst a with
    | some (_, lo, hi) => some (.rng lo hi)
    | none => match asTups a with
      | some (_, lo, hi) => some (.rng lo hi)
      | none => match asStr a with
        | some (lo, hi) => some (.rng lo hi)
        | none => match asTup a with
          | some l => some (.rng l.length l.length)
          | none => none)
  | .sorted => (match asLst a with
    | some (t, lo, hi) => if sortT t then some (.lst t lo hi) else none
    | none => none)
  | .tuple => (match asLst a with
    | some (t, lo, hi) => some (.tups t lo hi)
    | none => none)
  | .list => (match asLst a with
    | some (t, lo, hi) => some (.lst t lo hi)
    | none => match asTups a with
      | some (t, lo, hi) => some (.lst t lo hi)
      | none => none)
  | .sum => (match asLst a with
    | some (t, _, _) => if (asInt t).isSome then some .int else none
    | none => none)
  | .int => (match a with
    | .bl => some (.rng 0 1)
    | _ => none)
  | .isInt => if plT a 30 || decide (a = .bl) then some .bl else none
  | .isBool => if plT a 30 || decide (a = .bl) then some .bl else none
  | .isStr => if plT a 30 || decide (a = .bl) then some .bl else none
  | .isTuple => if plT a 30 || decide (a = .bl) then some .bl else none
  | .isList => if plT a 30 || decide (a = .bl) then some .bl else none
  | _ => none
theorem intsOf_map (ns : List Int) : intsOf (ns.map .int) = some ns := by
  induction ns with
  | nil => rfl
  | cons n ns ih => show (intsOf (ns.map .int)).map _ = _; rw [ih]; rfl
theorem isi_ok {b : BI} {a : Ty} {x : D} (hb : isIsi b = true) (h : (plT a 30 || decide (a = .bl)) = true) (ha : Has V a x) : ∃ z, biD b [x] = .ok z ∧ Has V .bl z := by
  have : (∃ k, x = .bl k) ∨ MP.plain x = true := by
    rw [Bool.or_eq_true, decide_eq_true_eq] at h
    rcases h with h | rfl
    · exact .inr (pl_of h ha)
    · cases ha; exact .inl ⟨_, rfl⟩
  rcases this with ⟨k, rfl⟩ | hp
  · cases b <;> first | (cases hb; done) | exact ⟨_, rfl, .bl _⟩
  · cases x <;> first | (simp [MP.plain, plainN] at hp; done) | (cases b <;> first | (cases hb; done) | exact ⟨_, rfl, .bl _⟩)
theorem biT_ok {b : BI} {a t : Ty} {x : D} (h : biT b a = some t) (ha : Has V a x) : ∃ z, biD b [x] = .ok z ∧ Has V t z := by
  cases b <;> simp only [biT] at h <;> first | (cases h; done) | skip
  · split at h
    · rename_i e
      cases h
      obtain ⟨s, rfl, h1, h2, h3⟩ := asLst_ok e ha
      exact ⟨_, rfl, .rng (by omega) (by omega)⟩
    · split at h
      · rename_i e
        cases h
        obtain ⟨s, rfl, h1, h2, h3⟩ := asTups_ok e ha
        exact ⟨_, rfl, .rng (by omega) (by omega)⟩
      · split at h
        · rename_i e
          cases h
          obtain ⟨s, rfl, h2, h3⟩ := asStr_ok e ha
          exact ⟨_, rfl, .rng (by omega) (by omega)⟩
        · split at h
          · rename_i e
            cases h
            obtain ⟨s, rfl, h2⟩ := asTup_ok e ha
            have := h2.len
            exact ⟨_, rfl, .rng (by omega) (by omega)⟩
          · cases h
  · split at h
    · rename_i e
      split at h
      · rename_i hs
        cases h
        obtain ⟨s, rfl, h1, h2, h3⟩ := asLst_ok e ha
        have hl := (sortL_perm s).length_eq
        exact ⟨.lst (sortL s), by simp only [biD, sortD, sortT_ok hs h1, if_true], .lst (fun x m => h1 x (sortL_mem.mp m)) (by omega) (by omega)⟩
      · cases h
    · cases h
  · split at h
    · rename_i e
      cases h
      obtain ⟨s, rfl, h1, h2, h3⟩ := asLst_ok e ha
      exact ⟨_, rfl, .tups h1 h2 h3⟩
    · cases h
  · split at h
    · rename_i e
      cases h
      obtain ⟨s, rfl, h1, h2, h3⟩ := asLst_ok e ha
      exact ⟨_, rfl, .lst h1 h2 h3⟩
    · split at h
      · rename_i e
        cases h
        obtain ⟨s, rfl, h1, h2, h3⟩ := asTups_ok e ha
        exact ⟨_, rfl, .lst h1 h2 h3⟩
      · cases h
  · split at h
    · cases h
      cases ha
      exact ⟨_, rfl, .rng (by split <;> omega) (by split <;> omega)⟩
    · cases h
  · split at h
    · rename_i e
      split at h
      · rename_i hs
        cases h
        obtain ⟨s, rfl, h1, h2, h3⟩ := asLst_ok e ha
        obtain ⟨is, rfl, _⟩ := asMap (f := D.int) (P := fun _ : Int => True) (ys := s) fun y m => by
          obtain ⟨i, rfl⟩ := someInt hs (h1 y m)
          exact ⟨i, rfl, trivial⟩
        exact ⟨.int is.sum, by simp only [biD, intsOf_map], .int _⟩
      · cases h
    · cases h
  all_goals
    split at h
    · rename_i hs
      cases h
      exact isi_ok rfl hs ha
    · cases h
theorem joinL_ge (S : List Nat) : ∀ parts : List (List Nat), (parts.map (·.length)).sum ≤ (TL.joinL S parts).length
  | [] => by simp [TL.joinL]
  | [p] => by simp [TL.joinL]
  | p :: p2 :: r => by
    have ih := joinL_ge S (p2 :: r)
    simp only [TL.joinL, List.length_append, List.map_cons, List.sum_cons] at ih ⊢
    omega
theorem join_ge (a : Str) (ys : List Str) : (ys.map (·.length)).sum ≤ (Txt.join a ys).length := by
  rw [TL.join_eq, TL.len_tl, TL.tl_join]
  refine Nat.le_trans ?_ (joinL_ge _ _)
  rw [List.map_map]
  have e : ((fun l : List Nat => l.length) ∘ TL.tl) = fun y : Str => y.length := by funext y; exact (TL.len_tl y).symm
  rw [e]
  exact Nat.le_refl _
theorem sum_in {ys : List Str} {a b : Nat} (h : ∀ y ∈ ys, a ≤ y.length ∧ y.length ≤ b) : ys.length * a ≤ (ys.map (·.length)).sum ∧ (ys.map (·.length)).sum ≤ ys.length * b := by
  induction ys with
  | nil => simp
  | cons y ys ih =>
    have h1 := ih fun z m => h z (List.mem_cons_of_mem _ m)
    have h2 := h y List.mem_cons_self
    rw [List.map_cons, List.sum_cons, List.length_cons, Nat.succ_mul, Nat.succ_mul]
    omega
theorem strsOf_map0 (l : List Str) : strsOf (l.map .str) = some l := by
  induction l with
  | nil => rfl
  | cons n ns ih => show (strsOf (ns.map .str)).map _ = _; rw [ih]; rfl
def meT (m : ME) (a b : Ty) : Option Ty := match m with
  | .join => (match asStr a, asLst b with
    | some (_, q), some (t, lo, hi) => (match asStr t with
      | some (c, d) => if hi * d + hi * q ≤ lim then some (.str (lo * c) (hi * d + hi * q)) else none
      | none => if hi = 0 then some (.str 0 0) else none)
    | _, _ => none)
  | .find => (match asStr a, asStr b with
    | some _, some _ => some .int
    | _, _ => none)
  | _ => none
theorem meT_ok {m : ME} {a b t : Ty} {x y : D} (h : meT m a b = some t) (ha : Has V a x) (hb : Has V b y) : ∃ z, meD m x [y] = .ok z ∧ Has V t z := by
  cases m <;> simp only [meT] at h <;> first | (cases h; done) | skip
  · split at h
    · rename_i h1 h2
      obtain ⟨s, rfl, h3, h4⟩ := asStr_ok h1 ha
      obtain ⟨l, rfl, h5, h6, h7⟩ := asLst_ok h2 hb
      split at h
      · rename_i c d e
        split at h
        · rename_i hz
          cases h
          obtain ⟨ys, rfl, hy⟩ := asMap (f := D.str) (P := fun z : Str => c ≤ z.length ∧ z.length ≤ d) (ys := l) fun y m => by
            obtain ⟨i, rfl, p, q⟩ := asStr_ok e (h5 y m)
            exact ⟨i, rfl, p, q⟩
          rw [List.length_map] at h6 h7
          obtain ⟨g1, g2⟩ := sum_in hy
          have g3 := join_len s ys
          have g4 := join_ge s ys
          have g5 := Nat.mul_le_mul_right c h6
          have g6 := Nat.mul_le_mul_right d h7
          have g7 := Nat.mul_le_mul h7 h4
          refine ⟨.str (Txt.join s ys), ?_, .str (by omega) (by omega)⟩
          simp only [meD, strsOf_map0]
          rw [if_pos (by omega)]
        · cases h
      · split at h
        · rename_i hz
          cases h
          have : l = [] := List.length_eq_zero_iff.mp (by omega)
          subst this
          have g3 := join_len s []
          simp only [List.map_nil, List.sum_nil, List.length_nil, Nat.zero_mul] at g3
          exact ⟨.str (Txt.join s []), (by simp only [meD, strsOf, List.map_nil, List.sum_nil, List.length_nil, Nat.zero_mul]; rfl), .str (Nat.zero_le _) (by omega)⟩
        · cases h
    · cases h
  · split at h
    · rename_i h1 h2
      obtain ⟨s, rfl, _⟩ := asStr_ok h1 ha
      obtain ⟨s', rfl, _⟩ := asStr_ok h2 hb
      cases h
      exact ⟨_, rfl, .int _⟩
    · cases h

/-! ### expressions -/
abbrev TEnv := List (Option Ty)
def EnvOk (V : Nat → D → Prop) (Γ : TEnv) (r : Env) : Prop := Γ.length = r.length ∧ ∀ (i : Nat) (t : Ty), Γ[i]? = some (some t) → ∃ d, r[i]? = some (some d) ∧ Has V t d
theorem EnvOk.set {Γ : TEnv} {r : Env} (h : EnvOk V Γ r) (i : Nat) {t : Ty} {d : D} (hd : Has V t d) : EnvOk V (Γ.set i (some t)) (r.set i (some d)) := by
  refine ⟨by rw [List.length_set, List.length_set]; exact h.1, fun j u e => ?_⟩
  by_cases hj : i = j
  · subst hj
    by_cases hl : i < Γ.length
    · rw [List.getElem?_set_self hl] at e
      cases e
      exact ⟨d, List.getElem?_set_self (h.1 ▸ hl), hd⟩
    · rw [List.getElem?_eq_none (by rw [List.length_set]; omega)] at e; cases e
  · rw [List.getElem?_set_ne hj] at e ⊢
    exact h.2 j u e
theorem EnvOk.kill {Γ : TEnv} {r : Env} (h : EnvOk V Γ r) (i : Nat) : EnvOk V (Γ.set i none) (r.set i none) := by
  refine ⟨by rw [List.length_set, List.length_set]; exact h.1, fun j u e => ?_⟩
  by_cases hj : i = j
  · subst hj
    by_cases hl : i < Γ.length
    · rw [List.getElem?_set_self hl] at e; cases e
    · rw [List.getElem?_eq_none (by rw [List.length_set]; omega)] at e; cases e
  · rw [List.getElem?_set_ne hj] at e ⊢
    exact h.2 j u e
def killT : List Nat → TEnv → TEnv
  | [], r => r
  | i :: is, r => killT is (r.set i none)
theorem EnvOk.kills : ∀ (ks : List Nat) {Γ : TEnv} {r : Env}, EnvOk V Γ r → EnvOk V (killT ks Γ) (killR ks r)
  | [], _, _, h => h
  | k :: ks, _, _, h => EnvOk.kills ks (h.kill k)
def varT (i : Nat) (Γ : TEnv) : Option Ty := match Γ[i]? with
  | some (some t) => some t
  | _ => none
theorem varT_ok {i : Nat} {Γ : TEnv} {r : Env} {t : Ty} (h : EnvOk V Γ r) (e : varT i Γ = some t) : ∃ d, varE i r = .ok d ∧ Has V t d := by
  unfold varT at e
  split at e
  · rename_i u hu
    cases e
    obtain ⟨d, h1, h2⟩ := h.2 i _ hu
    exact ⟨d, by unfold varE; rw [h1], h2⟩
  · cases e
def setManyT : TEnv → List Nat → List Ty → TEnv
  | r, i :: is, d :: ds => setManyT (r.set i (some d)) is ds
  | r, _, _ => r
theorem setMany_ok : ∀ (is : List Nat) {l : List Ty} {ds : List D} {Γ : TEnv} {r : Env}, EnvOk V Γ r → Has2 V l ds → EnvOk V (setManyT Γ is l) (setMany r is ds)
  | [], _, _, _, _, h, .nil => h
  | [], _, _, _, _, h, .cons _ _ => h
  | _ :: _, _, _, _, _, h, .nil => h
  | i :: is, _, _, _, _, h, .cons a b => setMany_ok is (h.set i a) b
def asgT (g : IG) (t : Ty) (Γ : TEnv) : Option TEnv := match g with
  | .nm i => some (Γ.set i (some t))
  | .tp is => match asTup t with
    | some l => if l.length = is.length then some (setManyT Γ is l) else none
    | none => none
theorem asgT_ok {g : IG} {t : Ty} {Γ Γ' : TEnv} {r : Env} {d : D} (h : EnvOk V Γ r) (e : asgT g t Γ = some Γ') (hd : Has V t d) : ∃ r', asgG g d r = .ok r' ∧ EnvOk V Γ' r' := by
  cases g with
  | nm i => cases e; exact ⟨_, rfl, h.set i hd⟩
  | tp is =>
    simp only [asgT] at e
    split at e
    · rename_i l hl
      split at e
      · rename_i hz
        cases e
        obtain ⟨ds, rfl, h2⟩ := asTup_ok hl hd
        refine ⟨setMany r is ds, ?_, setMany_ok is h h2⟩
        simp only [asgG]
        rw [if_pos (by rw [← h2.len, hz])]
      · cases e
    · cases e
abbrev Sg := List (Str × List Ty × Ty)
def leAll : List Ty → List Ty → Bool
  | [], [] => true
  | a :: as, b :: bs => leT a b && leAll as bs
  | _, _ => false
theorem leAll_ok : ∀ {as bs : List Ty} {ds : List D}, leAll as bs = true → Has2 V as ds → Has2 V bs ds
  | [], [], _, _, h => h
  | a :: as, b :: bs, _, e, .cons p q => by
    unfold leAll at e
    rw [Bool.and_eq_true] at e
    exact .cons (le_has e.1 p) (leAll_ok e.2 q)
  | [], _ :: _, _, e, _ => nomatch e
  | _ :: _, [], _, e, _ => nomatch e
def callT : Sg → Str → List Ty → Option Ty
  | [], _, _ => none
  | (g, us, t) :: r, f, ts => if g = f ∧ leAll ts us = true then some t else callT r f ts
/-- what a def promises by kinds -/
def SgOk (V : Nat → D → Prop) (F : Orc) (sg : Sg) : Prop := ∀ f us t, (f, us, t) ∈ sg → ∀ ds, Has2 V us ds → ∃ d, F f ds = .ok d ∧ Has V t d
theorem callT_ok {F : Orc} {f : Str} {ts : List Ty} {t : Ty} {ds : List D} : ∀ {sg : Sg}, SgOk V F sg → callT sg f ts = some t → Has2 V ts ds → ∃ d, F f ds = .ok d ∧ Has V t d
  | [], _, e, _ => nomatch e
  | (g, us, u) :: r, h, e, hd => by
    unfold callT at e
    split at e
    · rename_i hz
      cases e
      obtain ⟨rfl, hz⟩ := hz
      exact h _ _ _ List.mem_cons_self ds (leAll_ok hz hd)
    · exact callT_ok (fun f us t m => h f us t (List.mem_cons_of_mem _ m)) e hd
def mkT : List Ty → Ty
  | [] => .tn
  | t :: ts => .tc t (mkT ts)
theorem mkT_ok : ∀ {l : List Ty} {ds : List D}, Has2 V l ds → HasT V (mkT l) ds
  | _, _, .nil => .nil
  | _, _, .cons a b => .cons a (mkT_ok b)
def joinAll : List Ty → Ty
  | [] => .bot
  | [t] => t
  | t :: ts => joinT t (joinAll ts)
theorem joinAll_ok : ∀ {l : List Ty} {ds : List D}, Has2 V l ds → ∀ d ∈ ds, Has V (joinAll l) d
  | _, _, .nil, _, m => nomatch m
  | [t], [d], .cons a .nil, _, m => by rw [List.mem_singleton.mp m]; exact a
  | t :: u :: ts, _, .cons a b, x, m => by
    rcases List.mem_cons.mp m with rfl | m
    · exact join_l a
    · exact join_r (joinAll_ok b x m)
def isBl : Ty → Bool
  | .bl => true
  | _ => false
theorem isBl_ok {t : Ty} {d : D} (h : isBl t = true) (hd : Has V t d) : ∃ b, d = .bl b := by
  cases t <;> first | (cases h; done) | skip
  cases hd; exact ⟨_, rfl⟩
def negO : Option (Int × Int) → Option (Int × Int)
  | some (a, b) => some (-b, -a)
  | none => none
/-- xs[e % len(xs)] -/
def modLen (Γ : TEnv) (a b : IE) : Option Ty := match a, b with
  | .var i, .bin .mod _ (.bi .len (.cons (.var j) .nil)) => if i = j then (match varT i Γ with
    | some t => match asLst t with
      | some (u, lo, _) => if 1 ≤ lo then some u else none
      | none => none
    | none => none) else none
  | .var i, .bin .sub (.bi .len (.cons (.var j) .nil)) (.int 1) => if i = j then (match varT i Γ with
    | some t => match asLst t with
      | some (u, lo, _) => if 1 ≤ lo then some u else none
      | none => none
    | none => none) else none
  | _, _ => none
def iterT (t : Ty) : Option (Ty × Nat × Nat) := match asLst t with
  | some x => some x
  | none => match asTups t with
    | some x => some x
    | none => match asStr t with
      | some (lo, hi) => some (.str 1 1, lo, hi)
      | none => none
def zipT (a b : Ty) : Option (Ty × Nat × Nat) := match asLst a, asLst b with
  | some (t, p, q), some (u, r, s) => some (.tup (.tc t (.tc u .tn)), if p ≤ r then p else r, if q ≤ s then q else s)
  | _, _ => match asTups a, asTups b with
    | some (t, p, q), some (u, r, s) => some (.tup (.tc t (.tc u .tn)), if p ≤ r then p else r, if q ≤ s then q else s)
    | _, _ => none
def small62o : Option (Int × Int) → Option (Int × Int)
  | some (a, b) => if -4611686018427387904 ≤ a ∧ b < 4611686018427387904 then some (a, b) else none
  | none => none
/-- what a test that holds, or does not, tells -/
def lastTag (s : Str) : Ty → Bool
  | .tup (.tc (.lit t) _) => decide (t = s)
  | _ => false
def offTag (s : Str) : Ty → Bool
  | .tup (.tc (.lit t) _) => !decide (t = s)
  | _ => false
def keepTag (s : Str) : Ty → Ty
  | .uni a b => if offTag s a then keepTag s b else if offTag s b then keepTag s a else .uni (keepTag s a) (keepTag s b)
  | t => t
def dropTag (s : Str) : Ty → Ty
  | .uni a b => if lastTag s a then dropTag s b else if lastTag s b then dropTag s a else .uni (dropTag s a) (dropTag s b)
  | t => t
theorem offTag_ok {s : Str} {t : Ty} {d : D} (h : offTag s t = true) (hd : Has V t d) : idxD d (.int 0) ≠ .ok (.str s) := by
  unfold offTag at h
  split at h
  · cases hd with
    | tup hd =>
      cases hd with
      | cons a b =>
        cases a
        intro z
        have z : R.ok (D.str _) = R.ok (D.str s) := z
        cases z
        simp at h
  · cases h
theorem lastTag_ok {s : Str} {t : Ty} {d : D} (h : lastTag s t = true) (hd : Has V t d) : idxD d (.int 0) = .ok (.str s) := by
  unfold lastTag at h
  split at h
  · have := of_decide_eq_true h
    subst this
    cases hd with
    | tup hd =>
      cases hd with
      | cons a b =>
        cases a
        rfl
  · cases h
theorem keepTag_ok {s : Str} {d : D} (hs : idxD d (.int 0) = .ok (.str s)) : ∀ t : Ty, Has V t d → Has V (keepTag s t) d
  | .uni a b, hd => by
    unfold keepTag
    split
    · rename_i h
      cases hd with
      | ul hd => exact absurd hs (offTag_ok h hd)
      | ur hd => exact keepTag_ok hs b hd
    · split
      · rename_i h
        cases hd with
        | ul hd => exact keepTag_ok hs a hd
        | ur hd => exact absurd hs (offTag_ok h hd)
      · cases hd with
        | ul hd => exact .ul (keepTag_ok hs a hd)
        | ur hd => exact .ur (keepTag_ok hs b hd)
  | .any, hd => hd
  | .non, hd => hd
  | .bl, hd => hd
  | .int, hd => hd
  | .rng _ _, hd => hd
  | .str _ _, hd => hd
  | .lit _, hd => hd
  | .tn, hd => hd
  | .tc _ _, hd => hd
  | .tup _, hd => hd
  | .tups _ _ _, hd => hd
  | .lst _ _ _, hd => hd
  | .bot, hd => hd
  | .scr, hd => hd
  | .tv _, hd => hd
theorem dropTag_ok {s : Str} {d : D} (hs : idxD d (.int 0) ≠ .ok (.str s)) : ∀ t : Ty, Has V t d → Has V (dropTag s t) d
  | .uni a b, hd => by
    unfold dropTag
    split
    · rename_i h
      cases hd with
      | ul hd => exact absurd (lastTag_ok h hd) hs
      | ur hd => exact dropTag_ok hs b hd
    · split
      · rename_i h
        cases hd with
        | ul hd => exact dropTag_ok hs a hd
        | ur hd => exact absurd (lastTag_ok h hd) hs
      · cases hd with
        | ul hd => exact .ul (dropTag_ok hs a hd)
        | ur hd => exact .ur (dropTag_ok hs b hd)
  | .any, hd => hd
  | .non, hd => hd
  | .bl, hd => hd
  | .int, hd => hd
  | .rng _ _, hd => hd
  | .str _ _, hd => hd
  | .lit _, hd => hd
  | .tn, hd => hd
  | .tc _ _, hd => hd
  | .tup _, hd => hd
  | .tups _ _ _, hd => hd
  | .lst _ _ _, hd => hd
  | .bot, hd => hd
  | .scr, hd => hd
  | .tv _, hd => hd
theorem reset_ok {i : Nat} {Γ : TEnv} {r : Env} {d : D} {t : Ty} (h : EnvOk V Γ r) (hv : varE i r = .ok d) (hd : Has V t d) : EnvOk V (Γ.set i (some t)) r := by
  have e : r.set i (some d) = r := by
    unfold varE at hv
    split at hv
    · rename_i d' hd
      cases hv
      exact List.ext_getElem? fun k => by
        by_cases hk : i = k
        · subst hk
          rw [List.getElem?_set_self (List.getElem?_eq_some_iff.mp hd).1, hd]
        · rw [List.getElem?_set_ne hk]
    · cases hv
  rw [← e]
  exact h.set i hd
def bumpT (i : Nat) (Γ : TEnv) : TEnv := match varT i Γ with
  | some (.lst t lo hi) => Γ.set i (some (.lst t (if 1 ≤ lo then lo else 1) hi))
  | _ => Γ
def onTag (f : Ty → Ty) (i : Nat) (Γ : TEnv) : TEnv := match varT i Γ with
  | some t => Γ.set i (some (f t))
  | none => Γ
def refT (c : IE) (Γ : TEnv) : TEnv := match c with
  | .cmp .ne (.var i) (.lst .nil) => bumpT i Γ
  | .and (.cons (.cmp .ne (.var i) (.lst .nil)) _) => bumpT i Γ
  | .cmp .eq (.idx (.var i) (.int 0)) (.str s) => onTag (keepTag s) i Γ
  | .cmp .ne (.idx (.var i) (.int 0)) (.str s) => onTag (dropTag s) i Γ
  | _ => Γ
def refF (c : IE) (Γ : TEnv) : TEnv := match c with
  | .cmp .eq (.var i) (.lst .nil) => bumpT i Γ
  | .cmp .eq (.idx (.var i) (.int 0)) (.str s) => onTag (dropTag s) i Γ
  | .cmp .ne (.idx (.var i) (.int 0)) (.str s) => onTag (keepTag s) i Γ
  | _ => Γ
def refC (c : IO) (Γ : TEnv) : TEnv := match c with
  | .yes c => refT c Γ
  | .no => Γ
theorem bumpT_ok {i : Nat} {Γ : TEnv} {r : Env} (h : EnvOk V Γ r) (hn : varE i r ≠ .ok (.lst [])) : EnvOk V (bumpT i Γ) r := by
  unfold bumpT
  split
  · rename_i t lo hi hv
    obtain ⟨d, h1, h2⟩ := varT_ok h hv
    cases h2 with
    | lst h3 h4 h5 =>
      rename_i ds
      have hl : 1 ≤ ds.length := by
        cases ds with
        | nil => exact absurd h1 hn
        | cons _ _ => simp
      exact reset_ok h h1 (.lst h3 (by split <;> omega) h5)
  · exact h
theorem onTag_ok {f : Ty → Ty} {i : Nat} {Γ : TEnv} {r : Env} (h : EnvOk V Γ r) (hf : ∀ d t, varE i r = .ok d → Has V t d → Has V (f t) d) : EnvOk V (onTag f i Γ) r := by
  unfold onTag
  split
  · rename_i t hv
    obtain ⟨d, h1, h2⟩ := varT_ok h hv
    exact reset_ok h h1 (hf d t h1 h2)
  · exact h
theorem ne_nil {F : Orc} {i : Nat} {r : Env} (h : evalE F (.cmp .ne (.var i) (.lst .nil)) r = .ok (.bl true)) : varE i r ≠ .ok (.lst []) := by
  intro z
  rw [evalE, evalE, z, evalE, evalEs] at h
  cases h
theorem eq_nil {F : Orc} {i : Nat} {r : Env} (h : evalE F (.cmp .eq (.var i) (.lst .nil)) r = .ok (.bl false)) : varE i r ≠ .ok (.lst []) := by
  intro z
  rw [evalE, evalE, z, evalE, evalEs] at h
  cases h
theorem eqD_s {x : D} {s : Str} {b : Bool} (h : eqD x (.str s) = .ok b) : b = decide (x = .str s) := by
  cases x <;> simp only [eqD] at h <;> (split at h <;> cases h <;> rfl)
theorem tag_eq {F : Orc} {i : Nat} {s : Str} {r : Env} {b : Bool} {d : D} (h : evalE F (.cmp .eq (.idx (.var i) (.int 0)) (.str s)) r = .ok (.bl b)) (hv : varE i r = .ok d) : (b = true → idxD d (.int 0) = .ok (.str s)) ∧ (b = false → idxD d (.int 0) ≠ .ok (.str s)) := by
  simp only [evalE, hv, R.bind_ok] at h
  obtain ⟨x, h1, h⟩ := R.bind_eq_ok.mp h
  obtain ⟨k, h2, h⟩ := R.bind_eq_ok.mp h
  cases h
  rw [cmpD] at h2
  have := eqD_s h2
  subst this
  rw [h1]
  exact ⟨fun z => by rw [of_decide_eq_true z], fun z e => by cases e; simp at z⟩
theorem tag_ne {F : Orc} {i : Nat} {s : Str} {r : Env} {b : Bool} {d : D} (h : evalE F (.cmp .ne (.idx (.var i) (.int 0)) (.str s)) r = .ok (.bl b)) (hv : varE i r = .ok d) : (b = false → idxD d (.int 0) = .ok (.str s)) ∧ (b = true → idxD d (.int 0) ≠ .ok (.str s)) := by
  simp only [evalE, hv, R.bind_ok] at h
  obtain ⟨x, h1, h⟩ := R.bind_eq_ok.mp h
  obtain ⟨k, h2, h⟩ := R.bind_eq_ok.mp h
  cases h
  rw [cmpD] at h2
  obtain ⟨k', h3, h2⟩ := R.bind_eq_ok.mp h2
  cases h2
  have := eqD_s h3
  subst this
  rw [h1]
  refine ⟨fun z => ?_, fun z e => by cases e; simp at z⟩
  have : x = .str s := by simpa using z
  rw [this]
theorem refT_ok {F : Orc} {c : IE} {Γ : TEnv} {r : Env} (h : EnvOk V Γ r) (hc : evalE F c r = .ok (.bl true)) : EnvOk V (refT c Γ) r := by
  unfold refT
  split
  · exact bumpT_ok h (ne_nil hc)
  · refine bumpT_ok h (ne_nil (F := F) ?_)
    rw [evalE, evalAnd] at hc
    obtain ⟨b, h1, h2⟩ := R.bind_eq_ok.mp hc
    obtain ⟨x, h3, h4⟩ := R.bind_eq_ok.mp h1
    obtain ⟨k, h5, h6⟩ := R.bind_eq_ok.mp h4
    cases x <;> simp only [unbl] at h5 <;> cases h5
    cases k
    · cases h6; cases h2
    · exact h3
  · exact onTag_ok h fun d t hv hd => keepTag_ok ((tag_eq hc hv).1 rfl) t hd
  · exact onTag_ok h fun d t hv hd => dropTag_ok ((tag_ne hc hv).2 rfl) t hd
  · exact h
theorem refF_ok {F : Orc} {c : IE} {Γ : TEnv} {r : Env} (h : EnvOk V Γ r) (hc : evalE F c r = .ok (.bl false)) : EnvOk V (refF c Γ) r := by
  unfold refF
  split
  · exact bumpT_ok h (eq_nil hc)
  · exact onTag_ok h fun d t hv hd => dropTag_ok ((tag_eq hc hv).2 rfl) t hd
  · exact onTag_ok h fun d t hv hd => keepTag_ok ((tag_ne hc hv).1 rfl) t hd
  · exact h
section
variable (sg : Sg)
mutual
def tyE : IE → TEnv → Option Ty
  | .var i, Γ => varT i Γ
  | .con _ _, _ => none
  | .int n, _ => some (.rng n n)
  | .str s, _ => some (.lit s)
  | .bl _, _ => some .bl
  | .non, _ => some .non
  | .tup es, Γ => (tyEs es Γ).bind fun l => some (.tup (mkT l))
  | .lst es, Γ => (tyEs es Γ).bind fun l => some (.lst (joinAll l) l.length l.length)
  | .edic, _ => none
  | .bin op a b, Γ => (tyE a Γ).bind fun x => (tyE b Γ).bind fun y => binT op x y
  | .neg a, Γ => (tyE a Γ).bind fun x => (asInt x).bind fun o => some (ofO (negO o))
  | .cmp op a b, Γ => (tyE a Γ).bind fun x => (tyE b Γ).bind fun y => if cmpT op x y then some .bl else none
  | .chn o1 o2 a b c, Γ => (tyE a Γ).bind fun x => (tyE b Γ).bind fun y => (tyE c Γ).bind fun z => if cmpT o1 x y && cmpT o2 y z then some .bl else none
  | .and es, Γ => if tyBs es Γ then some .bl else none
  | .or es, Γ => if tyBs es Γ then some .bl else none
  | .not a, Γ => (tyE a Γ).bind fun x => if isBl x then some .bl else none
  | .ife c a b, Γ => (tyE c Γ).bind fun x => (tyE a Γ).bind fun y => (tyE b Γ).bind fun z => if isBl x then some (joinT y z) else none
  | .idx a b, Γ => (tyE a Γ).bind fun x => (tyE b Γ).bind fun y => match tyIdx x y with
    | some t => some t
    | none => modLen Γ a b
  | .sl a lo hi, Γ => (tyE a Γ).bind fun x => if tyO lo Γ && tyO hi Γ then tySl x else none
  | .rev a, Γ => (tyE a Γ).bind fun x => (asLst x).bind fun l => some (.lst l.1 l.2.1 l.2.2)
  | .call f es, Γ => (tyEs es Γ).bind fun ts => callT sg f ts
  | .lend _ _ _, _ => none
  | .bi b es, Γ => (tyEs es Γ).bind fun ts => match ts with
    | [t] => biT b t
    | _ => none
  | .me m a es, Γ => (tyE a Γ).bind fun x => (tyEs es Γ).bind fun ts => match ts with
    | [t] => meT m x t
    | _ => none
  | .comp g it c e, Γ => (tyI it Γ).bind fun q => (asgT g q.1 Γ).bind fun Γ' => (tyC c Γ').bind fun full => (tyE e (refC c Γ')).bind fun u => if q.2.2 ≤ lim then some (.lst u (if full then q.2.1 else 0) q.2.2) else none
def tyEs : IEs → TEnv → Option (List Ty)
  | .nil, _ => some []
  | .cons e es, Γ => (tyE e Γ).bind fun t => (tyEs es Γ).bind fun ts => some (t :: ts)
def tyBs : IEs → TEnv → Bool
  | .nil, _ => true
  | .cons e es, Γ => (match tyE e Γ with
    | some t => isBl t
    | none => false) && tyBs es Γ
def tyO : IO → TEnv → Bool
  | .no, _ => true
  | .yes e, Γ => match tyE e Γ with
    | some t => (asInt t).isSome
    | none => false
def tyC : IO → TEnv → Option Bool
  | .no, _ => some true
  | .yes e, Γ => (tyE e Γ).bind fun t => if isBl t then some false else none
def tyI : II → TEnv → Option (Ty × Nat × Nat)
  | .of e, Γ => (tyE e Γ).bind iterT
  | .rng1 a, Γ => (tyE a Γ).bind fun x => (asInt x).bind fun o => (small62o o).bind fun p => some (.rng 0 (p.2 - 1), p.1.toNat, p.2.toNat)
  | .rng2 a b, Γ => (tyE a Γ).bind fun x => (asInt x).bind fun o => (small62o o).bind fun p => (tyE b Γ).bind fun y => (asInt y).bind fun o' => (small62o o').bind fun q => some (.rng p.1 (q.2 - 1), (q.1 - p.2).toNat, (q.2 - p.1).toNat)
  | .enum _, _ => none
  | .zip a b, Γ => (tyE a Γ).bind fun x => (tyE b Γ).bind fun y => zipT x y
  | .items _, _ => none
  | .keys _, _ => none
end
end
theorem iterT_ok {t u : Ty} {lo hi : Nat} {d : D} (h : iterT t = some (u, lo, hi)) (hd : Has V t d) : ∃ xs, seqD d = .ok xs ∧ (∀ x, x ∈ xs → Has V u x) ∧ lo ≤ xs.length ∧ xs.length ≤ hi := by
  unfold iterT at h
  split at h
  · rename_i e
    cases h
    obtain ⟨s, rfl, h1, h2, h3⟩ := asLst_ok e hd
    exact ⟨s, rfl, h1, h2, h3⟩
  · split at h
    · rename_i e
      cases h
      obtain ⟨s, rfl, h1, h2, h3⟩ := asTups_ok e hd
      exact ⟨s, rfl, h1, h2, h3⟩
    · split at h
      · rename_i e
        cases h
        obtain ⟨s, rfl, h2, h3⟩ := asStr_ok e hd
        have hl : s.length = s.cps.toList.length := by rw [Array.length_toList]; rfl
        refine ⟨_, rfl, fun x m => ?_, by rw [List.length_map]; omega, by rw [List.length_map]; omega⟩
        obtain ⟨c, _, rfl⟩ := List.mem_map.mp m
        exact .str (Nat.le_refl 1) (Nat.le_refl 1)
      · cases h
theorem zip_mem {xs ys : List D} {x : D} (h : x ∈ xs.zipWith (fun u v => D.tup [u, v]) ys) : ∃ u v, u ∈ xs ∧ v ∈ ys ∧ x = .tup [u, v] := by
  induction xs generalizing ys with
  | nil => simp at h
  | cons a xs ih =>
    cases ys with
    | nil => simp at h
    | cons b ys =>
      rw [List.zipWith_cons_cons] at h
      rcases List.mem_cons.mp h with rfl | h
      · exact ⟨a, b, List.mem_cons_self, List.mem_cons_self, rfl⟩
      · obtain ⟨u, v, h1, h2, h3⟩ := ih h
        exact ⟨u, v, List.mem_cons_of_mem _ h1, List.mem_cons_of_mem _ h2, h3⟩
theorem zipT_ok {a b u : Ty} {lo hi : Nat} {x y : D} (h : zipT a b = some (u, lo, hi)) (ha : Has V a x) (hb : Has V b y) : ∃ xs, zipD x y = .ok xs ∧ (∀ x, x ∈ xs → Has V u x) ∧ lo ≤ xs.length ∧ xs.length ≤ hi := by
  unfold zipT at h
  split at h
  · rename_i e1 e2
    cases h
    obtain ⟨s, rfl, h1, h2, h3⟩ := asLst_ok e1 ha
    obtain ⟨s', rfl, h4, h5, h6⟩ := asLst_ok e2 hb
    refine ⟨_, rfl, fun x m => ?_, ?_, ?_⟩
    · obtain ⟨u, v, m1, m2, rfl⟩ := zip_mem m
      exact .tup (.cons (h1 u m1) (.cons (h4 v m2) .nil))
    · rw [List.length_zipWith]; split <;> omega
    · rw [List.length_zipWith]; split <;> omega
  · split at h
    · rename_i e1 e2
      cases h
      obtain ⟨s, rfl, h1, h2, h3⟩ := asTups_ok e1 ha
      obtain ⟨s', rfl, h4, h5, h6⟩ := asTups_ok e2 hb
      refine ⟨_, rfl, fun x m => ?_, ?_, ?_⟩
      · obtain ⟨u, v, m1, m2, rfl⟩ := zip_mem m
        exact .tup (.cons (h1 u m1) (.cons (h4 v m2) .nil))
      · rw [List.length_zipWith]; split <;> omega
      · rw [List.length_zipWith]; split <;> omega
    · cases h
theorem small62o_ok {o : Option (Int × Int)} {p : Int × Int} {i : Int} (h : small62o o = some p) (hi : InO o i) : p.1 ≤ i ∧ i ≤ p.2 ∧ small62 i = true := by
  cases o with
  | none => cases h
  | some q =>
    obtain ⟨a, b⟩ := q
    simp only [small62o] at h
    split at h
    · rename_i hz
      cases h
      have := hi _ _ rfl
      refine ⟨this.1, this.2, ?_⟩
      unfold small62
      simp only [Bool.and_eq_true, decide_eq_true_eq]
      omega
    · cases h
theorem modLen_ok {F : Orc} {Γ : TEnv} {r : Env} {a b : IE} {t : Ty} {x y : D} (h : EnvOk V Γ r) (e : modLen Γ a b = some t) (h1 : evalE F a r = .ok x) (h2 : evalE F b r = .ok y) : ∃ z, idxD x y = .ok z ∧ Has V t z := by
  unfold modLen at e
  split at e
  · rename_i i c j
    split at e
    · rename_i hij
      subst hij
      split at e
      · rename_i u hu
        split at e
        · rename_i v lo hi hl
          split at e
          · rename_i hz
            cases e
            obtain ⟨d, h3, h4⟩ := varT_ok h hu
            obtain ⟨s, rfl, h5, h6, h7⟩ := asLst_ok hl h4
            rw [evalE, h3] at h1
            cases h1
            rw [evalE, evalE, evalEs, evalEs, evalE, h3] at h2
            obtain ⟨m, h8, h9⟩ := R.bind_eq_ok.mp h2
            obtain ⟨l, h10, h11⟩ := R.bind_eq_ok.mp h9
            cases h10
            cases m <;> simp only [binD] at h11 <;> first | (cases h11; done) | skip
            rename_i q
            split at h11
            · cases h11
            · cases h11
              have g1 : 0 ≤ q.fmod (s.length : Int) := Int.fmod_nonneg_of_pos _ (by omega)
              have g2 : q.fmod (s.length : Int) < s.length := Int.fmod_lt_of_pos _ (by omega)
              obtain ⟨z, h12, h13⟩ := idx_lst g1 g2
              exact ⟨z, h13, h5 z (List.mem_of_getElem? h12)⟩
          · cases e
        · cases e
      · cases e
    · cases e
  · rename_i i j
    split at e
    · rename_i hij
      subst hij
      split at e
      · rename_i u hu
        split at e
        · rename_i v lo hi hl
          split at e
          · rename_i hz
            cases e
            obtain ⟨d, h3, h4⟩ := varT_ok h hu
            obtain ⟨s, rfl, h5, h6, h7⟩ := asLst_ok hl h4
            rw [evalE, h3] at h1
            cases h1
            simp only [evalE, evalEs, h3, R.bind_ok, biD, binD] at h2
            cases h2
            obtain ⟨z, h12, h13⟩ := idx_lst (xs := s) (i := (s.length : Int) - 1) (by omega) (by omega)
            exact ⟨z, h13, h5 z (List.mem_of_getElem? h12)⟩
          · cases e
        · cases e
      · cases e
    · cases e
  · cases e
theorem comp_ok {f : D → R (Option D)} {u : Ty} {full : Bool} : ∀ {xs : List D}, (∀ x, x ∈ xs → ∃ o, f x = .ok o ∧ (full = true → o.isSome = true) ∧ ∀ y, o = some y → Has V u y) → ∃ ys, compL f xs = .ok ys ∧ (∀ y, y ∈ ys → Has V u y) ∧ ys.length ≤ xs.length ∧ (full = true → ys.length = xs.length)
  | [], _ => ⟨[], rfl, (fun _ m => nomatch m), Nat.le_refl _, fun _ => rfl⟩
  | x :: xs, h => by
    obtain ⟨o, h1, h2, h3⟩ := h x List.mem_cons_self
    obtain ⟨ys, h4, h5, h6, h7⟩ := comp_ok fun y m => h y (List.mem_cons_of_mem _ m)
    unfold compL
    rw [h1, h4]
    cases o with
    | none => exact ⟨ys, rfl, h5, Nat.le_succ_of_le h6, (fun z => nomatch h2 z)⟩
    | some y =>
      refine ⟨y :: ys, rfl, fun z m => ?_, by simp only [List.length_cons]; omega, fun z => by rw [List.length_cons, List.length_cons, h7 z]⟩
      rcases List.mem_cons.mp m with rfl | m
      · exact h3 _ rfl
      · exact h5 z m
section
variable {sg : Sg} {F : Orc} (hF : SgOk V F sg)
include hF
mutual
theorem tyE_ok : ∀ (e : IE) {Γ : TEnv} {r : Env} {t : Ty}, EnvOk V Γ r → tyE sg e Γ = some t → ∃ d, evalE F e r = .ok d ∧ Has V t d
  | .var i, Γ, r, t, h, e => by rw [tyE] at e; rw [evalE]; exact varT_ok h e
  | .con _ _, Γ, r, t, h, e => by rw [tyE] at e; cases e
  | .int n, Γ, r, t, h, e => by rw [tyE] at e; rw [evalE]; cases e; exact ⟨_, rfl, .rng (Int.le_refl _) (Int.le_refl _)⟩
  | .str n, Γ, r, t, h, e => by rw [tyE] at e; rw [evalE]; cases e; exact ⟨_, rfl, .lit _⟩
  | .bl n, Γ, r, t, h, e => by rw [tyE] at e; rw [evalE]; cases e; exact ⟨_, rfl, .bl _⟩
  | .non, Γ, r, t, h, e => by rw [tyE] at e; rw [evalE]; cases e; exact ⟨_, rfl, .non⟩
  | .tup es, Γ, r, t, h, e => by
    rw [tyE] at e; rw [evalE]
    obtain ⟨l, h1, h2⟩ := Option.bind_eq_some_iff.mp e
    cases h2
    obtain ⟨ds, h3, h4⟩ := tyEs_ok es h h1
    exact ⟨.tup ds, by rw [h3]; rfl, .tup (mkT_ok h4)⟩
  | .lst es, Γ, r, t, h, e => by
    rw [tyE] at e; rw [evalE]
    obtain ⟨l, h1, h2⟩ := Option.bind_eq_some_iff.mp e
    cases h2
    obtain ⟨ds, h3, h4⟩ := tyEs_ok es h h1
    have := h4.len
    exact ⟨.lst ds, by rw [h3]; rfl, .lst (fun d m => joinAll_ok h4 d m) (by omega) (by omega)⟩
  | .edic, Γ, r, t, h, e => by rw [tyE] at e; cases e
  | .bin op a b, Γ, r, t, h, e => by
    rw [tyE] at e; rw [evalE]
    obtain ⟨x, h1, e⟩ := Option.bind_eq_some_iff.mp e
    obtain ⟨y, h2, e⟩ := Option.bind_eq_some_iff.mp e
    obtain ⟨d, h3, h4⟩ := tyE_ok a h h1
    obtain ⟨d', h5, h6⟩ := tyE_ok b h h2
    obtain ⟨z, h7, h8⟩ := binT_ok e h4 h6
    exact ⟨z, by rw [h3, h5]; exact h7, h8⟩
  | .neg a, Γ, r, t, h, e => by
    rw [tyE] at e; rw [evalE]
    obtain ⟨x, h1, e⟩ := Option.bind_eq_some_iff.mp e
    obtain ⟨o, h2, e⟩ := Option.bind_eq_some_iff.mp e
    cases e
    obtain ⟨d, h3, h4⟩ := tyE_ok a h h1
    obtain ⟨i, rfl, hi⟩ := asInt_ok h2 h4
    refine ⟨.int (-i), by rw [h3]; rfl, ofO_has fun c d z => ?_⟩
    cases o with
    | none => cases z
    | some p =>
      cases z
      have := hi _ _ rfl
      omega
  | .cmp op a b, Γ, r, t, h, e => by
    rw [tyE] at e; rw [evalE]
    obtain ⟨x, h1, e⟩ := Option.bind_eq_some_iff.mp e
    obtain ⟨y, h2, e⟩ := Option.bind_eq_some_iff.mp e
    split at e
    · rename_i hc
      cases e
      obtain ⟨d, h3, h4⟩ := tyE_ok a h h1
      obtain ⟨d', h5, h6⟩ := tyE_ok b h h2
      obtain ⟨z, h7⟩ := cmpT_ok hc h4 h6
      exact ⟨.bl z, by rw [h3, h5, R.bind_ok, R.bind_ok, h7]; rfl, .bl _⟩
    · cases e
  | .chn o1 o2 a b c, Γ, r, t, h, e => by
    rw [tyE] at e; rw [evalE]
    obtain ⟨x, h1, e⟩ := Option.bind_eq_some_iff.mp e
    obtain ⟨y, h2, e⟩ := Option.bind_eq_some_iff.mp e
    obtain ⟨z, h9, e⟩ := Option.bind_eq_some_iff.mp e
    split at e
    · rename_i hc
      cases e
      rw [Bool.and_eq_true] at hc
      obtain ⟨d, h3, h4⟩ := tyE_ok a h h1
      obtain ⟨d', h5, h6⟩ := tyE_ok b h h2
      obtain ⟨d2, h10, h11⟩ := tyE_ok c h h9
      obtain ⟨z, h7⟩ := cmpT_ok hc.1 h4 h6
      obtain ⟨z', h8⟩ := cmpT_ok hc.2 h6 h11
      rw [h3, h5, R.bind_ok, R.bind_ok, h7, R.bind_ok]
      cases z
      · exact ⟨.bl false, rfl, .bl _⟩
      · exact ⟨.bl z', by rw [if_pos rfl, h10, R.bind_ok, h8]; rfl, .bl _⟩
    · cases e
  | .and es, Γ, r, t, h, e => by
    rw [tyE] at e; rw [evalE]
    split at e
    · rename_i hb
      cases e
      obtain ⟨⟨b, h1⟩, _⟩ := tyBs_ok es h hb
      exact ⟨.bl b, by rw [h1]; rfl, .bl _⟩
    · cases e
  | .or es, Γ, r, t, h, e => by
    rw [tyE] at e; rw [evalE]
    split at e
    · rename_i hb
      cases e
      obtain ⟨_, ⟨b, h1⟩⟩ := tyBs_ok es h hb
      exact ⟨.bl b, by rw [h1]; rfl, .bl _⟩
    · cases e
  | .not a, Γ, r, t, h, e => by
    rw [tyE] at e; rw [evalE]
    obtain ⟨x, h1, e⟩ := Option.bind_eq_some_iff.mp e
    split at e
    · rename_i hc
      cases e
      obtain ⟨d, h3, h4⟩ := tyE_ok a h h1
      obtain ⟨b, rfl⟩ := isBl_ok hc h4
      exact ⟨.bl (!b), by rw [h3]; rfl, .bl _⟩
    · cases e
  | .ife c a b, Γ, r, t, h, e => by
    rw [tyE] at e; rw [evalE]
    obtain ⟨x, h1, e⟩ := Option.bind_eq_some_iff.mp e
    obtain ⟨y, h2, e⟩ := Option.bind_eq_some_iff.mp e
    obtain ⟨z, h9, e⟩ := Option.bind_eq_some_iff.mp e
    split at e
    · rename_i hc
      cases e
      obtain ⟨d, h3, h4⟩ := tyE_ok c h h1
      obtain ⟨k, rfl⟩ := isBl_ok hc h4
      obtain ⟨d', h5, h6⟩ := tyE_ok a h h2
      obtain ⟨d2, h10, h11⟩ := tyE_ok b h h9
      rw [h3, R.bind_ok]
      simp only [unbl, R.bind_ok]
      cases k
      · exact ⟨d2, by rw [if_neg (by decide), h10], join_r h11⟩
      · exact ⟨d', by rw [if_pos rfl, h5], join_l h6⟩
    · cases e
  | .idx a b, Γ, r, t, h, e => by
    rw [tyE] at e; rw [evalE]
    obtain ⟨x, h1, e⟩ := Option.bind_eq_some_iff.mp e
    obtain ⟨y, h2, e⟩ := Option.bind_eq_some_iff.mp e
    obtain ⟨d, h3, h4⟩ := tyE_ok a h h1
    obtain ⟨d', h5, h6⟩ := tyE_ok b h h2
    rw [h3, h5]
    split at e
    · rename_i u hu
      cases e
      exact tyIdx_ok hu h4 h6
    · exact modLen_ok h e h3 h5
  | .sl a lo hi, Γ, r, t, h, e => by
    rw [tyE] at e; rw [evalE]
    obtain ⟨x, h1, e⟩ := Option.bind_eq_some_iff.mp e
    split at e
    · rename_i hc
      rw [Bool.and_eq_true] at hc
      obtain ⟨d, h3, h4⟩ := tyE_ok a h h1
      obtain ⟨o1, h5⟩ := tyO_ok lo h hc.1
      obtain ⟨o2, h6⟩ := tyO_ok hi h hc.2
      rw [h3, h5, h6]
      exact tySl_ok e h4
    · cases e
  | .rev a, Γ, r, t, h, e => by
    rw [tyE] at e; rw [evalE]
    obtain ⟨x, h1, e⟩ := Option.bind_eq_some_iff.mp e
    obtain ⟨⟨u, lo, hi⟩, h2, e⟩ := Option.bind_eq_some_iff.mp e
    cases e
    obtain ⟨d, h3, h4⟩ := tyE_ok a h h1
    obtain ⟨s, rfl, h5, h6, h7⟩ := asLst_ok h2 h4
    exact ⟨.lst s.reverse, by rw [h3]; rfl, .lst (fun x m => h5 x (List.mem_reverse.mp m)) (by rw [List.length_reverse]; exact h6) (by rw [List.length_reverse]; exact h7)⟩
  | .call f es, Γ, r, t, h, e => by
    rw [tyE] at e; rw [evalE]
    obtain ⟨l, h1, h2⟩ := Option.bind_eq_some_iff.mp e
    obtain ⟨ds, h3, h4⟩ := tyEs_ok es h h1
    rw [h3]
    exact callT_ok hF h2 h4
  | .lend _ _ _, Γ, r, t, h, e => by rw [tyE] at e; cases e
  | .bi b es, Γ, r, t, h, e => by
    rw [tyE] at e; rw [evalE]
    obtain ⟨l, h1, h2⟩ := Option.bind_eq_some_iff.mp e
    obtain ⟨ds, h3, h4⟩ := tyEs_ok es h h1
    rw [h3]
    split at h2
    · cases h4 with
      | cons p q =>
        cases q
        exact biT_ok h2 p
    · cases h2
  | .me m a es, Γ, r, t, h, e => by
    rw [tyE] at e; rw [evalE]
    obtain ⟨x, h5, e⟩ := Option.bind_eq_some_iff.mp e
    obtain ⟨l, h1, h2⟩ := Option.bind_eq_some_iff.mp e
    obtain ⟨d, h6, h7⟩ := tyE_ok a h h5
    obtain ⟨ds, h3, h4⟩ := tyEs_ok es h h1
    rw [h6, h3]
    split at h2
    · cases h4 with
      | cons p q =>
        cases q
        exact meT_ok h2 h7 p
    · cases h2
  | .comp g it c e', Γ, r, t, h, e => by
    rw [tyE] at e; rw [evalE]
    obtain ⟨⟨u, lo, hi⟩, h1, e⟩ := Option.bind_eq_some_iff.mp e
    obtain ⟨Γ', h2, e⟩ := Option.bind_eq_some_iff.mp e
    obtain ⟨full, h3, e⟩ := Option.bind_eq_some_iff.mp e
    obtain ⟨v, h4, e⟩ := Option.bind_eq_some_iff.mp e
    split at e
    · rename_i hz
      cases e
      have hz : hi ≤ lim := hz
      obtain ⟨xs, h5, h6, h7, h8⟩ := tyI_ok it h h1
      rw [h5, R.bind_ok]
      obtain ⟨ys, h9, h10, h11, h12⟩ := comp_ok (f := fun x => (asgG g x r).bind fun r' => (evalC F c r').bind fun b => if b then (evalE F e' r').bind fun y => .ok (some y) else .ok none) (u := v) (full := full) (xs := xs) fun x m => by
        obtain ⟨r', h13, h14⟩ := asgT_ok h h2 (h6 x m)
        obtain ⟨b, h15, h16⟩ := tyC_ok c h14 h3
        rw [h13, R.bind_ok, h15, R.bind_ok]
        cases b with
        | true =>
          have hE : EnvOk V (refC c Γ') r' := by
            cases c with
            | no => exact h14
            | yes ce =>
              refine refT_ok (F := F) h14 ?_
              rw [evalC] at h15
              obtain ⟨x, h19, h20⟩ := R.bind_eq_ok.mp h15
              cases x <;> simp only [unbl] at h20 <;> cases h20
              exact h19
          obtain ⟨y, h17, h18⟩ := tyE_ok e' hE h4
          exact ⟨some y, by rw [if_pos rfl, h17]; rfl, fun _ => rfl, fun z e => by cases e; exact h18⟩
        | false => exact ⟨none, by rw [if_neg (by decide)], (fun z => nomatch h16 z), fun z e => nomatch e⟩
      rw [h9, R.bind_ok, if_pos (by omega)]
      refine ⟨_, rfl, .lst h10 ?_ (Nat.le_trans h11 h8)⟩
      cases full with
      | true => rw [if_pos rfl, h12 rfl]; exact h7
      | false => rw [if_neg (by decide)]; exact Nat.zero_le _
    · cases e
theorem tyEs_ok : ∀ (es : IEs) {Γ : TEnv} {r : Env} {l : List Ty}, EnvOk V Γ r → tyEs sg es Γ = some l → ∃ ds, evalEs F es r = .ok ds ∧ Has2 V l ds
  | .nil, Γ, r, l, h, e => by rw [tyEs] at e; rw [evalEs]; cases e; exact ⟨[], rfl, .nil⟩
  | .cons a es, Γ, r, l, h, e => by
    rw [tyEs] at e; rw [evalEs]
    obtain ⟨t, h1, e⟩ := Option.bind_eq_some_iff.mp e
    obtain ⟨ts, h2, e⟩ := Option.bind_eq_some_iff.mp e
    cases e
    obtain ⟨d, h3, h4⟩ := tyE_ok a h h1
    obtain ⟨ds, h5, h6⟩ := tyEs_ok es h h2
    exact ⟨d :: ds, by rw [h3, h5]; rfl, .cons h4 h6⟩
theorem tyBs_ok : ∀ (es : IEs) {Γ : TEnv} {r : Env}, EnvOk V Γ r → tyBs sg es Γ = true → (∃ b, evalAnd F es r = .ok b) ∧ ∃ b, evalOr F es r = .ok b
  | .nil, Γ, r, h, e => ⟨⟨true, by rw [evalAnd]⟩, ⟨false, by rw [evalOr]⟩⟩
  | .cons a es, Γ, r, h, e => by
    rw [tyBs, Bool.and_eq_true] at e
    obtain ⟨e1, e2⟩ := e
    split at e1
    · rename_i t ht
      obtain ⟨d, h3, h4⟩ := tyE_ok a h ht
      obtain ⟨b, rfl⟩ := isBl_ok e1 h4
      obtain ⟨⟨b1, h5⟩, ⟨b2, h6⟩⟩ := tyBs_ok es h e2
      rw [evalAnd, evalOr, h3]
      simp only [R.bind_ok, unbl]
      cases b
      · exact ⟨⟨false, rfl⟩, ⟨b2, h6⟩⟩
      · exact ⟨⟨b1, h5⟩, ⟨true, rfl⟩⟩
    · cases e1
theorem tyO_ok : ∀ (o : IO) {Γ : TEnv} {r : Env}, EnvOk V Γ r → tyO sg o Γ = true → ∃ b, evalO F o r = .ok b
  | .no, Γ, r, h, e => ⟨none, by rw [evalO]⟩
  | .yes a, Γ, r, h, e => by
    rw [tyO] at e; rw [evalO]
    split at e
    · rename_i t ht
      obtain ⟨d, h3, h4⟩ := tyE_ok a h ht
      obtain ⟨i, rfl⟩ := someInt e h4
      exact ⟨some i, by rw [h3]; rfl⟩
    · cases e
theorem tyC_ok : ∀ (o : IO) {Γ : TEnv} {r : Env} {full : Bool}, EnvOk V Γ r → tyC sg o Γ = some full → ∃ b, evalC F o r = .ok b ∧ (full = true → b = true)
  | .no, Γ, r, full, h, e => ⟨true, by rw [evalC], fun _ => rfl⟩
  | .yes a, Γ, r, full, h, e => by
    rw [tyC] at e; rw [evalC]
    obtain ⟨t, h1, e⟩ := Option.bind_eq_some_iff.mp e
    split at e
    · rename_i hb
      cases e
      obtain ⟨d, h3, h4⟩ := tyE_ok a h h1
      obtain ⟨b, rfl⟩ := isBl_ok hb h4
      exact ⟨b, by rw [h3]; rfl, fun z => nomatch z⟩
    · cases e
theorem tyI_ok : ∀ (it : II) {Γ : TEnv} {r : Env} {t : Ty} {lo hi : Nat}, EnvOk V Γ r → tyI sg it Γ = some (t, lo, hi) → ∃ xs, evalI F it r = .ok xs ∧ (∀ x, x ∈ xs → Has V t x) ∧ lo ≤ xs.length ∧ xs.length ≤ hi
  | .of a, Γ, r, t, lo, hi, h, e => by
    rw [tyI] at e; rw [evalI]
    obtain ⟨u, h1, e⟩ := Option.bind_eq_some_iff.mp e
    obtain ⟨d, h3, h4⟩ := tyE_ok a h h1
    rw [h3]
    exact iterT_ok e h4
  | .rng1 a, Γ, r, t, lo, hi, h, e => by
    rw [tyI] at e; rw [evalI]
    obtain ⟨u, h1, e⟩ := Option.bind_eq_some_iff.mp e
    obtain ⟨o, h2, e⟩ := Option.bind_eq_some_iff.mp e
    obtain ⟨p, h5, e⟩ := Option.bind_eq_some_iff.mp e
    cases e
    obtain ⟨d, h3, h4⟩ := tyE_ok a h h1
    obtain ⟨i, rfl, hi⟩ := asInt_ok h2 h4
    obtain ⟨g1, g2, g3⟩ := small62o_ok h5 hi
    rw [h3]
    simp only [R.bind_ok, unint, g3, if_true]
    refine ⟨_, rfl, fun x m => ?_, ?_, ?_⟩
    · obtain ⟨j, hj, rfl⟩ := List.mem_map.mp m
      have := List.mem_range.mp hj
      exact .rng (by omega) (by omega)
    · rw [List.length_map, List.length_range]; omega
    · rw [List.length_map, List.length_range]; omega
  | .rng2 a b, Γ, r, t, lo, hi, h, e => by
    rw [tyI] at e; rw [evalI]
    obtain ⟨u, h1, e⟩ := Option.bind_eq_some_iff.mp e
    obtain ⟨o, h2, e⟩ := Option.bind_eq_some_iff.mp e
    obtain ⟨p, h5, e⟩ := Option.bind_eq_some_iff.mp e
    obtain ⟨u', h1', e⟩ := Option.bind_eq_some_iff.mp e
    obtain ⟨o', h2', e⟩ := Option.bind_eq_some_iff.mp e
    obtain ⟨p', h5', e⟩ := Option.bind_eq_some_iff.mp e
    cases e
    obtain ⟨d, h3, h4⟩ := tyE_ok a h h1
    obtain ⟨i, rfl, hi⟩ := asInt_ok h2 h4
    obtain ⟨g1, g2, g3⟩ := small62o_ok h5 hi
    obtain ⟨d', h3', h4'⟩ := tyE_ok b h h1'
    obtain ⟨j, rfl, hj⟩ := asInt_ok h2' h4'
    obtain ⟨g1', g2', g3'⟩ := small62o_ok h5' hj
    rw [h3, h3']
    simp only [R.bind_ok, unint, g3, g3', Bool.and_self, if_true]
    refine ⟨_, rfl, fun x m => ?_, ?_, ?_⟩
    · obtain ⟨q, hq, rfl⟩ := List.mem_map.mp m
      have := List.mem_range.mp hq
      exact .rng (by omega) (by omega)
    · rw [List.length_map, List.length_range]; omega
    · rw [List.length_map, List.length_range]; omega
  | .enum _, Γ, r, t, lo, hi, h, e => by rw [tyI] at e; cases e
  | .zip a b, Γ, r, t, lo, hi, h, e => by
    rw [tyI] at e; rw [evalI]
    obtain ⟨u, h1, e⟩ := Option.bind_eq_some_iff.mp e
    obtain ⟨u', h1', e⟩ := Option.bind_eq_some_iff.mp e
    obtain ⟨d, h3, h4⟩ := tyE_ok a h h1
    obtain ⟨d', h3', h4'⟩ := tyE_ok b h h1'
    rw [h3, h3']
    exact zipT_ok e h4 h4'
  | .items _, Γ, r, t, lo, hi, h, e => by rw [tyI] at e; cases e
  | .keys _, Γ, r, t, lo, hi, h, e => by rw [tyI] at e; cases e
end
end

/-! ### statements -/
structure TR where
  nx : Option TEnv
  ct : Option TEnv
  bk : Option TEnv
  rt : Option Ty
def jO : Option Ty → Option Ty → Option Ty
  | some a, some b => some (joinT a b)
  | _, _ => none
def jEnv : TEnv → TEnv → TEnv
  | a :: as, b :: bs => jO a b :: jEnv as bs
  | [], bs => bs.map fun _ => none
  | as, [] => as.map fun _ => none
theorem jEnv_len : ∀ {a b : TEnv}, a.length = b.length → (jEnv a b).length = a.length
  | [], [], _ => rfl
  | _ :: _, _ :: _, h => by unfold jEnv; rw [List.length_cons, List.length_cons, jEnv_len (by simpa using h)]
  | [], _ :: _, h => by simp at h
  | _ :: _, [], h => by simp at h
theorem jEnv_get : ∀ {a b : TEnv} {i : Nat} {t : Ty}, (jEnv a b)[i]? = some (some t) → ∃ u v, a[i]? = some (some u) ∧ b[i]? = some (some v) ∧ t = joinT u v
  | [], bs, i, t, h => by
    unfold jEnv at h
    rw [List.getElem?_map] at h
    obtain ⟨_, _, z⟩ := Option.map_eq_some_iff.mp h
    cases z
  | a :: as, [], i, t, h => by
    unfold jEnv at h
    rw [List.getElem?_map] at h
    obtain ⟨_, _, z⟩ := Option.map_eq_some_iff.mp h
    cases z
  | a :: as, b :: bs, 0, t, h => by
    unfold jEnv at h
    simp at h
    cases a <;> cases b <;> simp [jO] at h
    exact ⟨_, _, rfl, rfl, h.symm⟩
  | a :: as, b :: bs, i + 1, t, h => by
    unfold jEnv at h
    simp at h
    obtain ⟨u, v, h1, h2, h3⟩ := jEnv_get h
    exact ⟨u, v, by simpa using h1, by simpa using h2, h3⟩
def jE (a b : Option TEnv) : Option TEnv := match a, b with
  | some x, some y => if x.length = y.length then some (jEnv x y) else none
  | some x, none => some x
  | none, y => y
/-- lengths that differ: no kind at all -/
def okE (a b : Option TEnv) : Bool := match a, b with
  | some x, some y => decide (x.length = y.length)
  | _, _ => true
def InE (V : Nat → D → Prop) (o : Option TEnv) (r : Env) : Prop := ∃ Γ, o = some Γ ∧ EnvOk V Γ r
theorem jE_l {a b : Option TEnv} {r : Env} (h : InE V a r) (ok : okE a b = true) : InE V (jE a b) r := by
  obtain ⟨Γ, rfl, h⟩ := h
  cases b with
  | none => exact ⟨Γ, rfl, h⟩
  | some Δ =>
    have hl : Γ.length = Δ.length := of_decide_eq_true ok
    refine ⟨jEnv Γ Δ, by simp only [jE, if_pos hl], by rw [jEnv_len hl]; exact h.1, fun i t e => ?_⟩
    obtain ⟨u, v, h1, h2, rfl⟩ := jEnv_get e
    obtain ⟨d, h3, h4⟩ := h.2 i u h1
    exact ⟨d, h3, join_l h4⟩
theorem jE_r {a b : Option TEnv} {r : Env} (h : InE V b r) (ok : okE a b = true) : InE V (jE a b) r := by
  obtain ⟨Δ, rfl, h⟩ := h
  cases a with
  | none => exact ⟨Δ, rfl, h⟩
  | some Γ =>
    have hl : Γ.length = Δ.length := of_decide_eq_true ok
    refine ⟨jEnv Γ Δ, by simp only [jE, if_pos hl], by rw [jEnv_len hl, hl]; exact h.1, fun i t e => ?_⟩
    obtain ⟨u, v, h1, h2, rfl⟩ := jEnv_get e
    obtain ⟨d, h3, h4⟩ := h.2 i v h2
    exact ⟨d, h3, join_r h4⟩
def jR (a b : Option Ty) : Option Ty := match a, b with
  | some x, some y => some (joinT x y)
  | some x, none => some x
  | none, y => y
def InR (V : Nat → D → Prop) (o : Option Ty) (d : D) : Prop := ∃ t, o = some t ∧ Has V t d
theorem jR_l {a b : Option Ty} {d : D} (h : InR V a d) : InR V (jR a b) d := by
  obtain ⟨t, rfl, h⟩ := h
  cases b with
  | none => exact ⟨t, rfl, h⟩
  | some u => exact ⟨_, rfl, join_l h⟩
theorem jR_r {a b : Option Ty} {d : D} (h : InR V b d) : InR V (jR a b) d := by
  obtain ⟨t, rfl, h⟩ := h
  cases a with
  | none => exact ⟨t, rfl, h⟩
  | some u => exact ⟨_, rfl, join_r h⟩
def TRok (V : Nat → D → Prop) (R : TR) : Fl → Env → Prop
  | .nx, r => InE V R.nx r
  | .ct, r => InE V R.ct r
  | .bk, r => InE V R.bk r
  | .rt d, _ => InR V R.rt d
/-- either of two -/
def orR (a b : TR) : Option TR := if okE a.nx b.nx && okE a.ct b.ct && okE a.bk b.bk then some ⟨jE a.nx b.nx, jE a.ct b.ct, jE a.bk b.bk, jR a.rt b.rt⟩ else none
theorem orR_l {a b c : TR} {fl : Fl} {r : Env} (e : orR a b = some c) (h : TRok V a fl r) : TRok V c fl r := by
  unfold orR at e
  split at e
  · rename_i hz
    cases e
    simp only [Bool.and_eq_true] at hz
    cases fl with
    | nx => exact jE_l h hz.1.1
    | ct => exact jE_l h hz.1.2
    | bk => exact jE_l h hz.2
    | rt d => exact jR_l h
  · cases e
theorem orR_r {a b c : TR} {fl : Fl} {r : Env} (e : orR a b = some c) (h : TRok V b fl r) : TRok V c fl r := by
  unfold orR at e
  split at e
  · rename_i hz
    cases e
    simp only [Bool.and_eq_true] at hz
    cases fl with
    | nx => exact jE_r h hz.1.1
    | ct => exact jE_r h hz.1.2
    | bk => exact jE_r h hz.2
    | rt d => exact jR_r h
  · cases e
def hereT (lo j : Nat) (Γ : TEnv) : Option TEnv := if lo ≤ j then some Γ else none
/-- the turns of a for, at most n, at least lo; j: those that were -/
def loopT (ks : List Nat) (body : TEnv → Option TR) (lo : Nat) : Nat → Nat → TEnv → Option TR
  | 0, _, Γ => some ⟨some (killT ks Γ), none, none, none⟩
  | n + 1, j, Γ => (body (killT ks Γ)).bind fun R =>
      let out : TR := ⟨jE (hereT lo j (killT ks Γ)) (R.bk.map (killT ks)), none, none, R.rt⟩
      if okE (hereT lo j (killT ks Γ)) (R.bk.map (killT ks)) && okE R.nx R.ct then (match jE R.nx R.ct with
        | none => some out
        | some Γ1 => if killT ks Γ1 = killT ks Γ then orR ⟨some (killT ks Γ), none, none, none⟩ out else (loopT ks body lo n (j + 1) Γ1).bind fun R2 => orR out R2)
      else none
theorem loopT_ok {ks : List Nat} {body : TEnv → Option TR} {f : D → Env → R (Fl × Env)} {lo : Nat} {t : Ty} (hb : ∀ Γ r x Q, EnvOk V Γ r → Has V t x → body Γ = some Q → ∃ fl r', f x r = .ok (fl, r') ∧ TRok V Q fl r') :
    ∀ (n : Nat) (j : Nat) {Γ : TEnv} {r : Env} {xs : List D} {Q : TR}, EnvOk V Γ r → loopT ks body lo n j Γ = some Q → (∀ x, x ∈ xs → Has V t x) → lo ≤ j + xs.length → xs.length ≤ n → ∃ fl r', forL ks f xs r = .ok (fl, r') ∧ TRok V Q fl r'
  | 0, j, Γ, r, xs, Q, h, e, hx, h1, h2 => by
    have : xs = [] := List.length_eq_zero_iff.mp (by omega)
    subst this
    unfold loopT at e
    cases e
    exact ⟨.nx, _, rfl, _, rfl, h.kills ks⟩
  | n + 1, j, Γ, r, xs, Q, h, e, hx, h1, h2 => by
    unfold loopT at e
    obtain ⟨R, hR, e⟩ := Option.bind_eq_some_iff.mp e
    simp only at e
    split at e
    · rename_i hz
      rw [Bool.and_eq_true] at hz
      have hk := h.kills ks
      have hout : ∀ fl r', TRok V ⟨jE (hereT lo j (killT ks Γ)) (R.bk.map (killT ks)), none, none, R.rt⟩ fl r' → TRok V Q fl r' := fun fl r' q => by
        split at e
        · cases e; exact q
        · split at e
          · exact orR_r e q
          · obtain ⟨R2, _, e⟩ := Option.bind_eq_some_iff.mp e
            exact orR_l e q
      -- one that is stable stays so
      have stable : ∀ Γ1, jE R.nx R.ct = some Γ1 → killT ks Γ1 = killT ks Γ → ∀ (ys : List D) (r1 : Env), EnvOk V Γ1 r1 → (∀ x, x ∈ ys → Has V t x) → ∃ fl r', forL ks f ys r1 = .ok (fl, r') ∧ TRok V Q fl r' := fun Γ1 hj hs ys => by
        rw [hj] at e
        simp only [hs, if_true] at e
        induction ys with
        | nil =>
          intro r1 q1 _
          refine ⟨.nx, _, rfl, orR_l e (fl := .nx) ⟨killT ks Γ, rfl, ?_⟩⟩
          rw [← hs]; exact q1.kills ks
        | cons y ys ih =>
          intro r1 q1 hy
          have q2 : EnvOk V (killT ks Γ) (killR ks r1) := by rw [← hs]; exact q1.kills ks
          obtain ⟨fl, r', h3, h4⟩ := hb _ _ y R q2 (hy y List.mem_cons_self) hR
          unfold forL
          rw [h3, MP.R.bind_ok]
          cases fl with
          | nx =>
            have := jE_l (b := R.ct) h4 hz.2
            rw [hj] at this
            obtain ⟨Γ2, e2, h5⟩ := this
            cases e2
            exact ih r' h5 fun x m => hy x (List.mem_cons_of_mem _ m)
          | ct =>
            have := jE_r (a := R.nx) h4 hz.2
            rw [hj] at this
            obtain ⟨Γ2, e2, h5⟩ := this
            cases e2
            exact ih r' h5 fun x m => hy x (List.mem_cons_of_mem _ m)
          | bk =>
            refine ⟨.nx, _, rfl, hout .nx _ (jE_r ?_ hz.1)⟩
            obtain ⟨Γ2, e2, h5⟩ := h4
            exact ⟨killT ks Γ2, by rw [e2]; rfl, h5.kills ks⟩
          | rt d => exact ⟨.rt d, r', rfl, hout (.rt d) r' h4⟩
      cases xs with
      | nil =>
        refine ⟨.nx, _, rfl, hout .nx _ (jE_l ?_ hz.1)⟩
        have hj : lo ≤ j := by simpa using h1
        exact ⟨killT ks Γ, by unfold hereT; rw [if_pos hj], hk⟩
      | cons x xs =>
        obtain ⟨fl, r', h3, h4⟩ := hb _ _ x R hk (hx x List.mem_cons_self) hR
        unfold forL
        rw [h3, MP.R.bind_ok]
        have next : ∀ r', InE V (jE R.nx R.ct) r' → ∃ fl r2, forL ks f xs r' = .ok (fl, r2) ∧ TRok V Q fl r2 := fun r' q => by
          obtain ⟨Γ1, e1, q⟩ := q
          by_cases hs : killT ks Γ1 = killT ks Γ
          · exact stable Γ1 e1 hs xs r' q fun y m => hx y (List.mem_cons_of_mem _ m)
          · rw [e1] at e
            simp only [hs, if_false] at e
            obtain ⟨R2, e2, e⟩ := Option.bind_eq_some_iff.mp e
            obtain ⟨fl2, r2, h6, h7⟩ := loopT_ok hb n (j + 1) q e2 (fun y m => hx y (List.mem_cons_of_mem _ m)) (by simp at h1; omega) (by simp at h2; omega)
            exact ⟨fl2, r2, h6, orR_r e h7⟩
        cases fl with
        | nx => exact next r' (jE_l h4 hz.2)
        | ct => exact next r' (jE_r h4 hz.2)
        | bk =>
          refine ⟨.nx, _, rfl, hout .nx _ (jE_r ?_ hz.1)⟩
          obtain ⟨Γ2, e2, h5⟩ := h4
          exact ⟨killT ks Γ2, by rw [e2]; rfl, h5.kills ks⟩
        | rt d => exact ⟨.rt d, r', rfl, hout (.rt d) r' h4⟩
    · cases e
section
variable (sg : Sg)
mutual
def tyS : IS → TEnv → Option TR
  | .asg g e, Γ => (tyE sg e Γ).bind fun t => (asgT g t Γ).bind fun Γ' => some ⟨some Γ', none, none, none⟩
  | .aug x op e, Γ => (varT x Γ).bind fun a => (tyE sg e Γ).bind fun b => if (asInt a).isSome && (asInt b).isSome then (binT op a b).bind fun c => some ⟨some (Γ.set x (some c)), none, none, none⟩ else none
  | .app x e, Γ => (varT x Γ).bind fun a => (asLst a).bind fun l => (tyE sg e Γ).bind fun b => if l.2.2 < lim then some ⟨some (Γ.set x (some (.lst (joinT l.1 b) (l.2.1 + 1) (l.2.2 + 1)))), none, none, none⟩ else none
  | .ext x e, Γ => (varT x Γ).bind fun a => (asLst a).bind fun l => (tyE sg e Γ).bind fun b => (asLst b).bind fun m => if l.2.2 + m.2.2 ≤ lim then some ⟨some (Γ.set x (some (.lst (joinT l.1 m.1) (l.2.1 + m.2.1) (l.2.2 + m.2.2)))), none, none, none⟩ else none
  | .pop x, Γ => (varT x Γ).bind fun a => (asLst a).bind fun l => if 1 ≤ l.2.1 then some ⟨some (Γ.set x (some (.lst l.1 (l.2.1 - 1) (l.2.2 - 1)))), none, none, none⟩ else none
  | .ifs c a b, Γ => (tyE sg c Γ).bind fun t => if isBl t then (tySs a (refT c Γ)).bind fun R1 => (tySs b (refF c Γ)).bind fun R2 => orR R1 R2 else none
  | .loop g it ks body, Γ => (tyI sg it Γ).bind fun q => loopT ks (fun Γ => (asgT g q.1 Γ).bind fun Γ' => tySs body Γ') q.2.1 q.2.2 0 Γ
  | .ret e, Γ => (tyE sg e Γ).bind fun t => some ⟨none, none, none, some t⟩
  | .ex e, Γ => (tyE sg e Γ).bind fun t => some ⟨some Γ, none, none, none⟩
  | .cont, Γ => some ⟨none, some Γ, none, none⟩
  | .brk, Γ => some ⟨none, none, some Γ, none⟩
  | .pass, Γ => some ⟨some Γ, none, none, none⟩
  | .kill ks, Γ => some ⟨some (killT ks Γ), none, none, none⟩
  | .frz _, Γ => some ⟨some Γ, none, none, none⟩
  | _, _ => none
def tySs : ISs → TEnv → Option TR
  | .nil, Γ => some ⟨some Γ, none, none, none⟩
  | .cons s ss, Γ => (tyS s Γ).bind fun R1 => match R1.nx with
    | none => some R1
    | some Γ1 => (tySs ss Γ1).bind fun R2 => orR ⟨none, R1.ct, R1.bk, R1.rt⟩ R2
end
end
section
variable {sg : Sg} {F : Orc} (hF : SgOk V F sg)
include hF
mutual
theorem tyS_ok : ∀ (s : IS) {Γ : TEnv} {r : Env} {Q : TR}, EnvOk V Γ r → tyS sg s Γ = some Q → ∃ fl r', evalS F s r = .ok (fl, r') ∧ TRok V Q fl r'
  | .asg g e, Γ, r, Q, h, q => by
    rw [tyS] at q; rw [evalS]
    obtain ⟨t, h1, q⟩ := Option.bind_eq_some_iff.mp q
    obtain ⟨Γ', h2, q⟩ := Option.bind_eq_some_iff.mp q
    cases q
    obtain ⟨d, h3, h4⟩ := tyE_ok hF e h h1
    obtain ⟨r', h5, h6⟩ := asgT_ok h h2 h4
    exact ⟨.nx, r', by rw [h3, R.bind_ok, h5]; rfl, _, rfl, h6⟩
  | .aug x op e, Γ, r, Q, h, q => by
    rw [tyS] at q; rw [evalS]
    obtain ⟨a, h1, q⟩ := Option.bind_eq_some_iff.mp q
    obtain ⟨b, h2, q⟩ := Option.bind_eq_some_iff.mp q
    split at q
    · rename_i hz
      rw [Bool.and_eq_true] at hz
      obtain ⟨c, h7, q⟩ := Option.bind_eq_some_iff.mp q
      cases q
      obtain ⟨d, h3, h4⟩ := varT_ok h h1
      obtain ⟨d', h5, h6⟩ := tyE_ok hF e h h2
      obtain ⟨z, h8, h9⟩ := binT_ok h7 h4 h6
      obtain ⟨i, rfl⟩ := someInt hz.1 h4
      obtain ⟨j, rfl⟩ := someInt hz.2 h6
      exact ⟨.nx, r.set x (some z), by rw [h3, R.bind_ok, h5, R.bind_ok]; simp only [h8, R.bind_ok], _, rfl, h.set x h9⟩
    · cases q
  | .app x e, Γ, r, Q, h, q => by
    rw [tyS] at q; rw [evalS]
    obtain ⟨a, h1, q⟩ := Option.bind_eq_some_iff.mp q
    obtain ⟨⟨u, lo, hi⟩, h2, q⟩ := Option.bind_eq_some_iff.mp q
    obtain ⟨b, h7, q⟩ := Option.bind_eq_some_iff.mp q
    split at q
    · rename_i hz
      have hz : hi < lim := hz
      cases q
      obtain ⟨d, h3, h4⟩ := varT_ok h h1
      obtain ⟨s, rfl, h8, h9, h10⟩ := asLst_ok h2 h4
      obtain ⟨d', h5, h6⟩ := tyE_ok hF e h h7
      refine ⟨.nx, r.set x (some (.lst (s ++ [d']))), by rw [h3, R.bind_ok]; simp only [lstOf, R.bind_ok, h5]; rw [if_pos (by omega)], _, rfl, h.set x (.lst (fun y m => ?_) (by rw [List.length_append]; exact Nat.add_le_add_right h9 1) (by rw [List.length_append]; exact Nat.add_le_add_right h10 1))⟩
      rcases List.mem_append.mp m with m | m
      · exact join_l (h8 y m)
      · rw [List.mem_singleton.mp m]; exact join_r h6
    · cases q
  | .ext x e, Γ, r, Q, h, q => by
    rw [tyS] at q; rw [evalS]
    obtain ⟨a, h1, q⟩ := Option.bind_eq_some_iff.mp q
    obtain ⟨⟨u, lo, hi⟩, h2, q⟩ := Option.bind_eq_some_iff.mp q
    obtain ⟨b, h7, q⟩ := Option.bind_eq_some_iff.mp q
    obtain ⟨⟨u', lo', hi'⟩, h12, q⟩ := Option.bind_eq_some_iff.mp q
    split at q
    · rename_i hz
      have hz : hi + hi' ≤ lim := hz
      cases q
      obtain ⟨d, h3, h4⟩ := varT_ok h h1
      obtain ⟨s, rfl, h8, h9, h10⟩ := asLst_ok h2 h4
      obtain ⟨d', h5, h6⟩ := tyE_ok hF e h h7
      obtain ⟨s', rfl, h13, h14, h15⟩ := asLst_ok h12 h6
      refine ⟨.nx, r.set x (some (.lst (s ++ s'))), by rw [h3, R.bind_ok]; simp only [lstOf, R.bind_ok, h5]; rw [if_pos (by omega)], _, rfl, h.set x (.lst (fun y m => ?_) (by rw [List.length_append]; exact Nat.add_le_add h9 h14) (by rw [List.length_append]; exact Nat.add_le_add h10 h15))⟩
      rcases List.mem_append.mp m with m | m
      · exact join_l (h8 y m)
      · exact join_r (h13 y m)
    · cases q
  | .pop x, Γ, r, Q, h, q => by
    rw [tyS] at q; rw [evalS]
    obtain ⟨a, h1, q⟩ := Option.bind_eq_some_iff.mp q
    obtain ⟨⟨u, lo, hi⟩, h2, q⟩ := Option.bind_eq_some_iff.mp q
    split at q
    · rename_i hz
      have hz : 1 ≤ lo := hz
      cases q
      obtain ⟨d, h3, h4⟩ := varT_ok h h1
      obtain ⟨s, rfl, h8, h9, h10⟩ := asLst_ok h2 h4
      have hne : s ≠ [] := fun z => by subst z; simp at h9; omega
      exact ⟨.nx, r.set x (some (.lst s.dropLast)), by rw [h3, R.bind_ok]; simp only [lstOf, R.bind_ok]; rw [if_neg hne], _, rfl, h.set x (.lst (fun y m => h8 y (List.dropLast_subset _ m)) (by rw [List.length_dropLast]; exact Nat.sub_le_sub_right h9 1) (by rw [List.length_dropLast]; exact Nat.sub_le_sub_right h10 1))⟩
    · cases q
  | .ifs c a b, Γ, r, Q, h, q => by
    rw [tyS] at q; rw [evalS]
    obtain ⟨t, h1, q⟩ := Option.bind_eq_some_iff.mp q
    split at q
    · rename_i hz
      obtain ⟨R1, h2, q⟩ := Option.bind_eq_some_iff.mp q
      obtain ⟨R2, h3, q⟩ := Option.bind_eq_some_iff.mp q
      obtain ⟨d, h4, h5⟩ := tyE_ok hF c h h1
      obtain ⟨k, rfl⟩ := isBl_ok hz h5
      rw [h4, R.bind_ok]
      simp only [unbl, R.bind_ok]
      cases k with
      | true =>
        obtain ⟨fl, r', h6, h7⟩ := tySs_ok a (refT_ok h h4) h2
        exact ⟨fl, r', by rw [if_pos rfl]; exact h6, orR_l q h7⟩
      | false =>
        obtain ⟨fl, r', h6, h7⟩ := tySs_ok b (refF_ok h h4) h3
        exact ⟨fl, r', by rw [if_neg (by decide)]; exact h6, orR_r q h7⟩
    · cases q
  | .loop g it ks body, Γ, r, Q, h, q => by
    rw [tyS] at q; rw [evalS]
    obtain ⟨⟨t, lo, hi⟩, h1, q⟩ := Option.bind_eq_some_iff.mp q
    obtain ⟨xs, h2, h3, h4, h5⟩ := tyI_ok hF it h h1
    rw [h2, R.bind_ok]
    refine loopT_ok (t := t) (fun Γ r x Q hE hx hq => ?_) hi 0 h q h3 (by simpa using h4) h5
    obtain ⟨Γ', h6, h7⟩ := Option.bind_eq_some_iff.mp hq
    obtain ⟨r', h8, h9⟩ := asgT_ok hE h6 hx
    obtain ⟨fl, r2, h10, h11⟩ := tySs_ok body h9 h7
    exact ⟨fl, r2, by rw [h8, R.bind_ok]; exact h10, h11⟩
  | .ret e, Γ, r, Q, h, q => by
    rw [tyS] at q; rw [evalS]
    obtain ⟨t, h1, q⟩ := Option.bind_eq_some_iff.mp q
    cases q
    obtain ⟨d, h3, h4⟩ := tyE_ok hF e h h1
    exact ⟨.rt d, r, by rw [h3]; rfl, _, rfl, h4⟩
  | .ex e, Γ, r, Q, h, q => by
    rw [tyS] at q; rw [evalS]
    obtain ⟨t, h1, q⟩ := Option.bind_eq_some_iff.mp q
    cases q
    obtain ⟨d, h3, h4⟩ := tyE_ok hF e h h1
    exact ⟨.nx, r, by rw [h3]; rfl, _, rfl, h⟩
  | .cont, Γ, r, Q, h, q => by rw [tyS] at q; rw [evalS]; cases q; exact ⟨.ct, r, rfl, _, rfl, h⟩
  | .brk, Γ, r, Q, h, q => by rw [tyS] at q; rw [evalS]; cases q; exact ⟨.bk, r, rfl, _, rfl, h⟩
  | .pass, Γ, r, Q, h, q => by rw [tyS] at q; rw [evalS]; cases q; exact ⟨.nx, r, rfl, _, rfl, h⟩
  | .kill ks, Γ, r, Q, h, q => by rw [tyS] at q; rw [evalS]; cases q; exact ⟨.nx, _, rfl, _, rfl, h.kills ks⟩
  | .frz ks, Γ, r, Q, h, q => by rw [tyS] at q; rw [evalS]; cases q; exact ⟨.nx, r, rfl, _, rfl, h⟩
  | .mov _ _, Γ, r, Q, h, q => by unfold tyS at q; cases q
  | .put _ _ _, Γ, r, Q, h, q => by unfold tyS at q; cases q
  | .ins _ _ _, Γ, r, Q, h, q => by unfold tyS at q; cases q
  | .rem _ _, Γ, r, Q, h, q => by unfold tyS at q; cases q
  | .popi _ _ _, Γ, r, Q, h, q => by unfold tyS at q; cases q
  | .appAt _ _ _, Γ, r, Q, h, q => by unfold tyS at q; cases q
  | .sdApp _ _ _, Γ, r, Q, h, q => by unfold tyS at q; cases q
  | .ifSd _ _ _ _ _ _, Γ, r, Q, h, q => by unfold tyS at q; cases q
  | .whl _ _ _ _, Γ, r, Q, h, q => by unfold tyS at q; cases q
  | .loopV _ _ _ _, Γ, r, Q, h, q => by unfold tyS at q; cases q
theorem tySs_ok : ∀ (ss : ISs) {Γ : TEnv} {r : Env} {Q : TR}, EnvOk V Γ r → tySs sg ss Γ = some Q → ∃ fl r', evalSs F ss r = .ok (fl, r') ∧ TRok V Q fl r'
  | .nil, Γ, r, Q, h, q => by rw [tySs] at q; rw [evalSs]; cases q; exact ⟨.nx, r, rfl, _, rfl, h⟩
  | .cons s ss, Γ, r, Q, h, q => by
    rw [tySs] at q; rw [evalSs]
    obtain ⟨R1, h1, q⟩ := Option.bind_eq_some_iff.mp q
    obtain ⟨fl, r', h2, h3⟩ := tyS_ok s h h1
    rw [h2, R.bind_ok]
    split at q
    · rename_i hn
      cases q
      cases fl with
      | nx => obtain ⟨Γ1, e, _⟩ := h3; rw [hn] at e; cases e
      | ct => exact ⟨.ct, r', rfl, h3⟩
      | bk => exact ⟨.bk, r', rfl, h3⟩
      | rt d => exact ⟨.rt d, r', rfl, h3⟩
    · rename_i Γ1 hn
      obtain ⟨R2, h4, q⟩ := Option.bind_eq_some_iff.mp q
      cases fl with
      | nx =>
        obtain ⟨Γ2, e, h5⟩ := h3
        rw [hn] at e; cases e
        obtain ⟨fl2, r2, h6, h7⟩ := tySs_ok ss h5 h4
        exact ⟨fl2, r2, h6, orR_r q h7⟩
      | ct => exact ⟨.ct, r', rfl, orR_l q (fl := .ct) h3⟩
      | bk => exact ⟨.bk, r', rfl, orR_l q (fl := .bk) h3⟩
      | rt d => exact ⟨.rt d, r', rfl, orR_l q (fl := .rt d) h3⟩
end
end

/-! ### defs -/
def tyD (sg : Sg) (d : Def) (ts : List Ty) : Option Ty := if ts.length = d.np then (tySs sg d.body (ts.map some ++ List.replicate (d.N.length - d.np) none)).bind fun R => match R.ct, R.bk with
    | none, none => jR R.rt (if R.nx.isSome then some .non else none)
    | _, _ => none
  else none
def ckT (sg : Sg) (d : Def) (ts : List Ty) (t : Ty) : Bool := match tyD sg d ts with
  | some u => leT u t
  | none => false
theorem start_ok {n : Nat} : ∀ {ts : List Ty} {ds : List D}, Has2 V ts ds → EnvOk V (ts.map some ++ List.replicate n none) (ds.map some ++ List.replicate n none) := by
  intro ts ds h
  refine ⟨by simp [h.len], fun i t e => ?_⟩
  by_cases hi : i < ts.length
  · rw [List.getElem?_append_left (by simpa using hi), List.getElem?_map] at e
    obtain ⟨t', e', z⟩ := Option.map_eq_some_iff.mp e
    cases z
    obtain ⟨d, h1, h2⟩ := h.get e'
    exact ⟨d, by rw [List.getElem?_append_left (by rw [List.length_map, ← h.len]; exact hi), List.getElem?_map, h1]; rfl, h2⟩
  · rw [List.getElem?_append_right (by simpa using hi)] at e
    have := List.eq_of_mem_replicate (List.mem_of_getElem? e)
    cases this
theorem ty_run {T : Str → Option Def} {k : Nat} {sg : Sg} {f : Str} {d : Def} {ts : List Ty} {t : Ty} {ds : List D} (hT : T f = some d) (hF : SgOk V (run T k) sg) (hc : ckT sg d ts t = true) (hd : Has2 V ts ds) : ∃ v, run T (k + 1) f ds = .ok v ∧ Has V t v := by
  unfold ckT at hc
  split at hc
  · rename_i u hu
    unfold tyD at hu
    split at hu
    · rename_i hl
      obtain ⟨Q1, h1, h2⟩ := Option.bind_eq_some_iff.mp hu
      obtain ⟨fl, r', h3, h4⟩ := tySs_ok hF d.body (start_ok hd) h1
      rw [run_def hT (by rw [← hd.len, hl]), h3, R.bind_ok]
      split at h2
      · rename_i hct hbk
        cases fl with
        | nx =>
          obtain ⟨Γ, e, _⟩ := h4
          rw [e] at h2
          have : InR V (jR Q1.rt (some .non)) .non := jR_r ⟨_, rfl, .non⟩
          simp only [Option.isSome_some, if_true] at h2
          rw [h2] at this
          obtain ⟨_, e2, h5⟩ := this
          cases e2
          exact ⟨.non, rfl, le_has hc h5⟩
        | ct => obtain ⟨Γ, e, _⟩ := h4; rw [hct] at e; cases e
        | bk => obtain ⟨Γ, e, _⟩ := h4; rw [hbk] at e; cases e
        | rt v =>
          have : InR V (jR Q1.rt (if Q1.nx.isSome then some .non else none)) v := jR_l h4
          rw [h2] at this
          obtain ⟨_, e2, h5⟩ := this
          cases e2
          exact ⟨v, rfl, le_has hc h5⟩
      · cases h2
    · cases hu
  · cases hc
theorem SgOk.nil {F : Orc} : SgOk V F [] := fun _ _ _ m => nomatch m
theorem SgOk.cons {F : Orc} {sg : Sg} {f : Str} {ts : List Ty} {t : Ty} (h : ∀ ds, Has2 V ts ds → ∃ d, F f ds = .ok d ∧ Has V t d) (hs : SgOk V F sg) : SgOk V F ((f, ts, t) :: sg) := fun g us u m => by
  rcases List.mem_cons.mp m with e | m
  · cases e; exact h
  · exact hs g us u m
end MP
/-! Words for the plain laws: loops over typed lists; sorted lists, each item once. -/
namespace MP
open PySem
variable {V : Nat → D → Prop}

abbrev V0 : Nat → D → Prop := fun _ _ => False
theorem envN : EnvOk V [] [] := ⟨rfl, fun i t e => by simp at e⟩
theorem envS {t : Ty} {d : D} {Γ : TEnv} {r : Env} (h : Has V t d) (g : EnvOk V Γ r) : EnvOk V (some t :: Γ) (some d :: r) := ⟨by rw [List.length_cons, List.length_cons, g.1], fun i u e => by
  cases i with
  | zero => simp at e; subst e; exact ⟨d, rfl, h⟩
  | succ i => exact g.2 i u (by simpa using e)⟩
theorem envX {x : Option D} {Γ : TEnv} {r : Env} (g : EnvOk V Γ r) : EnvOk V (none :: Γ) (x :: r) := ⟨by rw [List.length_cons, List.length_cons, g.1], fun i u e => by
  cases i with
  | zero => simp at e
  | succ i => exact g.2 i u (by simpa using e)⟩
/-! ### a def's names do not matter for what it gives -/
def likeT : List (Str × Def) → List (Str × Def) → Prop
  | [], [] => True
  | (x, d) :: r, (y, e) :: s => x = y ∧ d.np = e.np ∧ d.N.length = e.N.length ∧ d.body = e.body ∧ likeT r s
  | _, _ => False
theorem like_lookup : ∀ {tab tab2 : List (Str × Def)}, likeT tab tab2 → ∀ x, (tab.lookup x = none ∧ tab2.lookup x = none) ∨ ∃ d e, tab.lookup x = some d ∧ tab2.lookup x = some e ∧ d.np = e.np ∧ d.N.length = e.N.length ∧ d.body = e.body
  | [], [], _, _ => .inl ⟨rfl, rfl⟩
  | (y, d) :: r, (z, e) :: s, h, x => by
    obtain ⟨rfl, h1, h2, h3, h4⟩ := h
    rw [List.lookup_cons, List.lookup_cons]
    cases hx : x == y with
    | true => exact .inr ⟨d, e, rfl, rfl, h1, h2, h3⟩
    | false => exact like_lookup h4 x
theorem run_like {tab tab2 : List (Str × Def)} (h : likeT tab tab2) : run (fun x => tab.lookup x) = run (fun x => tab2.lookup x) := by
  funext k
  induction k with
  | zero => funext f ds; rfl
  | succ k ih =>
    funext f ds
    show (match tab.lookup f with | some d => runBody (run (fun x => tab.lookup x) k) d ds | none => .bad) = (match tab2.lookup f with | some d => runBody (run (fun x => tab2.lookup x) k) d ds | none => .bad)
    rw [ih]
    rcases like_lookup h f with ⟨h1, h2⟩ | ⟨d, e, h1, h2, h3, h4, h5⟩
    · rw [h1, h2]
    · rw [h1, h2]
      show runBody _ d ds = runBody _ e ds
      unfold runBody
      rw [h3, h4, h5]
theorem iteT (a : Bool) : (if a = true then R.ok true else R.ok false) = R.ok a := by cases a <;> rfl
theorem iteA (a b : Bool) : (if a = true then R.ok b else R.ok false) = R.ok (a && b) := by cases a <;> rfl
theorem iteO (a b : Bool) : (if a = true then R.ok true else R.ok b) = R.ok (a || b) := by cases a <;> rfl
/-! ### loops -/
/-- how a turn may end: on to the next, out of the loop, out of the def -/
def Turn (F : Orc) (ss : ISs) (ks : List Nat) (J : Env → Prop) (Q : Fl → Env → Prop) : Fl → Env → Prop
  | .nx, e => J (killR ks e)
  | .ct, e => J (killR ks e)
  | .bk, e => Ev F ss (killR ks e) Q
  | .rt v, e => Q (.rt v) e
section
variable {F : Orc} {s : IS} {ss a b : ISs} {e c : IE} {r r1 : Env} {d : D} {i : Nat} {g : IG} {it : II} {ks : List Nat} {xs : List D} {fl : Fl} {Q : Fl → Env → Prop}
/-- a loop over a typed list, by what holds behind the items that were -/
theorem Ev.loopQ {α : Type} (f : α → D) (as : List α) (I : List α → Env → Prop) (hit : evalI F it r = .ok (as.map f)) (h0 : I [] (killR ks r))
    (hs : ∀ pre x suf e, as = pre ++ x :: suf → I pre e → ∃ e', asgG g (f x) e = .ok e' ∧ Ev F a e' (Turn F ss ks (I (pre ++ [x])) Q))
    (k : ∀ e, I as e → Ev F ss e Q) : Ev F (.cons (.loop g it ks a) ss) r Q := by
  suffices ∀ (ys : List α) (pre : List α) (r : Env), as = pre ++ ys → I pre (killR ks r) → ∃ fl e, forL ks (fun x r => (asgG g x r).bind fun r' => evalSs F a r') (ys.map f) r = .ok (fl, e) ∧ Then F ss Q fl e by
    obtain ⟨fl, e, h1, h2⟩ := this as [] r rfl h0
    have h3 := (ev_loop (F := F) (a := a) (g := g) (ks := ks) hit).trans h1
    cases fl with
    | nx => exact Ev.step h3 h2
    | rt v => exact ⟨_, _, by rw [evalSs, h3]; rfl, h2⟩
    | ct => exact ⟨_, _, by rw [evalSs, h3]; rfl, h2⟩
    | bk => exact ⟨_, _, by rw [evalSs, h3]; rfl, h2⟩
  intro ys
  induction ys with
  | nil =>
    intro pre r e h
    rw [List.append_nil] at e
    subst e
    exact ⟨.nx, _, rfl, k _ h⟩
  | cons y ys ih =>
    intro pre r e h
    obtain ⟨e', h1, fl, e2, h2, h3⟩ := hs pre y ys _ e h
    have hb : ((asgG g (f y) (killR ks r)).bind fun r' => evalSs F a r') = .ok (fl, e2) := by
      rw [h1]; exact h2
    rw [List.map_cons]
    unfold forL
    rw [hb, MP.R.bind_ok]
    have next : I (pre ++ [y]) (killR ks e2) → ∃ fl e, forL ks (fun x r => (asgG g x r).bind fun r' => evalSs F a r') (ys.map f) e2 = .ok (fl, e) ∧ Then F ss Q fl e := fun h => ih (pre ++ [y]) e2 (by rw [e]; simp) h
    cases fl with
    | nx => exact next h3
    | ct => exact next h3
    | bk => exact ⟨.nx, _, rfl, h3⟩
    | rt v => exact ⟨.rt v, _, rfl, h3⟩
/-- .. where the state is told -/
theorem Ev.loopS {α : Type} (f : α → D) (as : List α) (st : List α → Env) (hit : evalI F it r = .ok (as.map f)) (h0 : killR ks r = st [])
    (hs : ∀ pre x suf, as = pre ++ x :: suf → ∃ e', asgG g (f x) (st pre) = .ok e' ∧ Ev F a e' (Turn F ss ks (fun e => e = st (pre ++ [x])) Q))
    (k : Ev F ss (st as) Q) : Ev F (.cons (.loop g it ks a) ss) r Q :=
  Ev.loopQ f as (fun pre e => e = st pre) hit h0 (fun pre x suf e h he => by subst he; exact hs pre x suf h) (fun e he => by subst he; exact k)
theorem Ev.put {x : Nat} {kE vE : IE} {kvs : List (D × D)} {kd vd : D} (h1 : evalE F vE r = .ok vd) (h2 : varE x r = .ok (.dic kvs)) (h3 : evalE F kE r = .ok kd) (h4 : keyFor kvs kd = true) (h5 : kvs.length < lim)
    (k : Ev F ss (r.set x (some (.dic (putKV kvs kd vd)))) Q) : Ev F (.cons (.put x kE vE) ss) r Q :=
  Ev.step (by rw [evalS, h1]; simp only [R.bind_ok]; rw [h2]; simp only [R.bind_ok]; rw [h3]; simp only [R.bind_ok]; rw [if_pos (by rw [h4, decide_eq_true h5]; rfl)]) k
theorem Ev.putT {x : Nat} {kE vE : IE} {kvs : List (D × D)} {kd vd : D} (h1 : evalE F vE r = .ok vd) (h2 : varE x r = .ok (.dic kvs)) (h3 : evalE F kE r = .ok kd) (h4 : tupFor kvs kd = true) (h5 : kvs.length < lim)
    (k : Ev F ss (r.set x (some (.dic (putKV kvs kd vd)))) Q) : Ev F (.cons (.put x kE vE) ss) r Q :=
  Ev.step (by rw [evalS, h1]; simp only [R.bind_ok]; rw [h2]; simp only [R.bind_ok]; rw [h3]; simp only [R.bind_ok]; rw [if_pos (by rw [h4, decide_eq_true h5, Bool.or_true]; rfl)]) k
theorem Ev.asgT {is : List Nat} {ds : List D} (h : evalE F e r = .ok (.tup ds)) (hl : ds.length = is.length) (k : Ev F ss (setMany r is ds) Q) : Ev F (.cons (.asg (.tp is) e) ss) r Q :=
  Ev.step (r1 := setMany r is ds) (by rw [evalS, h]; simp only [R.bind_ok, asgG]; rw [if_pos hl]; rfl) k
theorem Ev.ite {p : Bool} (h : evalE F c r = .ok (.bl p)) (h1 : p = true → Ev F a r (Then F ss Q)) (h2 : p = false → Ev F b r (Then F ss Q)) : Ev F (.cons (.ifs c a b) ss) r Q := by
  cases p with
  | true => exact Ev.tt h (h1 rfl)
  | false => exact Ev.ff h (h2 rfl)
theorem Ev.imp {Q2 : Fl → Env → Prop} (h : Ev F ss r Q) (hq : ∀ fl e, Q fl e → Q2 fl e) : Ev F ss r Q2 := by
  obtain ⟨fl, e, h1, h2⟩ := h
  exact ⟨fl, e, h1, hq _ _ h2⟩
/-- a def that gives one told value -/
theorem run_is {T : Str → Option Def} {k : Nat} {f : Str} {d : Def} {ds : List D} {v : D} (hT : T f = some d) (hl : ds.length = d.np) (h : Ev (run T k) d.body (ds.map some ++ List.replicate (d.N.length - d.np) none) fun fl _ => fl = .rt v) : run T (k + 1) f ds = .ok v := by
  obtain ⟨fl, r', h1, rfl⟩ := h
  rw [run_def hT hl, h1]; rfl
end
/-! ### comprehensions over typed lists -/
theorem compM {α : Type} {f : D → R (Option D)} {h : α → D} (g : α → D) : ∀ (as : List α), (∀ a ∈ as, f (h a) = .ok (some (g a))) → compL f (as.map h) = .ok (as.map g)
  | [], _ => rfl
  | a :: as, e => by
    rw [List.map_cons, List.map_cons]
    unfold compL
    rw [e a List.mem_cons_self, compM g as fun b m => e b (List.mem_cons_of_mem _ m)]
    rfl
theorem compF {α : Type} {f : D → R (Option D)} {h : α → D} (g : α → D) (p : α → Bool) : ∀ (as : List α), (∀ a ∈ as, f (h a) = .ok (if p a then some (g a) else none)) → compL f (as.map h) = .ok ((as.filter p).map g)
  | [], _ => rfl
  | a :: as, e => by
    rw [List.map_cons]
    unfold compL
    rw [e a List.mem_cons_self, compF g p as fun b m => e b (List.mem_cons_of_mem _ m)]
    by_cases hp : p a = true
    · simp [hp]
    · simp [hp]
/-- [e for g in it] over a typed list -/
theorem ev_compM {α : Type} {F : Orc} {g : IG} {it : II} {e : IE} {r : Env} {f : α → D} (h : α → D) {as : List α} (h1 : evalI F it r = .ok (as.map f)) (h2 : ∀ a ∈ as, ∃ r', asgG g (f a) r = .ok r' ∧ evalE F e r' = .ok (h a)) (h3 : as.length ≤ lim) :
    evalE F (.comp g it .no e) r = .ok (.lst (as.map h)) :=
  ev_comp h1 (compM h as fun a m => by
    obtain ⟨r', e1, e2⟩ := h2 a m
    rw [e1, R.bind_ok]
    show (evalC F .no r').bind _ = _
    rw [evalC, R.bind_ok, if_pos rfl, e2]
    rfl) (by rw [List.length_map]; exact h3)
theorem ev_compF {α : Type} {F : Orc} {g : IG} {it : II} {c e : IE} {r : Env} {f : α → D} (h : α → D) (p : α → Bool) {as : List α} (h1 : evalI F it r = .ok (as.map f))
    (h2 : ∀ a ∈ as, ∃ r', asgG g (f a) r = .ok r' ∧ evalE F c r' = .ok (.bl (p a)) ∧ (p a = true → evalE F e r' = .ok (h a))) (h3 : as.length ≤ lim) :
    evalE F (.comp g it (.yes c) e) r = .ok (.lst ((as.filter p).map h)) :=
  ev_comp h1 (compF h p as fun a m => by
    obtain ⟨r', e1, e2, e3⟩ := h2 a m
    rw [e1, R.bind_ok]
    show (evalC F (.yes c) r').bind _ = _
    rw [evalC, e2]
    simp only [R.bind_ok, unbl]
    by_cases hp : p a = true
    · rw [if_pos hp, if_pos hp, e3 hp]; rfl
    · rw [if_neg hp, if_neg hp]) (by rw [List.length_map]; exact Nat.le_trans (List.length_filter_le _ _) h3)

theorem compX {α β : Type} {f : D → R (Option D)} {h : α → D} (g : β → D) (P : α → β → Prop) : ∀ (as : List α), (∀ a ∈ as, ∃ b, f (h a) = .ok (some (g b)) ∧ P a b) → ∃ bs : List β, compL f (as.map h) = .ok (bs.map g) ∧ bs.length = as.length ∧ ∀ (i : Nat) a b, as[i]? = some a → bs[i]? = some b → P a b
  | [], _ => ⟨[], rfl, rfl, fun i a b e => by simp at e⟩
  | a :: as, e => by
    obtain ⟨b, h1, h2⟩ := e a List.mem_cons_self
    obtain ⟨bs, h3, h4, h5⟩ := compX g P as fun b m => e b (List.mem_cons_of_mem _ m)
    refine ⟨b :: bs, ?_, by simp [h4], fun i x y ex ey => ?_⟩
    · rw [List.map_cons]
      unfold compL
      rw [h1, h3]
      rfl
    · cases i with
      | zero => simp at ex ey; subst ex; subst ey; exact h2
      | succ i => exact h5 i x y (by simpa using ex) (by simpa using ey)
theorem ev_compX {α β : Type} {F : Orc} {g : IG} {it : II} {e : IE} {r : Env} {f : α → D} (h : β → D) (P : α → β → Prop) {as : List α} (h1 : evalI F it r = .ok (as.map f)) (h3 : as.length ≤ lim)
    (h2 : ∀ a ∈ as, ∃ r', asgG g (f a) r = .ok r' ∧ ∃ b, evalE F e r' = .ok (h b) ∧ P a b) :
    ∃ bs : List β, evalE F (.comp g it .no e) r = .ok (.lst (bs.map h)) ∧ bs.length = as.length ∧ ∀ (i : Nat) a b, as[i]? = some a → bs[i]? = some b → P a b := by
  obtain ⟨bs, e1, e2, e3⟩ := compX (f := fun x => (asgG g x r).bind fun r' => (evalC F .no r').bind fun b => if b then (evalE F e r').bind fun y => .ok (some y) else .ok none) h P as fun a m => by
    obtain ⟨r', q1, b, q2, q3⟩ := h2 a m
    refine ⟨b, ?_, q3⟩
    rw [q1, R.bind_ok]
    show (evalC F .no r').bind _ = _
    rw [evalC, R.bind_ok, if_pos rfl, q2]
    rfl
  exact ⟨bs, ev_comp h1 e1 (by rw [List.length_map, e2]; exact h3), e2, e3⟩
theorem compX_mem {α β : Type} {P : α → β → Prop} {Q : β → Prop} {as : List α} {bs : List β} (hl : bs.length = as.length) (h : ∀ (i : Nat) a b, as[i]? = some a → bs[i]? = some b → P a b) (hq : ∀ a b, P a b → Q b) : ∀ b ∈ bs, Q b := fun b m => by
  obtain ⟨i, hi, rfl⟩ := List.mem_iff_getElem.mp m
  exact hq _ _ (h i as[i] _ (List.getElem?_eq_getElem (by omega)) (List.getElem?_eq_getElem hi))
/-! ### sorted, each once -/
section
variable {α : Type} (f : α → D)
def srtBy (as : List α) : List α := as.mergeSort fun x y => !dlt (f y) (f x)
theorem srtBy_map (as : List α) : sortL (as.map f) = (srtBy f as).map f := (List.map_mergeSort (f := f) (r := fun x y => !dlt (f y) (f x)) (s := fun x y => !dlt y x) (fun _ _ _ _ => rfl)).symm
theorem srtBy_perm (as : List α) : (srtBy f as).Perm as := List.mergeSort_perm _ _
theorem srtBy_mem {as : List α} {a : α} : a ∈ srtBy f as ↔ a ∈ as := (srtBy_perm f as).mem_iff
theorem srtBy_len (as : List α) : (srtBy f as).length = as.length := (srtBy_perm f as).length_eq
/-- neighbours that are alike: one of them -/
def dd [DecidableEq α] : List α → List α → List α
  | acc, [] => acc
  | acc, x :: xs => if acc.getLast? = some x then dd acc xs else dd (acc ++ [x]) xs
variable {f}
def Strict (f : α → D) (l : List α) : Prop := l.Pairwise fun a b => dlt (f a) (f b) = true
def Weak (f : α → D) (l : List α) : Prop := l.Pairwise fun a b => dlt (f b) (f a) = false
theorem srtBy_weak {n : Nat} {as : List α} (hp : ∀ a ∈ as, plainN n (f a) = true) : Weak f (srtBy f as) := by
  have := sortL_srtd (ord_plain n) (ds := as.map f) (fun x m => by
    obtain ⟨a, ha, rfl⟩ := List.mem_map.mp m
    exact hp a ha)
  rw [srtBy_map, List.pairwise_map] at this
  exact this
theorem dd_mem [DecidableEq α] : ∀ (acc xs : List α) (a : α), a ∈ dd acc xs ↔ a ∈ acc ∨ a ∈ xs
  | acc, [], a => by simp [dd]
  | acc, x :: xs, a => by
    unfold dd
    split
    · rename_i h
      rw [dd_mem acc xs a, List.mem_cons]
      constructor
      · rintro (h | h)
        · exact .inl h
        · exact .inr (.inr h)
      · rintro (h' | rfl | h')
        · exact .inl h'
        · exact .inl (List.mem_of_getLast? h)
        · exact .inr h'
    · rw [dd_mem (acc ++ [x]) xs a]
      simp [or_assoc]
theorem dd_strict [DecidableEq α] {n : Nat} (hi : ∀ {a b : α}, f a = f b ↔ a = b) : ∀ (acc xs : List α), (∀ a ∈ acc ++ xs, plainN n (f a) = true) → Strict f acc → Weak f xs → (∀ a ∈ acc, ∀ x ∈ xs, dlt (f x) (f a) = false) → Strict f (dd acc xs)
  | acc, [], _, h, _, _ => h
  | acc, x :: xs, hp, h1, h2, h3 => by
    have O := ord_plain n
    have px : plainN n (f x) = true := hp x (List.mem_append_right _ List.mem_cons_self)
    have h2' := List.pairwise_cons.mp h2
    unfold dd
    split
    · exact dd_strict hi acc xs (fun a m => hp a (by
        rcases List.mem_append.mp m with m | m
        · exact List.mem_append_left _ m
        · exact List.mem_append_right _ (List.mem_cons_of_mem _ m))) h1 h2'.2 fun a ha y hy => h3 a ha y (List.mem_cons_of_mem _ hy)
    · rename_i hne
      refine dd_strict hi (acc ++ [x]) xs (fun a m => hp a (by simpa [List.append_assoc] using m)) ?_ h2'.2 fun a ha y hy => ?_
      · unfold Strict
        rw [List.pairwise_append]
        refine ⟨h1, by simp, fun a ha b hb => ?_⟩
        rw [List.mem_singleton.mp hb]
        have pa := hp a (List.mem_append_left _ ha)
        have hw := h3 a ha x List.mem_cons_self
        by_cases e : f a = f x
        · exfalso
          have e' := hi.mp e
          subst e'
          -- a is the last one, as all others lie strictly ahead
          apply hne
          obtain ⟨l, y, rfl⟩ : ∃ l y, acc = l ++ [y] := ⟨acc.dropLast, acc.getLast (List.ne_nil_of_mem ha), (List.dropLast_concat_getLast (List.ne_nil_of_mem ha)).symm⟩
          rw [List.getLast?_append]
          simp only [List.getLast?_singleton, Option.some_or, Option.some.injEq]
          rcases List.mem_append.mp ha with ha | ha
          · have h4 := (List.pairwise_append.mp h1).2.2 a ha y (by simp)
            have h5 := h3 y (by simp) a List.mem_cons_self
            rw [h4] at h5
            cases h5
          · exact (List.mem_singleton.mp ha).symm
        · rcases O.tri _ _ pa px e with q | q
          · exact q
          · rw [hw] at q; cases q
      · rcases List.mem_append.mp ha with ha | ha
        · exact h3 a ha y (List.mem_cons_of_mem _ hy)
        · rw [List.mem_singleton.mp ha]; exact h2'.1 y hy
/-- in order, each once -/
def stD (f : α → D) [DecidableEq α] (as : List α) : List α := dd [] (srtBy f as)
theorem stD_mem [DecidableEq α] {as : List α} {a : α} : a ∈ stD f as ↔ a ∈ as := by
  unfold stD
  rw [dd_mem, srtBy_mem]
  simp
theorem stD_strict [DecidableEq α] {n : Nat} (hi : ∀ {a b : α}, f a = f b ↔ a = b) {as : List α} (hp : ∀ a ∈ as, plainN n (f a) = true) : Strict f (stD f as) :=
  dd_strict (n := n) hi [] _ (fun a m => hp a ((srtBy_mem f).mp (by simpa using m))) List.Pairwise.nil (srtBy_weak hp) (fun a m => nomatch m)
theorem strict_uniq {n : Nat} : ∀ {l m : List α}, (∀ a ∈ l, plainN n (f a) = true) → (∀ a ∈ m, plainN n (f a) = true) → Strict f l → Strict f m → (∀ a, a ∈ l ↔ a ∈ m) → l = m
  | [], [], _, _, _, _, _ => rfl
  | [], y :: ys, _, _, _, _, h => absurd ((h y).mpr List.mem_cons_self) (by simp)
  | x :: xs, [], _, _, _, _, h => absurd ((h x).mp List.mem_cons_self) (by simp)
  | x :: xs, y :: ys, h1, h2, s1, s2, h => by
    have O := ord_plain n
    have p1 := List.pairwise_cons.mp s1
    have p2 := List.pairwise_cons.mp s2
    have asym : ∀ a b, plainN n (f a) = true → plainN n (f b) = true → dlt (f a) (f b) = true → dlt (f b) (f a) = true → False := fun a b pa pb q1 q2 => by
      have := O.trn _ _ _ pa pb pa q1 q2
      rw [O.irr _ pa] at this
      cases this
    have exy : x = y := by
      rcases List.mem_cons.mp ((h x).mp List.mem_cons_self) with e | mx
      · exact e
      · rcases List.mem_cons.mp ((h y).mpr List.mem_cons_self) with e | my
        · exact e.symm
        · exact (asym x y (h1 x List.mem_cons_self) (h2 y List.mem_cons_self) (p1.1 y my) (p2.1 x mx)).elim
    subst exy
    have irr : dlt (f x) (f x) = false := O.irr _ (h1 x List.mem_cons_self)
    refine congrArg (x :: ·) (strict_uniq (fun a m => h1 a (List.mem_cons_of_mem _ m)) (fun a m => h2 a (List.mem_cons_of_mem _ m)) p1.2 p2.2 fun a => ?_)
    constructor
    · intro m
      rcases List.mem_cons.mp ((h a).mp (List.mem_cons_of_mem _ m)) with e | q
      · subst e; have := p1.1 a m; rw [irr] at this; cases this
      · exact q
    · intro m
      rcases List.mem_cons.mp ((h a).mpr (List.mem_cons_of_mem _ m)) with e | q
      · subst e; have := p2.1 a m; rw [irr] at this; cases this
      · exact q
theorem Strict.nodup {n : Nat} {l : List α} (h : Strict f l) (hp : ∀ a ∈ l, plainN n (f a) = true) : l.Nodup := by
  induction l with
  | nil => exact List.nodup_nil
  | cons x xs ih =>
    have p := List.pairwise_cons.mp h
    rw [List.nodup_cons]
    refine ⟨fun m => ?_, ih p.2 fun a m => hp a (List.mem_cons_of_mem _ m)⟩
    have := p.1 x m
    rw [(ord_plain n).irr _ (hp x List.mem_cons_self)] at this
    cases this
theorem stD_uniq [DecidableEq α] {n : Nat} (hi : ∀ {a b : α}, f a = f b ↔ a = b) {as l : List α} (hp : ∀ a ∈ as, plainN n (f a) = true) (hs : Strict f l) (hm : ∀ a, a ∈ l ↔ a ∈ as) : stD f as = l :=
  strict_uniq (n := n) (fun a m => hp a (stD_mem.mp m)) (fun a m => hp a ((hm a).mp m)) (stD_strict hi hp) hs fun a => by rw [stD_mem, hm]
theorem stD_len [DecidableEq α] {n : Nat} (hi : ∀ {a b : α}, f a = f b ↔ a = b) {as : List α} (hp : ∀ a ∈ as, plainN n (f a) = true) : (stD f as).length ≤ as.length :=
  List.Nodup.length_le_of_subset ((stD_strict hi hp).nodup (n := n) fun a m => hp a (stD_mem.mp m)) fun a m => stD_mem.mp m
end
end MP
/-! The program's own defs, each with what it answers: stands. -/
namespace LC
open PySem MP
variable {V : Nat → D → Prop}

theorem cmp_eq (x y : D) : cmpD .eq x y = eqD x y := by rw [cmpD]
theorem cmp_ne (x y : D) : cmpD .ne x y = (eqD x y).bind fun b => .ok (!b) := by rw [cmpD]
theorem cmp_in (x y : D) : cmpD .isin x y = inD x y := by rw [cmpD]
theorem cmp_notin (x y : D) : cmpD .notin x y = (inD x y).bind fun b => .ok (!b) := by rw [cmpD]
theorem cmpS_eq (a b : Str) : cmpD .eq (.str a) (.str b) = .ok (decide (a = b)) := by rw [cmp_eq, eqD_str]
theorem cmpS_ne (a b : Str) : cmpD .ne (.str a) (.str b) = .ok (!decide (a = b)) := by rw [cmp_ne, eqD_str]; rfl
theorem cmpI_eq (a b : Int) : cmpD .eq (.int a) (.int b) = .ok (decide (a = b)) := by rw [cmp_eq, eqD_int]
theorem cmpI_ne (a b : Int) : cmpD .ne (.int a) (.int b) = .ok (!decide (a = b)) := by rw [cmp_ne, eqD_int]; rfl
theorem eqD_cells (a b : Cell) : eqD (cD a) (cD b) = .ok (decide (a = b)) := by
  rw [eqD_plain (plN_cD 29 a) (plN_cD 29 b)]
  congr 1
  exact decide_eq_decide.mpr cD_inj
theorem cmpS_qnb : cmpD .eq (.str "name") (.str "blank") = .ok false := by rw [cmpS_eq, decide_eq_false (by decide)]
theorem cmpS_qbn : cmpD .eq (.str "blank") (.str "name") = .ok false := by rw [cmpS_eq, decide_eq_false (by decide)]
theorem cmpS_qbb : cmpD .eq (.str "blank") (.str "blank") = .ok true := by rw [cmpS_eq, decide_eq_true rfl]
theorem cmpS_qnn : cmpD .eq (.str "name") (.str "name") = .ok true := by rw [cmpS_eq, decide_eq_true rfl]
theorem cmpS_nnb : cmpD .ne (.str "name") (.str "blank") = .ok true := by rw [cmpS_ne, decide_eq_false (by decide)]; rfl
theorem cmpS_nbn : cmpD .ne (.str "blank") (.str "name") = .ok true := by rw [cmpS_ne, decide_eq_false (by decide)]; rfl
theorem cmpS_nbb : cmpD .ne (.str "blank") (.str "blank") = .ok false := by rw [cmpS_ne, decide_eq_true rfl]; rfl
theorem cmpS_nnn : cmpD .ne (.str "name") (.str "name") = .ok false := by rw [cmpS_ne, decide_eq_true rfl]; rfl
theorem intD_inj {a b : Int} : D.int a = D.int b ↔ a = b := ⟨fun h => by injection h, fun h => by rw [h]⟩
theorem strD_inj {a b : Str} : D.str a = D.str b ↔ a = b := ⟨fun h => by injection h, fun h => by rw [h]⟩
theorem int_of {v : D} (h : Has V .int v) : ∃ i, v = .int i := by cases h; exact ⟨_, rfl⟩
theorem rng_of {a b : Int} {v : D} (h : Has V (.rng a b) v) : ∃ i, v = .int i ∧ a ≤ i ∧ i ≤ b := by cases h; exact ⟨_, rfl, by assumption, by assumption⟩
theorem bl_of {v : D} (h : Has V .bl v) : ∃ b, v = .bl b := by cases h; exact ⟨_, rfl⟩
theorem has1 {t : Ty} {v : D} (h : Has V t v) : Has2 V [t] [v] := .cons h .nil
theorem sliceL_len {α : Type} (xs : List α) (lo hi : Option Int) : (sliceL xs lo hi).length ≤ xs.length := slice_len xs lo hi
theorem sum_ints (ns : List Int) : biD .sum [.lst (ns.map .int)] = .ok (.int ns.sum) := by simp only [biD, MP.intsOf_map]
theorem idx_get {α : Type} (f : α → D) {xs : List α} {i : Int} (h0 : 0 ≤ i) (h : i.toNat < xs.length) : idxD (.lst (xs.map f)) (.int i) = .ok (f xs[i.toNat]) := by
  show atD _ _ = _
  unfold atD
  rw [if_pos h0, List.getElem?_map, List.getElem?_eq_getElem h]
  rfl
theorem idx_getT {α : Type} (f : α → D) {xs : List α} {i : Int} (h0 : 0 ≤ i) (h : i.toNat < xs.length) : idxD (.tup (xs.map f)) (.int i) = .ok (f xs[i.toNat]) := idx_get f h0 h
theorem len_lst {α : Type} (f : α → D) (xs : List α) : biD .len [.lst (xs.map f)] = .ok (.int xs.length) := by simp [biD]
theorem len_tup {α : Type} (f : α → D) (xs : List α) : biD .len [.tup (xs.map f)] = .ok (.int xs.length) := by simp [biD]
theorem isl_lst (xs : List D) : biD .isList [.lst xs] = .ok (.bl true) := rfl
theorem list_lst (xs : List D) : biD .list [.lst xs] = .ok (.lst xs) := rfl
theorem rowD_0 (r : Row) : idxD (rD r) (.int 0) = .ok (.str r.1) := rfl
theorem rowD_1 (r : Row) : idxD (rD r) (.int 1) = .ok (.tup (r.2.map cD)) := rfl
theorem cellD_0 (c : Cell) : idxD (cD c) (.int 0) = .ok (.str (match c with | .blank _ => "blank" | .name _ => "name")) := by cases c <;> rfl
theorem cellD_1 (c : Cell) : idxD (cD c) (.int 1) = .ok (match c with | .blank n => .int n | .name s => .str s) := by cases c <;> rfl
theorem noR_rows (rs : List Row) : noR true (.lst (rs.map rD)) = true := by
  show (rs.map rD).all noL = true
  rw [List.all_eq_true]
  intro d hd
  obtain ⟨r, _, rfl⟩ := List.mem_map.mp hd
  show noLN 30 (.tup [.str r.1, .tup (r.2.map cD)]) = true
  rw [noLN]
  simp only [List.all_cons, List.all_nil, Bool.and_true, Bool.and_eq_true]
  refine ⟨rfl, ?_⟩
  rw [noLN, List.all_eq_true]
  intro d hd
  obtain ⟨c, _, rfl⟩ := List.mem_map.mp hd
  cases c <;> rfl
/-- one more than what stood is lent -/
theorem noR_bl (b : Bool) : noR false (.bl b) = true := rfl
theorem small_of {i : Int} (h1 : -1000000000 ≤ i) (h2 : i ≤ 1000000000) : small62 i = true := by
  unfold small62
  simp only [Bool.and_eq_true, decide_eq_true_eq]
  omega
theorem ev_rng2 {F : Orc} {a b : IE} {r : MP.Env} {m n : Int} (h1 : evalE F a r = .ok (.int m)) (h2 : evalE F b r = .ok (.int n)) (s1 : small62 m = true) (s2 : small62 n = true) : evalI F (.rng2 a b) r = .ok ((List.range (n - m).toNat).map fun (i : Nat) => D.int (m + i)) := by
  rw [evalI, h1, R.bind_ok]
  show (R.ok m).bind _ = _
  rw [R.bind_ok, h2, R.bind_ok]
  show (R.ok n).bind _ = _
  rw [R.bind_ok, s1, s2]
  rfl
theorem zip_maps {α β : Type} (f : α → D) (g : β → D) (as : List α) (bs : List β) : (as.map f).zipWith (fun u v => D.tup [u, v]) (bs.map g) = (as.zip bs).map fun p => .tup [f p.1, g p.2] := by
  induction as generalizing bs with
  | nil => simp
  | cons a as ih =>
    cases bs with
    | nil => simp
    | cons b bs => simp [ih]
/-! ### kinds of rows -/
theorem cell_of {t1 t2 : Ty} {v : D} (h : Has V (.uni (.tup (.tc (.lit "blank") (.tc t1 .tn))) (.tup (.tc (.lit "name") (.tc t2 .tn)))) v) (h1 : (asInt t1).isSome = true) (h2 : (asStr t2).isSome = true) :
    ∃ c : Cell, v = cD c ∧ (∀ n, c = .blank n → Has V t1 (.int n)) ∧ ∀ s, c = .name s → Has V t2 (.str s) := by
  cases h with
  | ul h =>
    cases h with
    | tup h =>
      cases h with
      | cons a b =>
        cases a
        cases b with
        | cons c d =>
          cases d
          obtain ⟨i, rfl⟩ := someInt h1 c
          exact ⟨.blank i, rfl, (fun n e => by cases e; exact c), (fun s e => nomatch e)⟩
  | ur h =>
    cases h with
    | tup h =>
      cases h with
      | cons a b =>
        cases a
        cases b with
        | cons c d =>
          cases d
          obtain ⟨i, rfl⟩ := someStr h2 c
          exact ⟨.name i, rfl, (fun s e => nomatch e), (fun n e => by cases e; exact c)⟩
/-- a cell of a kind -/
structure CellIn (V : Nat → D → Prop) (t1 t2 : Ty) (c : Cell) : Prop where
  bl : ∀ n, c = .blank n → Has V t1 (.int n)
  nm : ∀ s, c = .name s → Has V t2 (.str s)
abbrev tyCell (t1 t2 : Ty) : Ty := .uni (.tup (.tc (.lit "blank") (.tc t1 .tn))) (.tup (.tc (.lit "name") (.tc t2 .tn)))
abbrev tyRow (t0 t1 t2 : Ty) (lo hi : Nat) : Ty := .tup (.tc t0 (.tc (.tups (tyCell t1 t2) lo hi) .tn))
structure RowIn (V : Nat → D → Prop) (t0 t1 t2 : Ty) (lo hi : Nat) (r : Row) : Prop where
  tb : Has V t0 (.str r.1)
  lo : lo ≤ r.2.length
  hi : r.2.length ≤ hi
  cs : ∀ c ∈ r.2, CellIn V t1 t2 c
theorem row_of {t0 t1 t2 : Ty} {lo hi : Nat} {v : D} (h : Has V (tyRow t0 t1 t2 lo hi) v) (h0 : (asStr t0).isSome = true) (h1 : (asInt t1).isSome = true) (h2 : (asStr t2).isSome = true) : ∃ r : Row, v = rD r ∧ RowIn V t0 t1 t2 lo hi r := by
  cases h with
  | tup h =>
    cases h with
    | cons a b =>
      cases b with
      | cons c d =>
        cases d
        obtain ⟨s, rfl⟩ := someStr h0 a
        cases c with
        | tups p q r =>
          obtain ⟨cs, rfl, hcs⟩ := asMap (f := cD) (P := fun c : Cell => CellIn V t1 t2 c) fun y m => by
            obtain ⟨c, rfl, g1, g2⟩ := cell_of (p y m) h1 h2
            exact ⟨c, rfl, g1, g2⟩
          rw [List.length_map] at q r
          exact ⟨(s, cs), rfl, a, q, r, hcs⟩
theorem rows_of {t0 t1 t2 : Ty} {lo hi a b : Nat} {v : D} (h : Has V (.lst (tyRow t0 t1 t2 lo hi) a b) v) (h0 : (asStr t0).isSome = true) (h1 : (asInt t1).isSome = true) (h2 : (asStr t2).isSome = true) :
    ∃ rs : List Row, v = .lst (rs.map rD) ∧ a ≤ rs.length ∧ rs.length ≤ b ∧ ∀ r ∈ rs, RowIn V t0 t1 t2 lo hi r := by
  cases h with
  | lst p q r =>
    obtain ⟨cs, rfl, hcs⟩ := asMap (f := rD) (P := fun c : Row => RowIn V t0 t1 t2 lo hi c) fun y m => row_of (p y m) h0 h1 h2
    rw [List.length_map] at q r
    exact ⟨cs, rfl, q, r, hcs⟩
theorem ints_has (ns : List Int) {a b : Nat} (h1 : a ≤ ns.length) (h2 : ns.length ≤ b) : Has V (.lst .int a b) (.lst (ns.map .int)) :=
  .lst (fun d m => by obtain ⟨n, _, rfl⟩ := List.mem_map.mp m; exact .int n) (by rw [List.length_map]; exact h1) (by rw [List.length_map]; exact h2)

/-! ### stand_of -/
def dStandOf : MP.Def := { np := 1, N := ["rows", "found", "row"], own := [.sh, .li, .sh], ro := .li, body := (.cons (.asg (.nm 1) (.lst .nil)) (.cons (.loop (.nm 2) (.of (.bi .sorted (.cons (.var 0) .nil))) [2] (.cons (.ifs (.or (.cons (.cmp .eq (.var 1) (.lst .nil)) (.cons (.cmp .ne (.idx (.var 1) (.bin .sub (.bi .len (.cons (.var 1) .nil)) (.int 1))) (.var 2)) .nil))) (.cons (.app 1 (.var 2)) .nil) .nil) .nil)) (.cons (.ret (.var 1)) .nil))) }
abbrev mkS (rs : List Row) : List Row := stD rD rs
theorem eqD_rows (a b : Row) : eqD (rD a) (rD b) = .ok (decide (a = b)) := by
  rw [eqD_plain (plN_rD 27 a) (plN_rD 27 b)]
  congr 1
  exact decide_eq_decide.mpr rD_inj
theorem cmp_rows_ne (a b : Row) : cmpD .ne (rD a) (rD b) = .ok (!decide (a = b)) := by rw [cmp_ne, eqD_rows]; rfl
theorem eqD_stands (a b : List Row) : eqD (.lst (a.map rD)) (.lst (b.map rD)) = .ok (decide (a = b)) := by
  rw [eqD_plain (plN_rows 26 a) (plN_rows 26 b)]
  congr 1
  refine decide_eq_decide.mpr ?_
  rw [D.lst.injEq]
  exact map_inj rD_inj
theorem in_rows (r : Row) (rs : List Row) : inD (rD r) (.lst (rs.map rD)) = .ok (decide (r ∈ rs)) := by
  have hall : (rs.map rD).all MP.plain = true := by
    rw [List.all_eq_true]
    intro d hd
    obtain ⟨t, _, rfl⟩ := List.mem_map.mp hd
    exact plN_rD 27 t
  rw [in_plain (plN_rD 27 r) hall (fun _ => .inr trivial), any_map rD_inj]
theorem cmp_stands_eq (a b : List Row) : cmpD .eq (.lst (a.map rD)) (.lst (b.map rD)) = .ok (decide (a = b)) := by rw [cmp_eq, eqD_stands]
theorem cmp_stands_ne (a b : List Row) : cmpD .ne (.lst (a.map rD)) (.lst (b.map rD)) = .ok (!decide (a = b)) := by rw [cmp_ne, eqD_stands]; rfl
theorem last_idx {α : Type} (f : α → D) {xs : List α} {x : α} (h : xs.getLast? = some x) : idxD (.lst (xs.map f)) (.int ((xs.map f).length - 1)) = .ok (f x) := by
  rw [List.getLast?_eq_getElem?] at h
  have hl := (List.getElem?_eq_some_iff.mp h).1
  show atD _ _ = _
  unfold atD
  rw [List.length_map, if_pos (by omega), List.getElem?_map]
  have e : ((xs.length : Int) - 1).toNat = xs.length - 1 := by omega
  rw [e, h]
  rfl
section
variable {T : Str → Option Def}
theorem plN_mem {rs : List Row} : ∀ r ∈ rs, plainN 30 (rD r) = true := fun r _ => plN_rD 27 r
theorem standOf_ok (hT : T "stand_of" = some dStandOf) (k : Nat) (rs : List Row) (hl : rs.length < lim) : run T (k + 1) "stand_of" [.lst (rs.map rD)] = .ok (.lst ((mkS rs).map rD)) := by
  refine run_is hT rfl ?_
  have so : biD .sorted [.lst (rs.map rD)] = .ok (.lst ((srtBy rD rs).map rD)) := by
    show sortD _ = _
    unfold sortD
    rw [if_pos (sort_rows rs), srtBy_map]
  generalize D.lst (rs.map rD) = P at so
  show Ev _ _ [some P, none, none] _
  refine Ev.asg (d := .lst []) (by simp only [evalE, evalEs, evalAnd, evalOr, evalO, evalC, evalI, varE, asgG, setMany, List.getElem?_cons_zero, List.getElem?_cons_succ, List.set_cons_zero, List.set_cons_succ, R.bind_ok, unbl, unint, lstOf, dicOf, iteT, iteA, iteO, Bool.and_true, Bool.or_false, Bool.and_false, Bool.or_true, Bool.true_and, Bool.false_and, Bool.true_or, Bool.false_or, if_true, Bool.false_eq_true, if_false, Bool.not_true, Bool.not_false] <;> rfl) ?_
  refine Ev.loopQ rD (srtBy rD rs) (fun pre e => ∃ acc : List Row, e = [some P, some (.lst (acc.map rD)), none] ∧ acc.length ≤ pre.length ∧ dd [] (srtBy rD rs) = dd acc ((srtBy rD rs).drop pre.length)) (by simp only [evalE, evalEs, evalAnd, evalOr, evalO, evalC, evalI, varE, asgG, setMany, List.getElem?_cons_zero, List.getElem?_cons_succ, List.set_cons_zero, List.set_cons_succ, R.bind_ok, unbl, unint, lstOf, dicOf, iteT, iteA, iteO, Bool.and_true, Bool.or_false, Bool.and_false, Bool.or_true, Bool.true_and, Bool.false_and, Bool.true_or, Bool.false_or, if_true, Bool.false_eq_true, if_false, Bool.not_true, Bool.not_false, so, seqD] <;> rfl) ⟨[], rfl, Nat.le_refl _, rfl⟩ ?_ ?_
  · rintro pre x suf _ hs ⟨acc, rfl, hl2, hd⟩
    refine ⟨[some P, some (.lst (acc.map rD)), some (rD x)], rfl, ?_⟩
    have hdrop : (srtBy rD rs).drop pre.length = x :: suf := by rw [hs]; simp
    have hdrop2 : (srtBy rD rs).drop (pre ++ [x]).length = suf := by rw [hs]; simp
    rw [hdrop] at hd
    have hlen : pre.length < rs.length := by
      have := srtBy_len rD rs
      rw [hs] at this; simp at this; omega
    -- the test
    have hc : evalE (run T k) (.or (.cons (.cmp .eq (.var 1) (.lst .nil)) (.cons (.cmp .ne (.idx (.var 1) (.bin .sub (.bi .len (.cons (.var 1) .nil)) (.int 1))) (.var 2)) .nil))) [some P, some (.lst (acc.map rD)), some (rD x)] = .ok (.bl (!decide (acc.getLast? = some x))) := by
      have e1 : cmpD .eq (.lst (acc.map rD)) (.lst []) = .ok (decide (acc = [])) := eqD_stands acc []
      cases h : acc.getLast? with
      | none =>
        have : acc = [] := List.getLast?_eq_none_iff.mp h
        subst this
        simp only [evalE, evalEs, evalAnd, evalOr, evalO, evalC, evalI, varE, asgG, setMany, List.getElem?_cons_zero, List.getElem?_cons_succ, List.set_cons_zero, List.set_cons_succ, R.bind_ok, unbl, unint, lstOf, dicOf, iteT, iteA, iteO, Bool.and_true, Bool.or_false, Bool.and_false, Bool.or_true, Bool.true_and, Bool.false_and, Bool.true_or, Bool.false_or, if_true, Bool.false_eq_true, if_false, Bool.not_true, Bool.not_false, e1]
        rfl
      | some y =>
        have hne : acc ≠ [] := fun z => by subst z; cases h
        rw [decide_eq_false hne] at e1
        have e2 := last_idx rD h
        have e3 : cmpD .ne (rD y) (rD x) = .ok (!decide (y = x)) := by
          show (eqD _ _).bind _ = _
          rw [eqD_rows]; rfl
        have e4 : biD .len [.lst (acc.map rD)] = .ok (.int (acc.map rD).length) := rfl
        have e5 : binD .sub (.int (acc.map rD).length) (.int 1) = .ok (.int ((acc.map rD).length - 1)) := rfl
        simp only [evalE, evalEs, evalAnd, evalOr, evalO, evalC, evalI, varE, asgG, setMany, List.getElem?_cons_zero, List.getElem?_cons_succ, List.set_cons_zero, List.set_cons_succ, R.bind_ok, unbl, unint, lstOf, dicOf, iteT, iteA, iteO, Bool.and_true, Bool.or_false, Bool.and_false, Bool.or_true, Bool.true_and, Bool.false_and, Bool.true_or, Bool.false_or, if_true, Bool.false_eq_true, if_false, Bool.not_true, Bool.not_false, e1, e4, e5, e2, e3]
        by_cases hyx : y = x <;> simp [hyx]
    refine Ev.ite hc (fun h => ?_) (fun h => ?_)
    · have hne : ¬ acc.getLast? = some x := by simpa using h
      refine Ev.app (v := rD x) (xs := acc.map rD) rfl (by simp only [evalE, evalEs, evalAnd, evalOr, evalO, evalC, evalI, varE, asgG, setMany, List.getElem?_cons_zero, List.getElem?_cons_succ, List.set_cons_zero, List.set_cons_succ, R.bind_ok, unbl, unint, lstOf, dicOf, iteT, iteA, iteO, Bool.and_true, Bool.or_false, Bool.and_false, Bool.or_true, Bool.true_and, Bool.false_and, Bool.true_or, Bool.false_or, if_true, Bool.false_eq_true, if_false, Bool.not_true, Bool.not_false] <;> rfl) (by rw [List.length_map]; omega) (Ev.nil (Ev.nil ⟨acc ++ [x], ?_, by simp; omega, ?_⟩))
      · show ([some P, some (.lst (acc.map rD ++ [rD x])), none] : MP.Env) = _
        simp
      · rw [hdrop2, hd]
        conv => lhs; unfold dd
        rw [if_neg hne]
    · have he : acc.getLast? = some x := by simpa using h
      refine Ev.nil (Ev.nil ⟨acc, rfl, by simp; omega, ?_⟩)
      rw [hdrop2, hd]
      conv => lhs; unfold dd
      rw [if_pos he]
  · rintro _ ⟨acc, rfl, _, hd⟩
    rw [List.drop_length] at hd
    refine Ev.ret (d := .lst (acc.map rD)) (by simp only [evalE, evalEs, evalAnd, evalOr, evalO, evalC, evalI, varE, asgG, setMany, List.getElem?_cons_zero, List.getElem?_cons_succ, List.set_cons_zero, List.set_cons_succ, R.bind_ok, unbl, unint, lstOf, dicOf, iteT, iteA, iteO, Bool.and_true, Bool.or_false, Bool.and_false, Bool.or_true, Bool.true_and, Bool.false_and, Bool.true_or, Bool.false_or, if_true, Bool.false_eq_true, if_false, Bool.not_true, Bool.not_false] <;> rfl) ?_
    show Fl.rt _ = Fl.rt (.lst ((dd [] (srtBy rD rs)).map rD))
    rw [hd]
    rfl
end
end LC
/-! Dicts over typed lists; terms and patterns; moved, filled. -/
namespace LC
open PySem MP
variable {V : Nat → D → Prop}

/-! ### what is equal to itself -/
theorem same_eq {d : D} (h : MP.plain d = true) : cmpD .eq d d = .ok true := by rw [cmp_eq, eqD_plain h h, decide_eq_true rfl]
theorem same_ne {d : D} (h : MP.plain d = true) : cmpD .ne d d = .ok false := by rw [cmp_ne, eqD_plain h h, decide_eq_true rfl]; rfl
theorem plain_lst {xs : List D} (h : ∀ x ∈ xs, plainN 29 x = true) : MP.plain (.lst xs) = true := by
  show plainN 30 _ = true
  rw [plainN, List.all_eq_true]; exact h
theorem plainN_lst {n : Nat} {xs : List D} (h : ∀ x ∈ xs, plainN n x = true) : plainN (n + 1) (.lst xs) = true := by
  rw [plainN, List.all_eq_true]; exact h
theorem plainN_tup {n : Nat} {xs : List D} (h : ∀ x ∈ xs, plainN n x = true) : plainN (n + 1) (.tup xs) = true := by
  rw [plainN, List.all_eq_true]; exact h
theorem plainN_two {n : Nat} {x y : D} (h : plainN n x = true) (h2 : plainN n y = true) : plainN (n + 1) (.lst [x, y]) = true :=
  plainN_lst fun z m => by
    rcases List.mem_cons.mp m with rfl | m
    · exact h
    · rw [List.mem_singleton.mp m]; exact h2

/-! ### dicts -/
theorem get_nil (k : D) : getKV [] k = none := rfl
theorem get_cons (a b k : D) (r : List (D × D)) : getKV ((a, b) :: r) k = if a = k then some b else getKV r k := by
  unfold getKV
  rw [List.find?_cons]
  by_cases h : a = k
  · subst h; simp
  · have : (a == k) = false := by simpa using h
    simp only [this, if_neg h]
theorem get_map (k v k' : D) : ∀ kvs : List (D × D), getKV (kvs.map fun p => if p.1 = k then (p.1, v) else p) k' = if k = k' then (if (kvs.any fun p => decide (p.1 = k)) = true then some v else none) else getKV kvs k'
  | [] => by
    by_cases h : k = k'
    · rw [if_pos h]; rfl
    · rw [if_neg h]; rfl
  | (a, b) :: r => by
    have ih := get_map k v k' r
    rw [List.map_cons, List.any_cons]
    by_cases ha : a = k
    · subst ha
      rw [if_pos rfl, get_cons]
      by_cases h : a = k'
      · rw [if_pos h, if_pos h]; simp
      · rw [if_neg h, if_neg h, ih, if_neg h, get_cons, if_neg h]
    · rw [if_neg ha, get_cons, ih, get_cons]
      by_cases h : k = k'
      · subst h
        rw [if_pos rfl, if_neg ha, if_pos rfl, decide_eq_false ha, Bool.false_or]
      · rw [if_neg h, if_neg h]
theorem get_app (k v k' : D) : ∀ kvs : List (D × D), getKV (kvs ++ [(k, v)]) k' = match getKV kvs k' with
    | some w => some w
    | none => if k = k' then some v else none
  | [] => by rw [List.nil_append, get_cons, get_nil]
  | (a, b) :: r => by
    rw [List.cons_append, get_cons, get_cons]
    by_cases h : a = k'
    · rw [if_pos h, if_pos h]
    · rw [if_neg h, if_neg h]; exact get_app k v k' r
theorem get_any (k : D) : ∀ kvs : List (D × D), (kvs.any fun p => decide (p.1 = k)) = (getKV kvs k).isSome
  | [] => rfl
  | (a, b) :: r => by
    rw [List.any_cons, get_cons, get_any k r]
    by_cases h : a = k
    · simp [h]
    · simp [h]
theorem get_put (kvs : List (D × D)) (k v k' : D) : getKV (putKV kvs k v) k' = if k = k' then some v else getKV kvs k' := by
  unfold putKV
  split
  · rename_i h
    rw [get_map, if_pos h]
  · rename_i h
    rw [get_app]
    by_cases e : k = k'
    · subst e
      rw [get_any] at h
      cases hg : getKV kvs k with
      | none => rfl
      | some w => rw [hg] at h; exact absurd rfl h
    · rw [if_neg e, if_neg e]
      cases getKV kvs k' <;> rfl
theorem put_flat {kvs : List (D × D)} {k v : D} (h : (kvs.all fun p => flatKey p.1) = true) (hk : flatKey k = true) : ((putKV kvs k v).all fun p => flatKey p.1) = true := by
  rw [List.all_eq_true] at h ⊢
  intro p hp
  unfold putKV at hp
  split at hp
  · obtain ⟨q, hq, rfl⟩ := List.mem_map.mp hp
    split
    · exact h q hq
    · exact h q hq
  · rcases List.mem_append.mp hp with hp | hp
    · exact h p hp
    · rw [List.mem_singleton.mp hp]; exact hk
theorem put_len (kvs : List (D × D)) (k v : D) : (putKV kvs k v).length ≤ kvs.length + 1 := by
  unfold putKV
  split <;> simp
/-- the last of a key's values -/
def lastK {κ β : Type} [DecidableEq κ] (ps : List (κ × β)) (k : κ) : Option β := ps.foldl (fun acc p => if p.1 = k then some p.2 else acc) none
theorem lastK_app {κ β : Type} [DecidableEq κ] (ps : List (κ × β)) (p : κ × β) (k : κ) : lastK (ps ++ [p]) k = if p.1 = k then some p.2 else lastK ps k := by
  unfold lastK
  rw [List.foldl_append]
  rfl
theorem lastK_mem {κ β : Type} [DecidableEq κ] {ps : List (κ × β)} {k : κ} {b : β} (h : lastK ps k = some b) : (k, b) ∈ ps := by
  suffices ∀ (qs : List (κ × β)) (acc : Option β), qs.foldl (fun acc p => if p.1 = k then some p.2 else acc) acc = some b → acc = some b ∨ (k, b) ∈ qs by
    rcases this ps none h with h | h
    · cases h
    · exact h
  intro qs
  induction qs with
  | nil => exact fun acc h => .inl h
  | cons q qs ih =>
    intro acc h
    rcases ih _ h with h | h
    · have h : (if q.1 = k then some q.2 else acc) = some b := h
      split at h
      · rename_i e
        cases h
        exact .inr (by rw [← e]; exact List.mem_cons_self)
      · exact .inl h
    · exact .inr (List.mem_cons_of_mem _ h)
theorem lastK_some {κ β : Type} [DecidableEq κ] {ps : List (κ × β)} {k : κ} {b : β} (h : (k, b) ∈ ps) : (lastK ps k).isSome = true := by
  suffices ∀ (qs : List (κ × β)) (acc : Option β), (acc.isSome = true ∨ (k, b) ∈ qs) → (qs.foldl (fun acc p => if p.1 = k then some p.2 else acc) acc).isSome = true from this ps none (.inr h)
  intro qs
  induction qs with
  | nil => exact fun acc h => h.elim id fun z => nomatch z
  | cons q qs ih =>
    intro acc h
    refine ih _ ?_
    show (if q.1 = k then some q.2 else acc).isSome = true ∨ _
    split
    · exact .inl rfl
    · rename_i e
      rcases h with h | h
      · exact .inl h
      · rcases List.mem_cons.mp h with rfl | h
        · exact absurd rfl e
        · exact .inr h
section
variable {κ β : Type} [DecidableEq κ] (kD : κ → D) (vD : β → D)
/-- the dict of pairs -/
theorem put_all (hi : ∀ {a b : κ}, kD a = kD b ↔ a = b) (hf : ∀ k, flatKey (kD k) = true) : ∀ (ps qs : List (κ × β)) (acc : List (D × D)), (∀ k, getKV acc (kD k) = (lastK qs k).map vD) → (acc.all fun p => flatKey p.1) = true → acc.length ≤ qs.length →
    ∃ kvs, putAll acc (ps.map fun p => (kD p.1, vD p.2)) = kvs ∧ (∀ k, getKV kvs (kD k) = (lastK (qs ++ ps) k).map vD) ∧ (kvs.all fun p => flatKey p.1) = true ∧ kvs.length ≤ (qs ++ ps).length
  | [], qs, acc, h1, h2, h3 => ⟨acc, rfl, by rw [List.append_nil]; exact h1, h2, by rw [List.append_nil]; exact h3⟩
  | p :: ps, qs, acc, h1, h2, h3 => by
    obtain ⟨kvs, e, g1, g2, g3⟩ := put_all hi hf ps (qs ++ [p]) (putKV acc (kD p.1) (vD p.2)) (fun k => by
      rw [get_put, lastK_app, h1]
      by_cases hk : p.1 = k
      · rw [if_pos hk, if_pos (hi.mpr hk)]; rfl
      · rw [if_neg hk, if_neg fun z => hk (hi.mp z)]) (put_flat h2 (hf _)) (by
        have := put_len acc (kD p.1) (vD p.2)
        rw [List.length_append, List.length_singleton]; omega)
    refine ⟨kvs, e, ?_, g2, ?_⟩
    · rw [List.append_assoc] at g1; exact g1
    · rw [List.append_assoc] at g3; exact g3
theorem pairs_map (f : κ × β → D) (hf : ∀ p, f p = .tup [kD p.1, vD p.2]) (ps : List (κ × β)) : pairsOf (ps.map f) = some (ps.map fun p => (kD p.1, vD p.2)) := by
  induction ps with
  | nil => rfl
  | cons p ps ih =>
    rw [List.map_cons, hf]
    show (pairsOf (ps.map f)).map _ = _
    rw [ih]; rfl
theorem dict_ok (f : κ × β → D) (hff : ∀ p, f p = .tup [kD p.1, vD p.2]) (hi : ∀ {a b : κ}, kD a = kD b ↔ a = b) (hf : ∀ k, flatKey (kD k) = true) (ps : List (κ × β)) :
    ∃ kvs, biD .dict [.lst (ps.map f)] = .ok (.dic kvs) ∧ (∀ k, getKV kvs (kD k) = (lastK ps k).map vD) ∧ (kvs.all fun p => flatKey p.1) = true ∧ kvs.length ≤ ps.length := by
  obtain ⟨kvs, e, g1, g2, g3⟩ := put_all kD vD hi hf ps [] [] (fun k => rfl) rfl (Nat.le_refl _)
  refine ⟨kvs, ?_, g1, g2, g3⟩
  have hall : ((ps.map fun p => (kD p.1, vD p.2)).all fun p => flatKey p.1) = true := by
    rw [List.all_eq_true]
    intro q hq
    obtain ⟨p, _, rfl⟩ := List.mem_map.mp hq
    exact hf _
  simp only [biD, pairs_map kD vD f hff, hall, if_true, e]
end
theorem keyFor_ok {kvs : List (D × D)} {k : D} (h : (kvs.all fun p => flatKey p.1) = true) (hk : flatKey k = true) : keyFor kvs k = true := by unfold keyFor; rw [h, hk]; rfl

/-! ### moves, terms, patterns, fits -/
abbrev Mv := Int × Cell
def mvD (m : Mv) : D := .tup [.int m.1, cD m.2]
inductive Term where | nm (s : Str) | any (l : Str)
  deriving DecidableEq
def tD : Term → D
  | .nm s => .tup [.str "name", .str s]
  | .any l => .tup [.str "any", .str l]
abbrev Pat := Str × List Term
def pD (p : Pat) : D := .tup [.str p.1, .tup (p.2.map tD)]
abbrev Bnd := Str × Cell
def fD (b : Bnd) : D := .tup [.str b.1, cD b.2]
abbrev tyMv (t0 t1 t2 : Ty) : Ty := .tup (.tc t0 (.tc (tyCell t1 t2) .tn))
theorem mvs_of {t0 t1 t2 : Ty} {a b : Nat} {v : D} (h : Has V (.lst (tyMv t0 t1 t2) a b) v) (h0 : (asInt t0).isSome = true) (h1 : (asInt t1).isSome = true) (h2 : (asStr t2).isSome = true) :
    ∃ ms : List Mv, v = .lst (ms.map mvD) ∧ a ≤ ms.length ∧ ms.length ≤ b := by
  cases h with
  | lst p q r =>
    obtain ⟨cs, rfl, _⟩ := asMap (f := mvD) (P := fun _ : Mv => True) fun y m => by
      have := p y m
      cases this with
      | tup h =>
        cases h with
        | cons a b =>
          cases b with
          | cons c d =>
            cases d
            obtain ⟨i, rfl⟩ := someInt h0 a
            obtain ⟨cc, rfl, _⟩ := cell_of c h1 h2
            exact ⟨(i, cc), rfl, trivial⟩
    rw [List.length_map] at q r
    exact ⟨cs, rfl, q, r⟩
abbrev tyBnd (t0 t1 t2 : Ty) : Ty := .tup (.tc t0 (.tc (tyCell t1 t2) .tn))
abbrev tyTerm (t1 t2 : Ty) : Ty := .uni (.tup (.tc (.lit "name") (.tc t1 .tn))) (.tup (.tc (.lit "any") (.tc t2 .tn)))
abbrev tyPat (t0 t1 t2 : Ty) (lo hi : Nat) : Ty := .tup (.tc t0 (.tc (.tups (tyTerm t1 t2) lo hi) .tn))
structure TermIn (V : Nat → D → Prop) (t1 t2 : Ty) (c : Term) : Prop where
  nm : ∀ n, c = .nm n → Has V t1 (.str n)
  any : ∀ s, c = .any s → Has V t2 (.str s)
theorem term_of {t1 t2 : Ty} {v : D} (h : Has V (tyTerm t1 t2) v) (h1 : (asStr t1).isSome = true) (h2 : (asStr t2).isSome = true) : ∃ c : Term, v = tD c ∧ TermIn V t1 t2 c := by
  cases h with
  | ul h =>
    cases h with
    | tup h =>
      cases h with
      | cons a b =>
        cases a
        cases b with
        | cons c d =>
          cases d
          obtain ⟨i, rfl⟩ := someStr h1 c
          exact ⟨.nm i, rfl, ⟨(fun n e => by cases e; exact c), (fun s e => nomatch e)⟩⟩
  | ur h =>
    cases h with
    | tup h =>
      cases h with
      | cons a b =>
        cases a
        cases b with
        | cons c d =>
          cases d
          obtain ⟨i, rfl⟩ := someStr h2 c
          exact ⟨.any i, rfl, ⟨(fun s e => nomatch e), (fun n e => by cases e; exact c)⟩⟩
structure PatIn (V : Nat → D → Prop) (t0 t1 t2 : Ty) (lo hi : Nat) (r : Pat) : Prop where
  tb : Has V t0 (.str r.1)
  lo : lo ≤ r.2.length
  hi : r.2.length ≤ hi
  ts : ∀ c ∈ r.2, TermIn V t1 t2 c
theorem pat_of {t0 t1 t2 : Ty} {lo hi : Nat} {v : D} (h : Has V (tyPat t0 t1 t2 lo hi) v) (h0 : (asStr t0).isSome = true) (h1 : (asStr t1).isSome = true) (h2 : (asStr t2).isSome = true) : ∃ r : Pat, v = pD r ∧ PatIn V t0 t1 t2 lo hi r := by
  cases h with
  | tup h =>
    cases h with
    | cons a b =>
      cases b with
      | cons c d =>
        cases d
        obtain ⟨s, rfl⟩ := someStr h0 a
        cases c with
        | tups p q r =>
          obtain ⟨cs, rfl, hcs⟩ := asMap (f := tD) (P := fun c : Term => TermIn V t1 t2 c) fun y m => term_of (p y m) h1 h2
          rw [List.length_map] at q r
          exact ⟨(s, cs), rfl, a, q, r, hcs⟩
theorem plN_mvD (n : Nat) (m : Mv) : plainN (n + 2) (mvD m) = true := plainN_tup fun x h => by
  rcases List.mem_cons.mp h with rfl | h
  · exact plN_int _ _
  · rw [List.mem_singleton.mp h]; exact plN_cD n _
theorem plN_fD (n : Nat) (m : Bnd) : plainN (n + 2) (fD m) = true := plainN_tup fun x h => by
  rcases List.mem_cons.mp h with rfl | h
  · exact plN_str _ _
  · rw [List.mem_singleton.mp h]; exact plN_cD n _
theorem plN_tD (n : Nat) (t : Term) : plainN (n + 1) (tD t) = true := by
  cases t <;> (unfold tD; rw [plainN]; simp [plN_str])
theorem plN_pD (n : Nat) (p : Pat) : plainN (n + 3) (pD p) = true := plainN_tup fun x h => by
  rcases List.mem_cons.mp h with rfl | h
  · exact plN_str _ _
  · rw [List.mem_singleton.mp h]
    refine plainN_tup fun y h => ?_
    obtain ⟨t, _, rfl⟩ := List.mem_map.mp h
    exact plN_tD n t
theorem plN_map {α : Type} {f : α → D} {n : Nat} (h : ∀ a, plainN n (f a) = true) (as : List α) : plainN (n + 1) (.lst (as.map f)) = true := plainN_lst fun x m => by
  obtain ⟨a, _, rfl⟩ := List.mem_map.mp m
  exact h a
theorem tD_inj {a b : Term} : tD a = tD b ↔ a = b := by
  constructor
  · intro h
    cases a <;> cases b <;> simp [tD] at h <;> first | (rw [h]; done) | (exact absurd h.1 (by decide)) | (exact absurd h (by decide))
  · rintro rfl; rfl
theorem eqD_terms (a b : Term) : eqD (tD a) (tD b) = .ok (decide (a = b)) := by
  rw [eqD_plain (plN_tD 29 a) (plN_tD 29 b)]
  congr 1
  exact decide_eq_decide.mpr tD_inj
theorem termD_0 (c : Term) : idxD (tD c) (.int 0) = .ok (.str (match c with | .nm _ => "name" | .any _ => "any")) := by cases c <;> rfl
theorem termD_1 (c : Term) : idxD (tD c) (.int 1) = .ok (.str (match c with | .nm s => s | .any s => s)) := by cases c <;> rfl
theorem cmpS_qna : cmpD .eq (.str "name") (.str "any") = .ok false := by rw [cmpS_eq, decide_eq_false (by decide)]
theorem cmpS_qan : cmpD .eq (.str "any") (.str "name") = .ok false := by rw [cmpS_eq, decide_eq_false (by decide)]
theorem cmpS_qaa : cmpD .eq (.str "any") (.str "any") = .ok true := by rw [cmpS_eq, decide_eq_true rfl]
theorem cmpS_qba : cmpD .eq (.str "blank") (.str "any") = .ok false := by rw [cmpS_eq, decide_eq_false (by decide)]
theorem cmpS_qab : cmpD .eq (.str "any") (.str "blank") = .ok false := by rw [cmpS_eq, decide_eq_false (by decide)]

/-! ### moved -/
def dMoved : MP.Def := { np := 2, N := ["rows", "moves", "by", "found", "table", "cells", "turned", "cell"], own := [.sh, .sh, .sh, .li, .sh, .sh, .li, .sh], ro := .li, body := (.cons (.asg (.nm 2) (.bi .dict (.cons (.var 1) .nil))) (.cons (.asg (.nm 3) (.lst .nil)) (.cons (.loop (.tp [4, 5]) (.of (.var 0)) [4, 5, 6, 7] (.cons (.asg (.nm 6) (.lst .nil)) (.cons (.loop (.nm 7) (.of (.var 5)) [7] (.cons (.ifs (.cmp .eq (.idx (.var 7) (.int 0)) (.str "blank")) (.cons (.app 6 (.me .get (.var 2) (.cons (.idx (.var 7) (.int 1)) (.cons (.var 7) .nil)))) .nil) (.cons (.app 6 (.var 7)) .nil)) .nil)) (.cons (.app 3 (.tup (.cons (.var 4) (.cons (.bi .tuple (.cons (.var 6) .nil)) .nil)))) .nil)))) (.cons (.frz [3]) (.cons (.ret (.call "stand_of" (.cons (.var 3) .nil))) .nil))))) }
def mvC (mv : List Mv) : Cell → Cell
  | .blank n => (lastK mv n).getD (.blank n)
  | .name s => .name s
def mvR (mv : List Mv) (r : Row) : Row := (r.1, r.2.map (mvC mv))
def mvS (mv : List Mv) (rs : List Row) : List Row := mkS (rs.map (mvR mv))
section
variable {T : Str → Option Def}
theorem moved_ok (hS : T "stand_of" = some dStandOf) (hT : T "moved" = some dMoved) (k : Nat) (rs : List Row) (mv : List Mv) (hl : rs.length ≤ 100000) (h4 : ∀ r ∈ rs, r.2.length ≤ 1000) :
    run T (k + 2) "moved" [.lst (rs.map rD), .lst (mv.map mvD)] = .ok (.lst ((mvS mv rs).map rD)) := by
  refine run_is hT rfl ?_
  obtain ⟨kvs, e1, g1, g2, _⟩ := dict_ok D.int cD mvD (fun _ => rfl) intD_inj (fun _ => rfl) mv
  have sq : seqD (.lst (rs.map rD)) = .ok (rs.map rD) := rfl
  generalize D.lst (rs.map rD) = A at sq
  generalize D.lst (mv.map mvD) = B at e1
  show Ev _ _ [some A, some B, none, none, none, none, none, none] _
  refine Ev.asg (d := .dic kvs) (by simp only [evalE, evalEs, evalAnd, evalOr, evalO, evalC, evalI, varE, asgG, setMany, List.getElem?_cons_zero, List.getElem?_cons_succ, List.set_cons_zero, List.set_cons_succ, R.bind_ok, unbl, unint, lstOf, dicOf, iteT, iteA, iteO, Bool.and_true, Bool.or_false, Bool.and_false, Bool.or_true, Bool.true_and, Bool.false_and, Bool.true_or, Bool.false_or, if_true, Bool.false_eq_true, if_false, Bool.not_true, Bool.not_false, e1] <;> rfl) ?_
  refine Ev.asg (d := .lst []) (by simp only [evalE, evalEs, evalAnd, evalOr, evalO, evalC, evalI, varE, asgG, setMany, List.getElem?_cons_zero, List.getElem?_cons_succ, List.set_cons_zero, List.set_cons_succ, R.bind_ok, unbl, unint, lstOf, dicOf, iteT, iteA, iteO, Bool.and_true, Bool.or_false, Bool.and_false, Bool.or_true, Bool.true_and, Bool.false_and, Bool.true_or, Bool.false_or, if_true, Bool.false_eq_true, if_false, Bool.not_true, Bool.not_false] <;> rfl) ?_
  refine Ev.loopQ rD rs (fun pre e => e = [some A, some B, some (.dic kvs), some (.lst ((pre.map (mvR mv)).map rD)), none, none, none, none]) (by simp only [evalE, evalEs, evalAnd, evalOr, evalO, evalC, evalI, varE, asgG, setMany, List.getElem?_cons_zero, List.getElem?_cons_succ, List.set_cons_zero, List.set_cons_succ, R.bind_ok, unbl, unint, lstOf, dicOf, iteT, iteA, iteO, Bool.and_true, Bool.or_false, Bool.and_false, Bool.or_true, Bool.true_and, Bool.false_and, Bool.true_or, Bool.false_or, if_true, Bool.false_eq_true, if_false, Bool.not_true, Bool.not_false, sq] <;> rfl) rfl ?_ ?_
  · rintro pre r suf _ hs rfl
    have hr : r ∈ rs := by rw [hs]; simp
    have hpl : pre.length < rs.length := by rw [hs]; simp
    refine ⟨[some A, some B, some (.dic kvs), some (.lst ((pre.map (mvR mv)).map rD)), some (.str r.1), some (.tup (r.2.map cD)), none, none], rfl, ?_⟩
    refine Ev.asg (d := .lst []) (by simp only [evalE, evalEs, evalAnd, evalOr, evalO, evalC, evalI, varE, asgG, setMany, List.getElem?_cons_zero, List.getElem?_cons_succ, List.set_cons_zero, List.set_cons_succ, R.bind_ok, unbl, unint, lstOf, dicOf, iteT, iteA, iteO, Bool.and_true, Bool.or_false, Bool.and_false, Bool.or_true, Bool.true_and, Bool.false_and, Bool.true_or, Bool.false_or, if_true, Bool.false_eq_true, if_false, Bool.not_true, Bool.not_false] <;> rfl) ?_
    refine Ev.loopQ cD r.2 (fun p2 e => e = [some A, some B, some (.dic kvs), some (.lst ((pre.map (mvR mv)).map rD)), some (.str r.1), some (.tup (r.2.map cD)), some (.lst ((p2.map (mvC mv)).map cD)), none]) (by simp only [evalE, evalEs, evalAnd, evalOr, evalO, evalC, evalI, varE, asgG, setMany, List.getElem?_cons_zero, List.getElem?_cons_succ, List.set_cons_zero, List.set_cons_succ, R.bind_ok, unbl, unint, lstOf, dicOf, iteT, iteA, iteO, Bool.and_true, Bool.or_false, Bool.and_false, Bool.or_true, Bool.true_and, Bool.false_and, Bool.true_or, Bool.false_or, if_true, Bool.false_eq_true, if_false, Bool.not_true, Bool.not_false, seqD] <;> rfl) rfl ?_ ?_
    · rintro p2 c s2 _ hs2 rfl
      have h2l : p2.length < r.2.length := by rw [hs2]; simp
      have := h4 r hr
      refine ⟨[some A, some B, some (.dic kvs), some (.lst ((pre.map (mvR mv)).map rD)), some (.str r.1), some (.tup (r.2.map cD)), some (.lst ((p2.map (mvC mv)).map cD)), some (cD c)], rfl, ?_⟩
      have lm : ((p2.map (mvC mv)).map cD).length < lim := by rw [List.length_map, List.length_map]; show _ < 16777216; omega
      have fin : ∀ x, ([some A, some B, some (.dic kvs), some (.lst ((pre.map (mvR mv)).map rD)), some (.str r.1), some (.tup (r.2.map cD)), some (.lst ((p2.map (mvC mv)).map cD ++ [cD x])), none] : MP.Env) = [some A, some B, some (.dic kvs), some (.lst ((pre.map (mvR mv)).map rD)), some (.str r.1), some (.tup (r.2.map cD)), some (.lst ((p2.map (mvC mv) ++ [x]).map cD)), none] := fun x => by rw [List.map_append (f := cD)]; rfl
      cases c with
      | blank n =>
        refine Ev.tt (by simp only [evalE, evalEs, evalAnd, evalOr, evalO, evalC, evalI, varE, asgG, setMany, List.getElem?_cons_zero, List.getElem?_cons_succ, List.set_cons_zero, List.set_cons_succ, R.bind_ok, unbl, unint, lstOf, dicOf, iteT, iteA, iteO, Bool.and_true, Bool.or_false, Bool.and_false, Bool.or_true, Bool.true_and, Bool.false_and, Bool.true_or, Bool.false_or, if_true, Bool.false_eq_true, if_false, Bool.not_true, Bool.not_false, cellD_0, cmpS_qbb] <;> rfl) ?_
        have gt : meD .get (.dic kvs) [.int n, cD (.blank n)] = .ok (cD (mvC mv (.blank n))) := by
          show (if keyFor kvs (.int n) then R.ok ((getKV kvs (.int n)).getD (cD (.blank n))) else .bad) = _
          rw [keyFor_ok g2 rfl, if_pos rfl, g1]
          show R.ok (((lastK mv n).map cD).getD _) = R.ok (cD ((lastK mv n).getD _))
          cases lastK mv n <;> rfl
        refine Ev.app (v := cD (mvC mv (.blank n))) rfl (by simp only [evalE, evalEs, evalAnd, evalOr, evalO, evalC, evalI, varE, asgG, setMany, List.getElem?_cons_zero, List.getElem?_cons_succ, List.set_cons_zero, List.set_cons_succ, R.bind_ok, unbl, unint, lstOf, dicOf, iteT, iteA, iteO, Bool.and_true, Bool.or_false, Bool.and_false, Bool.or_true, Bool.true_and, Bool.false_and, Bool.true_or, Bool.false_or, if_true, Bool.false_eq_true, if_false, Bool.not_true, Bool.not_false, cellD_1, gt] <;> rfl) lm (Ev.nil (Ev.nil ?_))
        show (_ : MP.Env) = _
        rw [List.map_append]
        exact fin _
      | name s =>
        refine Ev.ff (by simp only [evalE, evalEs, evalAnd, evalOr, evalO, evalC, evalI, varE, asgG, setMany, List.getElem?_cons_zero, List.getElem?_cons_succ, List.set_cons_zero, List.set_cons_succ, R.bind_ok, unbl, unint, lstOf, dicOf, iteT, iteA, iteO, Bool.and_true, Bool.or_false, Bool.and_false, Bool.or_true, Bool.true_and, Bool.false_and, Bool.true_or, Bool.false_or, if_true, Bool.false_eq_true, if_false, Bool.not_true, Bool.not_false, cellD_0, cmpS_qnb] <;> rfl) ?_
        refine Ev.app (v := cD (.name s)) rfl (by simp only [evalE, evalEs, evalAnd, evalOr, evalO, evalC, evalI, varE, asgG, setMany, List.getElem?_cons_zero, List.getElem?_cons_succ, List.set_cons_zero, List.set_cons_succ, R.bind_ok, unbl, unint, lstOf, dicOf, iteT, iteA, iteO, Bool.and_true, Bool.or_false, Bool.and_false, Bool.or_true, Bool.true_and, Bool.false_and, Bool.true_or, Bool.false_or, if_true, Bool.false_eq_true, if_false, Bool.not_true, Bool.not_false] <;> rfl) lm (Ev.nil (Ev.nil ?_))
        show (_ : MP.Env) = _
        rw [List.map_append]
        exact fin _
    · rintro _ rfl
      have tp : ∀ xs, biD .tuple [.lst xs] = .ok (.tup xs) := fun _ => rfl
      refine Ev.app (v := rD (mvR mv r)) rfl (by simp only [evalE, evalEs, evalAnd, evalOr, evalO, evalC, evalI, varE, asgG, setMany, List.getElem?_cons_zero, List.getElem?_cons_succ, List.set_cons_zero, List.set_cons_succ, R.bind_ok, unbl, unint, lstOf, dicOf, iteT, iteA, iteO, Bool.and_true, Bool.or_false, Bool.and_false, Bool.or_true, Bool.true_and, Bool.false_and, Bool.true_or, Bool.false_or, if_true, Bool.false_eq_true, if_false, Bool.not_true, Bool.not_false, tp] <;> rfl) (by rw [List.length_map, List.length_map]; show _ < 16777216; omega) (Ev.nil ?_)
      show (_ : MP.Env) = _
      rw [List.map_append, List.map_append]
      rfl
  · rintro _ rfl
    refine Ev.step (r1 := [some A, some B, some (.dic kvs), some (.lst ((rs.map (mvR mv)).map rD)), none, none, none, none]) (by rw [evalS]) ?_
    have so := standOf_ok hS k (rs.map (mvR mv)) (by rw [List.length_map]; show _ < 16777216; omega)
    exact Ev.ret (d := .lst ((mvS mv rs).map rD)) (by simp only [evalE, evalEs, evalAnd, evalOr, evalO, evalC, evalI, varE, asgG, setMany, List.getElem?_cons_zero, List.getElem?_cons_succ, List.set_cons_zero, List.set_cons_succ, R.bind_ok, unbl, unint, lstOf, dicOf, iteT, iteA, iteO, Bool.and_true, Bool.or_false, Bool.and_false, Bool.or_true, Bool.true_and, Bool.false_and, Bool.true_or, Bool.false_or, if_true, Bool.false_eq_true, if_false, Bool.not_true, Bool.not_false, so] <;> rfl) rfl
end
end LC
/-! filled; what laws reckon beside the program: stands, rows moved, patterns filled. -/
namespace LC
open PySem MP

/-- sorted unlike numbers rise -/
theorem rising {ks : List Int} (hn : ks.Nodup) : ∃ fs : List Int, sortL (ks.map .int) = fs.map .int ∧ (∀ n, n ∈ fs ↔ n ∈ ks) ∧ fs.length = ks.length ∧ fs.Pairwise (· < ·) := by
  obtain ⟨fs, hf, _⟩ := asMap (f := D.int) (P := fun _ : Int => True) (ys := sortL (ks.map .int)) fun y hy => by
    obtain ⟨n, _, rfl⟩ := List.mem_map.mp (sortL_mem.mp hy)
    exact ⟨n, rfl, trivial⟩
  have inj : ∀ {a b : Int}, D.int a = D.int b ↔ a = b := fun {a b} => ⟨fun h => by injection h, fun h => by rw [h]⟩
  have pm : (fs.map D.int).Perm (ks.map .int) := by rw [← hf]; exact sortL_perm _
  have hm : ∀ n, n ∈ fs ↔ n ∈ ks := fun n => by
    have := pm.mem_iff (a := D.int n)
    simp only [List.mem_map] at this
    constructor
    · intro h
      obtain ⟨m, h1, h2⟩ := this.mp ⟨n, h, rfl⟩
      rw [← inj.mp h2]; exact h1
    · intro h
      obtain ⟨m, h1, h2⟩ := this.mpr ⟨n, h, rfl⟩
      rw [← inj.mp h2]; exact h1
  have hl : fs.length = ks.length := by
    have := pm.length_eq
    rwa [List.length_map, List.length_map] at this
  have nd : (fs.map D.int).Nodup := pm.nodup_iff.mpr (by
    rw [List.nodup_iff_pairwise_ne, List.pairwise_map]
    rw [List.nodup_iff_pairwise_ne] at hn
    exact hn.imp fun h e => h (inj.mp e))
  have sd := sortL_srtd (ord_plain 30) (ds := ks.map D.int) (fun x hx => by
    obtain ⟨n, _, rfl⟩ := List.mem_map.mp hx
    rfl)
  rw [hf] at sd
  refine ⟨fs, hf, hm, hl, ?_⟩
  rw [List.nodup_iff_pairwise_ne, List.pairwise_map] at nd
  rw [List.pairwise_map] at sd
  refine (nd.and sd).imp fun {a b} h => ?_
  obtain ⟨h1, h2⟩ := h
  have h2 : decide (b < a) = false := h2
  have h3 : ¬ b < a := of_decide_eq_false h2
  have h4 : a ≠ b := fun e => h1 (by rw [e])
  omega
/-- the numbers of the blanks -/
def IsBlanks (rs : List Row) (fs : List Int) : Prop := fs.Pairwise (· < ·) ∧ ∀ n, n ∈ fs ↔ ∃ r ∈ rs, Cell.blank n ∈ r.2
theorem blanksR_ok {T : Str → Option Def} (hT : T "blanks_of" = some dBlanks) (k : Nat) (rs : List Row) (hl : rs.length ≤ 100000) (h4 : ∀ r ∈ rs, r.2.length ≤ 10) :
    ∃ fs : List Int, IsBlanks rs fs ∧ fs.length ≤ 10 * rs.length ∧ run T (k + 1) "blanks_of" [.lst (rs.map rD)] = .ok (.lst (fs.map .int)) := by
  obtain ⟨ks, h1, h2, h3, h5⟩ := blanks_ok hT k rs hl h4
  obtain ⟨fs, g1, g2, g3, g4⟩ := rising h1
  rw [g1] at h5
  exact ⟨fs, ⟨g4, fun n => by rw [g2, h2]⟩, by omega, h5⟩
theorem in_ints (n : Int) (ns : List Int) : inD (.int n) (.lst (ns.map .int)) = .ok (decide (n ∈ ns)) := by
  have hall : (ns.map D.int).all MP.plain = true := by
    rw [List.all_eq_true]
    intro d hd
    obtain ⟨t, _, rfl⟩ := List.mem_map.mp hd
    rfl
  rw [in_plain rfl hall (fun _ => .inr trivial), any_map intD_inj]
/-! ### moves behind moves -/
theorem lastK_map {κ β γ : Type} [DecidableEq κ] (g : β → γ) (ps : List (κ × β)) (k : κ) : lastK (ps.map fun p => (p.1, g p.2)) k = (lastK ps k).map g := by
  unfold lastK
  suffices ∀ (o : Option β), (ps.map fun p => (p.1, g p.2)).foldl (fun acc p => if p.1 = k then some p.2 else acc) (o.map g) = (ps.foldl (fun acc p => if p.1 = k then some p.2 else acc) o).map g from this none
  induction ps with
  | nil => exact fun o => rfl
  | cons p ps ih =>
    intro o
    rw [List.map_cons, List.foldl_cons, List.foldl_cons]
    by_cases h : p.1 = k
    · rw [if_pos h, if_pos h]; exact ih (some p.2)
    · rw [if_neg h, if_neg h]; exact ih o
theorem mkS_map_mkS (f : Row → Row) (rs : List Row) : mkS ((mkS rs).map f) = mkS (rs.map f) :=
  stD_uniq rD_inj plN_mem (stD_strict rD_inj plN_mem) fun r => by
    rw [stD_mem, List.mem_map, List.mem_map]
    constructor
    · rintro ⟨a, h1, h2⟩; exact ⟨a, stD_mem.mpr h1, h2⟩
    · rintro ⟨a, h1, h2⟩; exact ⟨a, stD_mem.mp h1, h2⟩
theorem mkS_self {rs : List Row} (h : Strict rD rs) : mkS rs = rs := stD_uniq rD_inj plN_mem h fun _ => Iff.rfl
theorem mvS_strict (mv : List Mv) (rs : List Row) : Strict rD (mvS mv rs) := stD_strict rD_inj plN_mem
theorem mkS_strict (rs : List Row) : Strict rD (mkS rs) := stD_strict rD_inj plN_mem
theorem mkS_len (rs : List Row) : (mkS rs).length ≤ rs.length := stD_len rD_inj plN_mem
theorem mvS_len (mv : List Mv) (rs : List Row) : (mvS mv rs).length ≤ rs.length := Nat.le_trans (mkS_len _) (by rw [List.length_map]; exact Nat.le_refl _)
theorem mvS_mem {mv : List Mv} {rs : List Row} {r : Row} : r ∈ mvS mv rs ↔ ∃ a ∈ rs, mvR mv a = r := by
  unfold mvS
  rw [stD_mem, List.mem_map]
theorem mvS_wide {mv : List Mv} {rs : List Row} {n : Nat} (h : ∀ r ∈ rs, r.2.length ≤ n) : ∀ r ∈ mvS mv rs, r.2.length ≤ n := fun r m => by
  obtain ⟨a, ha, rfl⟩ := mvS_mem.mp m
  show (a.2.map _).length ≤ n
  rw [List.length_map]
  exact h a ha
theorem mvS_mvS {mv mv2 mv3 : List Mv} {rs : List Row} (h : ∀ r ∈ rs, ∀ c ∈ r.2, mvC mv2 (mvC mv c) = mvC mv3 c) : mvS mv2 (mvS mv rs) = mvS mv3 rs := by
  unfold mvS
  rw [mkS_map_mkS, List.map_map]
  congr 1
  refine List.map_congr_left fun r hr => ?_
  show (r.1, (r.2.map (mvC mv)).map (mvC mv2)) = (r.1, r.2.map (mvC mv3))
  rw [List.map_map]
  congr 1
  exact List.map_congr_left fun c hc => h r hr c hc
theorem mvS_id {mv : List Mv} {rs : List Row} (hs : Strict rD rs) (h : ∀ r ∈ rs, ∀ c ∈ r.2, mvC mv c = c) : mvS mv rs = rs := by
  unfold mvS
  have e : rs.map (mvR mv) = rs := by
    refine (List.map_congr_left fun r hr => ?_).trans (List.map_id rs)
    have : r.2.map (mvC mv) = r.2 := (List.map_congr_left fun c hc => h r hr c hc).trans (List.map_id r.2)
    show (r.1, r.2.map (mvC mv)) = r
    rw [this]
  rw [e]
  exact mkS_self hs
theorem mvC_nil (c : Cell) : mvC [] c = c := by cases c <;> rfl
theorem mvC_one (n : Int) (t c : Cell) : mvC [(n, t)] c = if c = .blank n then t else c := by
  cases c with
  | name s => rw [if_neg (fun z => nomatch z)]; rfl
  | blank m =>
    show ((if n = m then some t else none).getD (.blank m)) = _
    by_cases h : n = m
    · subst h; rw [if_pos rfl, if_pos rfl]; rfl
    · rw [if_neg h, if_neg (fun z => h (by injection z with z; exact z.symm))]; rfl
/-! ### filled -/
def dFilled : MP.Def := { np := 2, N := ["patterns", "fit", "by", "found", "table", "terms", "cells", "term"], own := [.sh, .sh, .sh, .li, .sh, .sh, .li, .sh], ro := .li, body := (.cons (.asg (.nm 2) (.bi .dict (.cons (.var 1) .nil))) (.cons (.asg (.nm 3) (.lst .nil)) (.cons (.loop (.tp [4, 5]) (.of (.var 0)) [4, 5, 6, 7] (.cons (.asg (.nm 6) (.lst .nil)) (.cons (.loop (.nm 7) (.of (.var 5)) [7] (.cons (.ifs (.cmp .eq (.idx (.var 7) (.int 0)) (.str "any")) (.cons (.app 6 (.idx (.var 2) (.idx (.var 7) (.int 1)))) .nil) (.cons (.app 6 (.var 7)) .nil)) .nil)) (.cons (.app 3 (.tup (.cons (.var 4) (.cons (.bi .tuple (.cons (.var 6) .nil)) .nil)))) .nil)))) (.cons (.ret (.var 3)) .nil)))) }
def flT (fit : List Bnd) : Term → Cell
  | .nm s => .name s
  | .any l => (lastK fit l).getD (.blank 0)
def flP (fit : List Bnd) (p : Pat) : Row := (p.1, p.2.map (flT fit))
/-- each unknown has a cell -/
def FitFor (fit : List Bnd) (ps : List Pat) : Prop := ∀ p ∈ ps, ∀ l, Term.any l ∈ p.2 → (lastK fit l).isSome = true
section
variable {T : Str → Option Def}
theorem filled_ok (hT : T "filled" = some dFilled) (k : Nat) (ps : List Pat) (fit : List Bnd) (hl : ps.length ≤ 100000) (h4 : ∀ p ∈ ps, p.2.length ≤ 1000) (hf : FitFor fit ps) :
    run T (k + 1) "filled" [.lst (ps.map pD), .lst (fit.map fD)] = .ok (.lst ((ps.map (flP fit)).map rD)) := by
  refine run_is hT rfl ?_
  obtain ⟨kvs, e1, g1, g2, _⟩ := dict_ok D.str cD fD (fun _ => rfl) strD_inj (fun _ => rfl) fit
  have sq : seqD (.lst (ps.map pD)) = .ok (ps.map pD) := rfl
  generalize D.lst (ps.map pD) = A at sq
  generalize D.lst (fit.map fD) = B at e1
  show Ev _ _ [some A, some B, none, none, none, none, none, none] _
  refine Ev.asg (d := .dic kvs) (by simp only [evalE, evalEs, evalAnd, evalOr, evalO, evalC, evalI, varE, asgG, setMany, List.getElem?_cons_zero, List.getElem?_cons_succ, List.set_cons_zero, List.set_cons_succ, R.bind_ok, unbl, unint, lstOf, dicOf, iteT, iteA, iteO, Bool.and_true, Bool.or_false, Bool.and_false, Bool.or_true, Bool.true_and, Bool.false_and, Bool.true_or, Bool.false_or, if_true, Bool.false_eq_true, if_false, Bool.not_true, Bool.not_false, e1] <;> rfl) ?_
  refine Ev.asg (d := .lst []) (by simp only [evalE, evalEs, evalAnd, evalOr, evalO, evalC, evalI, varE, asgG, setMany, List.getElem?_cons_zero, List.getElem?_cons_succ, List.set_cons_zero, List.set_cons_succ, R.bind_ok, unbl, unint, lstOf, dicOf, iteT, iteA, iteO, Bool.and_true, Bool.or_false, Bool.and_false, Bool.or_true, Bool.true_and, Bool.false_and, Bool.true_or, Bool.false_or, if_true, Bool.false_eq_true, if_false, Bool.not_true, Bool.not_false] <;> rfl) ?_
  refine Ev.loopS pD ps (fun pre => [some A, some B, some (.dic kvs), some (.lst ((pre.map (flP fit)).map rD)), none, none, none, none]) (by simp only [evalE, evalEs, evalAnd, evalOr, evalO, evalC, evalI, varE, asgG, setMany, List.getElem?_cons_zero, List.getElem?_cons_succ, List.set_cons_zero, List.set_cons_succ, R.bind_ok, unbl, unint, lstOf, dicOf, iteT, iteA, iteO, Bool.and_true, Bool.or_false, Bool.and_false, Bool.or_true, Bool.true_and, Bool.false_and, Bool.true_or, Bool.false_or, if_true, Bool.false_eq_true, if_false, Bool.not_true, Bool.not_false, sq] <;> rfl) rfl ?_ ?_
  · rintro pre p suf hs
    have hp : p ∈ ps := by rw [hs]; simp
    have hpl : pre.length < ps.length := by rw [hs]; simp
    refine ⟨[some A, some B, some (.dic kvs), some (.lst ((pre.map (flP fit)).map rD)), some (.str p.1), some (.tup (p.2.map tD)), none, none], rfl, ?_⟩
    refine Ev.asg (d := .lst []) (by simp only [evalE, evalEs, evalAnd, evalOr, evalO, evalC, evalI, varE, asgG, setMany, List.getElem?_cons_zero, List.getElem?_cons_succ, List.set_cons_zero, List.set_cons_succ, R.bind_ok, unbl, unint, lstOf, dicOf, iteT, iteA, iteO, Bool.and_true, Bool.or_false, Bool.and_false, Bool.or_true, Bool.true_and, Bool.false_and, Bool.true_or, Bool.false_or, if_true, Bool.false_eq_true, if_false, Bool.not_true, Bool.not_false] <;> rfl) ?_
    refine Ev.loopS tD p.2 (fun p2 => [some A, some B, some (.dic kvs), some (.lst ((pre.map (flP fit)).map rD)), some (.str p.1), some (.tup (p.2.map tD)), some (.lst ((p2.map (flT fit)).map cD)), none]) (by simp only [evalE, evalEs, evalAnd, evalOr, evalO, evalC, evalI, varE, asgG, setMany, List.getElem?_cons_zero, List.getElem?_cons_succ, List.set_cons_zero, List.set_cons_succ, R.bind_ok, unbl, unint, lstOf, dicOf, iteT, iteA, iteO, Bool.and_true, Bool.or_false, Bool.and_false, Bool.or_true, Bool.true_and, Bool.false_and, Bool.true_or, Bool.false_or, if_true, Bool.false_eq_true, if_false, Bool.not_true, Bool.not_false, seqD] <;> rfl) rfl ?_ ?_
    · rintro p2 c s2 hs2
      have h2l : p2.length < p.2.length := by rw [hs2]; simp
      have hc : c ∈ p.2 := by rw [hs2]; simp
      have := h4 p hp
      refine ⟨[some A, some B, some (.dic kvs), some (.lst ((pre.map (flP fit)).map rD)), some (.str p.1), some (.tup (p.2.map tD)), some (.lst ((p2.map (flT fit)).map cD)), some (tD c)], rfl, ?_⟩
      have lm : ((p2.map (flT fit)).map cD).length < lim := by rw [List.length_map, List.length_map]; show _ < 16777216; omega
      have fin : ∀ x, ([some A, some B, some (.dic kvs), some (.lst ((pre.map (flP fit)).map rD)), some (.str p.1), some (.tup (p.2.map tD)), some (.lst ((p2.map (flT fit)).map cD ++ [cD (flT fit x)])), none] : MP.Env) = [some A, some B, some (.dic kvs), some (.lst ((pre.map (flP fit)).map rD)), some (.str p.1), some (.tup (p.2.map tD)), some (.lst (((p2 ++ [x]).map (flT fit)).map cD)), none] := fun x => by rw [List.map_append, List.map_append (f := cD)]; rfl
      cases c with
      | any l =>
        refine Ev.tt (by simp only [evalE, evalEs, evalAnd, evalOr, evalO, evalC, evalI, varE, asgG, setMany, List.getElem?_cons_zero, List.getElem?_cons_succ, List.set_cons_zero, List.set_cons_succ, R.bind_ok, unbl, unint, lstOf, dicOf, iteT, iteA, iteO, Bool.and_true, Bool.or_false, Bool.and_false, Bool.or_true, Bool.true_and, Bool.false_and, Bool.true_or, Bool.false_or, if_true, Bool.false_eq_true, if_false, Bool.not_true, Bool.not_false, termD_0, cmpS_qaa] <;> rfl) ?_
        have gt : idxD (.dic kvs) (.str l) = .ok (cD (flT fit (.any l))) := by
          show (if keyFor kvs (.str l) then R.of (getKV kvs (.str l)) else .bad) = _
          rw [keyFor_ok g2 rfl, if_pos rfl, g1]
          have := hf p hp l hc
          show _ = R.ok (cD ((lastK fit l).getD _))
          cases h : lastK fit l with
          | none => rw [h] at this; cases this
          | some c => rfl
        exact Ev.app (v := cD (flT fit (.any l))) rfl (by simp only [evalE, evalEs, evalAnd, evalOr, evalO, evalC, evalI, varE, asgG, setMany, List.getElem?_cons_zero, List.getElem?_cons_succ, List.set_cons_zero, List.set_cons_succ, R.bind_ok, unbl, unint, lstOf, dicOf, iteT, iteA, iteO, Bool.and_true, Bool.or_false, Bool.and_false, Bool.or_true, Bool.true_and, Bool.false_and, Bool.true_or, Bool.false_or, if_true, Bool.false_eq_true, if_false, Bool.not_true, Bool.not_false, termD_1, gt] <;> rfl) lm (Ev.nil (Ev.nil (fin _)))
      | nm s =>
        refine Ev.ff (by simp only [evalE, evalEs, evalAnd, evalOr, evalO, evalC, evalI, varE, asgG, setMany, List.getElem?_cons_zero, List.getElem?_cons_succ, List.set_cons_zero, List.set_cons_succ, R.bind_ok, unbl, unint, lstOf, dicOf, iteT, iteA, iteO, Bool.and_true, Bool.or_false, Bool.and_false, Bool.or_true, Bool.true_and, Bool.false_and, Bool.true_or, Bool.false_or, if_true, Bool.false_eq_true, if_false, Bool.not_true, Bool.not_false, termD_0, cmpS_qna] <;> rfl) ?_
        exact Ev.app (v := cD (flT fit (.nm s))) rfl (by simp only [evalE, evalEs, evalAnd, evalOr, evalO, evalC, evalI, varE, asgG, setMany, List.getElem?_cons_zero, List.getElem?_cons_succ, List.set_cons_zero, List.set_cons_succ, R.bind_ok, unbl, unint, lstOf, dicOf, iteT, iteA, iteO, Bool.and_true, Bool.or_false, Bool.and_false, Bool.or_true, Bool.true_and, Bool.false_and, Bool.true_or, Bool.false_or, if_true, Bool.false_eq_true, if_false, Bool.not_true, Bool.not_false] <;> rfl) lm (Ev.nil (Ev.nil (fin _)))
    · have tp : ∀ xs, biD .tuple [.lst xs] = .ok (.tup xs) := fun _ => rfl
      refine Ev.app (v := rD (flP fit p)) rfl (by simp only [evalE, evalEs, evalAnd, evalOr, evalO, evalC, evalI, varE, asgG, setMany, List.getElem?_cons_zero, List.getElem?_cons_succ, List.set_cons_zero, List.set_cons_succ, R.bind_ok, unbl, unint, lstOf, dicOf, iteT, iteA, iteO, Bool.and_true, Bool.or_false, Bool.and_false, Bool.or_true, Bool.true_and, Bool.false_and, Bool.true_or, Bool.false_or, if_true, Bool.false_eq_true, if_false, Bool.not_true, Bool.not_false, tp] <;> rfl) (by rw [List.length_map, List.length_map]; show _ < 16777216; omega) (Ev.nil ?_)
      show (_ : MP.Env) = _
      rw [List.map_append, List.map_append]
      rfl
  · exact Ev.ret (d := .lst ((ps.map (flP fit)).map rD)) (by simp only [evalE, evalEs, evalAnd, evalOr, evalO, evalC, evalI, varE, asgG, setMany, List.getElem?_cons_zero, List.getElem?_cons_succ, List.set_cons_zero, List.set_cons_succ, R.bind_ok, unbl, unint, lstOf, dicOf, iteT, iteA, iteO, Bool.and_true, Bool.or_false, Bool.and_false, Bool.or_true, Bool.true_and, Bool.false_and, Bool.true_or, Bool.false_or, if_true, Bool.false_eq_true, if_false, Bool.not_true, Bool.not_false] <;> rfl) rfl

/-! ### a stand, as laws make it -/
theorem standL_ok (hT : T "_law_stand" = some dStand) (k : Nat) (rs : List Row) (hl : rs.length < lim) : run T (k + 1) "_law_stand" [.lst (rs.map rD)] = .ok (.lst ((mkS rs).map rD)) := by
  refine run_is hT rfl ?_
  have so : biD .sorted [.lst (rs.map rD)] = .ok (.lst ((srtBy rD rs).map rD)) := by
    show sortD _ = _
    unfold sortD
    rw [if_pos (sort_rows rs), srtBy_map]
  generalize D.lst (rs.map rD) = P at so
  show Ev _ _ [some P, none, none] _
  refine Ev.asg (d := .lst []) (by simp only [evalE, evalEs, evalAnd, evalOr, evalO, evalC, evalI, varE, asgG, setMany, List.getElem?_cons_zero, List.getElem?_cons_succ, List.set_cons_zero, List.set_cons_succ, R.bind_ok, unbl, unint, lstOf, dicOf, iteT, iteA, iteO, Bool.and_true, Bool.or_false, Bool.and_false, Bool.or_true, Bool.true_and, Bool.false_and, Bool.true_or, Bool.false_or, if_true, Bool.false_eq_true, if_false, Bool.not_true, Bool.not_false] <;> rfl) ?_
  have hw : Weak rD (srtBy rD rs) := srtBy_weak plN_mem
  refine Ev.loopQ rD (srtBy rD rs) (fun pre e => ∃ acc : List Row, e = [some P, some (.lst (acc.map rD)), none] ∧ acc.length ≤ pre.length ∧ Strict rD acc ∧ ∀ r, r ∈ acc ↔ r ∈ pre) (by simp only [evalE, evalEs, evalAnd, evalOr, evalO, evalC, evalI, varE, asgG, setMany, List.getElem?_cons_zero, List.getElem?_cons_succ, List.set_cons_zero, List.set_cons_succ, R.bind_ok, unbl, unint, lstOf, dicOf, iteT, iteA, iteO, Bool.and_true, Bool.or_false, Bool.and_false, Bool.or_true, Bool.true_and, Bool.false_and, Bool.true_or, Bool.false_or, if_true, Bool.false_eq_true, if_false, Bool.not_true, Bool.not_false, so, seqD] <;> rfl) ⟨[], rfl, Nat.le_refl _, List.Pairwise.nil, fun r => Iff.rfl⟩ ?_ ?_
  · rintro pre x suf _ hs ⟨acc, rfl, hl2, hst, hm⟩
    refine ⟨[some P, some (.lst (acc.map rD)), some (rD x)], rfl, ?_⟩
    have hlen : pre.length < rs.length := by
      have := srtBy_len rD rs
      rw [hs] at this; simp at this; omega
    have hc : evalE (run T k) (.cmp .notin (.var 2) (.var 1)) [some P, some (.lst (acc.map rD)), some (rD x)] = .ok (.bl (!decide (x ∈ acc))) := (by simp only [evalE, evalEs, evalAnd, evalOr, evalO, evalC, evalI, varE, asgG, setMany, List.getElem?_cons_zero, List.getElem?_cons_succ, List.set_cons_zero, List.set_cons_succ, R.bind_ok, unbl, unint, lstOf, dicOf, iteT, iteA, iteO, Bool.and_true, Bool.or_false, Bool.and_false, Bool.or_true, Bool.true_and, Bool.false_and, Bool.true_or, Bool.false_or, if_true, Bool.false_eq_true, if_false, Bool.not_true, Bool.not_false, cmp_notin, in_rows] <;> rfl)
    refine Ev.ite hc (fun h => ?_) (fun h => ?_)
    · have hne : x ∉ acc := by simpa using h
      refine Ev.app (v := rD x) (xs := acc.map rD) rfl (by simp only [evalE, evalEs, evalAnd, evalOr, evalO, evalC, evalI, varE, asgG, setMany, List.getElem?_cons_zero, List.getElem?_cons_succ, List.set_cons_zero, List.set_cons_succ, R.bind_ok, unbl, unint, lstOf, dicOf, iteT, iteA, iteO, Bool.and_true, Bool.or_false, Bool.and_false, Bool.or_true, Bool.true_and, Bool.false_and, Bool.true_or, Bool.false_or, if_true, Bool.false_eq_true, if_false, Bool.not_true, Bool.not_false] <;> rfl) (by rw [List.length_map]; omega) (Ev.nil (Ev.nil ⟨acc ++ [x], ?_, by simp; omega, ?_, fun r => by rw [List.mem_append, List.mem_append, hm]⟩))
      · show ([some P, some (.lst (acc.map rD ++ [rD x])), none] : MP.Env) = _
        simp
      · unfold Strict
        rw [List.pairwise_append]
        refine ⟨hst, by simp, fun a ha b hb => ?_⟩
        rw [List.mem_singleton.mp hb]
        have O := ord_plain 30
        have hle : dlt (rD x) (rD a) = false := by
          rw [hs] at hw
          exact (List.pairwise_append.mp hw).2.2 a ((hm a).mp ha) x List.mem_cons_self
        have hne2 : rD a ≠ rD x := fun e => hne (by rw [← rD_inj.mp e]; exact ha)
        rcases O.tri _ _ (plN_rD 27 a) (plN_rD 27 x) hne2 with q | q
        · exact q
        · rw [hle] at q; cases q
    · have hin : x ∈ acc := by simpa using h
      refine Ev.nil (Ev.nil ⟨acc, rfl, by simp; omega, hst, fun r => ?_⟩)
      rw [List.mem_append, List.mem_singleton, hm]
      constructor
      · exact .inl
      · rintro (h | rfl)
        · exact h
        · exact (hm r).mp hin
  · rintro _ ⟨acc, rfl, _, hst, hm⟩
    refine Ev.ret (d := .lst (acc.map rD)) (by simp only [evalE, evalEs, evalAnd, evalOr, evalO, evalC, evalI, varE, asgG, setMany, List.getElem?_cons_zero, List.getElem?_cons_succ, List.set_cons_zero, List.set_cons_succ, R.bind_ok, unbl, unint, lstOf, dicOf, iteT, iteA, iteO, Bool.and_true, Bool.or_false, Bool.and_false, Bool.or_true, Bool.true_and, Bool.false_and, Bool.true_or, Bool.false_or, if_true, Bool.false_eq_true, if_false, Bool.not_true, Bool.not_false] <;> rfl) ?_
    show Fl.rt _ = Fl.rt _
    have e : mkS rs = acc := stD_uniq rD_inj plN_mem hst fun r => by rw [hm, srtBy_mem]
    rw [e]

/-! ### rows moved, as laws do it -/
def dDue : MP.Def := { np := 2, N := ["_law_rows", "_law_moves_here", "_law_found", "_law_table", "_law_cells", "_law_became", "_law_cell", "_law_to", "_law_number", "_law_other"], own := [.sh, .sh, .li, .sh, .sh, .li, .sh, .sh, .sh, .sh], ro := .li, body := (.cons (.asg (.nm 2) (.lst .nil)) (.cons (.loop (.tp [3, 4]) (.of (.var 0)) [3, 4, 5, 6, 7, 8, 9] (.cons (.asg (.nm 5) (.lst .nil)) (.cons (.loop (.nm 6) (.of (.var 4)) [6, 7, 8, 9] (.cons (.asg (.nm 7) (.var 6)) (.cons (.loop (.tp [8, 9]) (.of (.var 1)) [8, 9] (.cons (.ifs (.cmp .eq (.var 6) (.tup (.cons (.str "blank") (.cons (.var 8) .nil)))) (.cons (.asg (.nm 7) (.var 9)) .nil) .nil) .nil)) (.cons (.app 5 (.var 7)) .nil)))) (.cons (.app 2 (.tup (.cons (.var 3) (.cons (.bi .tuple (.cons (.var 5) .nil)) .nil)))) .nil)))) (.cons (.frz [2]) (.cons (.ret (.call "_law_stand" (.cons (.var 2) .nil))) .nil)))) }
def stepC (c : Cell) (mv : List Mv) : Cell := mv.foldl (fun acc p => if c = .blank p.1 then p.2 else acc) c
theorem stepC_eq (c : Cell) (mv : List Mv) : stepC c mv = mvC mv c := by
  cases c with
  | name s =>
    show mv.foldl (fun acc p => if Cell.name s = .blank p.1 then p.2 else acc) (.name s) = .name s
    induction mv with
    | nil => rfl
    | cons p ps ih => rw [List.foldl_cons, if_neg (fun z => nomatch z)]; exact ih
  | blank n =>
    show mv.foldl (fun acc p => if Cell.blank n = .blank p.1 then p.2 else acc) (.blank n) = (mv.foldl (fun acc p => if p.1 = n then some p.2 else acc) none).getD (.blank n)
    suffices ∀ (o : Option Cell), mv.foldl (fun acc p => if Cell.blank n = .blank p.1 then p.2 else acc) (o.getD (.blank n)) = (mv.foldl (fun acc p => if p.1 = n then some p.2 else acc) o).getD (.blank n) from this none
    induction mv with
    | nil => exact fun o => rfl
    | cons p ps ih =>
      intro o
      rw [List.foldl_cons, List.foldl_cons]
      by_cases h : p.1 = n
      · rw [if_pos (by rw [h]), if_pos h]; exact ih (some p.2)
      · rw [if_neg (fun z => h (by injection z with z; exact z.symm)), if_neg h]; exact ih o
/-- a loop that steps a fold -/
theorem foldl_app {α β : Type} (f : β → α → β) (b : β) (xs : List α) (x : α) : (xs ++ [x]).foldl f b = f (xs.foldl f b) x := by rw [List.foldl_append]; rfl
theorem due_ok (hS : T "_law_stand" = some dStand) {nm : Str} (hT : T nm = some dDue) (k : Nat) (rs : List Row) (mv : List Mv) (hl : rs.length ≤ 100000) (h4 : ∀ r ∈ rs, r.2.length ≤ 1000) :
    run T (k + 2) nm [.lst (rs.map rD), .lst (mv.map mvD)] = .ok (.lst ((mvS mv rs).map rD)) := by
  refine run_is hT rfl ?_
  have sq : seqD (.lst (rs.map rD)) = .ok (rs.map rD) := rfl
  have sm : seqD (.lst (mv.map mvD)) = .ok (mv.map mvD) := rfl
  generalize D.lst (rs.map rD) = A at sq
  generalize D.lst (mv.map mvD) = B at sm
  show Ev _ _ [some A, some B, none, none, none, none, none, none, none, none] _
  refine Ev.asg (d := .lst []) (by simp only [evalE, evalEs, evalAnd, evalOr, evalO, evalC, evalI, varE, asgG, setMany, List.getElem?_cons_zero, List.getElem?_cons_succ, List.set_cons_zero, List.set_cons_succ, R.bind_ok, unbl, unint, lstOf, dicOf, iteT, iteA, iteO, Bool.and_true, Bool.or_false, Bool.and_false, Bool.or_true, Bool.true_and, Bool.false_and, Bool.true_or, Bool.false_or, if_true, Bool.false_eq_true, if_false, Bool.not_true, Bool.not_false] <;> rfl) ?_
  refine Ev.loopS rD rs (fun pre => [some A, some B, some (.lst ((pre.map (mvR mv)).map rD)), none, none, none, none, none, none, none]) (by simp only [evalE, evalEs, evalAnd, evalOr, evalO, evalC, evalI, varE, asgG, setMany, List.getElem?_cons_zero, List.getElem?_cons_succ, List.set_cons_zero, List.set_cons_succ, R.bind_ok, unbl, unint, lstOf, dicOf, iteT, iteA, iteO, Bool.and_true, Bool.or_false, Bool.and_false, Bool.or_true, Bool.true_and, Bool.false_and, Bool.true_or, Bool.false_or, if_true, Bool.false_eq_true, if_false, Bool.not_true, Bool.not_false, sq] <;> rfl) rfl ?_ ?_
  · rintro pre r suf hs
    have hr : r ∈ rs := by rw [hs]; simp
    have hpl : pre.length < rs.length := by rw [hs]; simp
    refine ⟨[some A, some B, some (.lst ((pre.map (mvR mv)).map rD)), some (.str r.1), some (.tup (r.2.map cD)), none, none, none, none, none], rfl, ?_⟩
    refine Ev.asg (d := .lst []) (by simp only [evalE, evalEs, evalAnd, evalOr, evalO, evalC, evalI, varE, asgG, setMany, List.getElem?_cons_zero, List.getElem?_cons_succ, List.set_cons_zero, List.set_cons_succ, R.bind_ok, unbl, unint, lstOf, dicOf, iteT, iteA, iteO, Bool.and_true, Bool.or_false, Bool.and_false, Bool.or_true, Bool.true_and, Bool.false_and, Bool.true_or, Bool.false_or, if_true, Bool.false_eq_true, if_false, Bool.not_true, Bool.not_false] <;> rfl) ?_
    refine Ev.loopS cD r.2 (fun p2 => [some A, some B, some (.lst ((pre.map (mvR mv)).map rD)), some (.str r.1), some (.tup (r.2.map cD)), some (.lst ((p2.map (mvC mv)).map cD)), none, none, none, none]) (by simp only [evalE, evalEs, evalAnd, evalOr, evalO, evalC, evalI, varE, asgG, setMany, List.getElem?_cons_zero, List.getElem?_cons_succ, List.set_cons_zero, List.set_cons_succ, R.bind_ok, unbl, unint, lstOf, dicOf, iteT, iteA, iteO, Bool.and_true, Bool.or_false, Bool.and_false, Bool.or_true, Bool.true_and, Bool.false_and, Bool.true_or, Bool.false_or, if_true, Bool.false_eq_true, if_false, Bool.not_true, Bool.not_false, seqD] <;> rfl) rfl ?_ ?_
    · rintro p2 c s2 hs2
      have h2l : p2.length < r.2.length := by rw [hs2]; simp
      have := h4 r hr
      refine ⟨[some A, some B, some (.lst ((pre.map (mvR mv)).map rD)), some (.str r.1), some (.tup (r.2.map cD)), some (.lst ((p2.map (mvC mv)).map cD)), some (cD c), none, none, none], rfl, ?_⟩
      refine Ev.asg (d := cD c) (by simp only [evalE, evalEs, evalAnd, evalOr, evalO, evalC, evalI, varE, asgG, setMany, List.getElem?_cons_zero, List.getElem?_cons_succ, List.set_cons_zero, List.set_cons_succ, R.bind_ok, unbl, unint, lstOf, dicOf, iteT, iteA, iteO, Bool.and_true, Bool.or_false, Bool.and_false, Bool.or_true, Bool.true_and, Bool.false_and, Bool.true_or, Bool.false_or, if_true, Bool.false_eq_true, if_false, Bool.not_true, Bool.not_false] <;> rfl) ?_
      refine Ev.loopS mvD mv (fun q => [some A, some B, some (.lst ((pre.map (mvR mv)).map rD)), some (.str r.1), some (.tup (r.2.map cD)), some (.lst ((p2.map (mvC mv)).map cD)), some (cD c), some (cD (stepC c q)), none, none]) (by simp only [evalE, evalEs, evalAnd, evalOr, evalO, evalC, evalI, varE, asgG, setMany, List.getElem?_cons_zero, List.getElem?_cons_succ, List.set_cons_zero, List.set_cons_succ, R.bind_ok, unbl, unint, lstOf, dicOf, iteT, iteA, iteO, Bool.and_true, Bool.or_false, Bool.and_false, Bool.or_true, Bool.true_and, Bool.false_and, Bool.true_or, Bool.false_or, if_true, Bool.false_eq_true, if_false, Bool.not_true, Bool.not_false, sm] <;> rfl) rfl ?_ ?_
      · rintro q m q2 hq
        refine ⟨[some A, some B, some (.lst ((pre.map (mvR mv)).map rD)), some (.str r.1), some (.tup (r.2.map cD)), some (.lst ((p2.map (mvC mv)).map cD)), some (cD c), some (cD (stepC c q)), some (.int m.1), some (cD m.2)], rfl, ?_⟩
        have e1 : cmpD .eq (cD c) (.tup [.str "blank", .int m.1]) = .ok (decide (c = .blank m.1)) := by rw [cmp_eq]; exact eqD_cells c (.blank m.1)
        have st : stepC c (q ++ [m]) = if c = .blank m.1 then m.2 else stepC c q := foldl_app _ _ _ _
        refine Ev.ite (p := decide (c = .blank m.1)) (by simp only [evalE, evalEs, evalAnd, evalOr, evalO, evalC, evalI, varE, asgG, setMany, List.getElem?_cons_zero, List.getElem?_cons_succ, List.set_cons_zero, List.set_cons_succ, R.bind_ok, unbl, unint, lstOf, dicOf, iteT, iteA, iteO, Bool.and_true, Bool.or_false, Bool.and_false, Bool.or_true, Bool.true_and, Bool.false_and, Bool.true_or, Bool.false_or, if_true, Bool.false_eq_true, if_false, Bool.not_true, Bool.not_false, e1] <;> rfl) (fun h => ?_) (fun h => ?_)
        · refine Ev.asg (d := cD m.2) (by simp only [evalE, evalEs, evalAnd, evalOr, evalO, evalC, evalI, varE, asgG, setMany, List.getElem?_cons_zero, List.getElem?_cons_succ, List.set_cons_zero, List.set_cons_succ, R.bind_ok, unbl, unint, lstOf, dicOf, iteT, iteA, iteO, Bool.and_true, Bool.or_false, Bool.and_false, Bool.or_true, Bool.true_and, Bool.false_and, Bool.true_or, Bool.false_or, if_true, Bool.false_eq_true, if_false, Bool.not_true, Bool.not_false] <;> rfl) (Ev.nil (Ev.nil ?_))
          show (_ : MP.Env) = _
          rw [st, if_pos (by simpa using h)]
          rfl
        · refine Ev.nil (Ev.nil ?_)
          show (_ : MP.Env) = _
          rw [st, if_neg (by simpa using h)]
          rfl
      · refine Ev.app (v := cD (mvC mv c)) rfl ?_ (by rw [List.length_map, List.length_map]; show _ < 16777216; omega) (Ev.nil ?_)
        · rw [stepC_eq]
          exact (by simp only [evalE, evalEs, evalAnd, evalOr, evalO, evalC, evalI, varE, asgG, setMany, List.getElem?_cons_zero, List.getElem?_cons_succ, List.set_cons_zero, List.set_cons_succ, R.bind_ok, unbl, unint, lstOf, dicOf, iteT, iteA, iteO, Bool.and_true, Bool.or_false, Bool.and_false, Bool.or_true, Bool.true_and, Bool.false_and, Bool.true_or, Bool.false_or, if_true, Bool.false_eq_true, if_false, Bool.not_true, Bool.not_false] <;> rfl)
        · show (_ : MP.Env) = _
          rw [List.map_append, List.map_append]
          rfl
    · have tp : ∀ xs, biD .tuple [.lst xs] = .ok (.tup xs) := fun _ => rfl
      refine Ev.app (v := rD (mvR mv r)) rfl (by simp only [evalE, evalEs, evalAnd, evalOr, evalO, evalC, evalI, varE, asgG, setMany, List.getElem?_cons_zero, List.getElem?_cons_succ, List.set_cons_zero, List.set_cons_succ, R.bind_ok, unbl, unint, lstOf, dicOf, iteT, iteA, iteO, Bool.and_true, Bool.or_false, Bool.and_false, Bool.or_true, Bool.true_and, Bool.false_and, Bool.true_or, Bool.false_or, if_true, Bool.false_eq_true, if_false, Bool.not_true, Bool.not_false, tp] <;> rfl) (by rw [List.length_map, List.length_map]; show _ < 16777216; omega) (Ev.nil ?_)
      show (_ : MP.Env) = _
      rw [List.map_append, List.map_append]
      rfl
  · refine Ev.step (r1 := [some A, some B, some (.lst ((rs.map (mvR mv)).map rD)), none, none, none, none, none, none, none]) (by rw [evalS]) ?_
    have so := standL_ok hS k (rs.map (mvR mv)) (by rw [List.length_map]; show _ < 16777216; omega)
    exact Ev.ret (d := .lst ((mvS mv rs).map rD)) (by simp only [evalE, evalEs, evalAnd, evalOr, evalO, evalC, evalI, varE, asgG, setMany, List.getElem?_cons_zero, List.getElem?_cons_succ, List.set_cons_zero, List.set_cons_succ, R.bind_ok, unbl, unint, lstOf, dicOf, iteT, iteA, iteO, Bool.and_true, Bool.or_false, Bool.and_false, Bool.or_true, Bool.true_and, Bool.false_and, Bool.true_or, Bool.false_or, if_true, Bool.false_eq_true, if_false, Bool.not_true, Bool.not_false, so] <;> rfl) rfl

/-! ### patterns filled, as laws do it -/
def dDueF : MP.Def := { np := 2, N := ["_law_patterns", "_law_fit", "_law_found", "_law_table", "_law_terms", "_law_cells", "_law_term", "_law_here", "_law_letter", "_law_cell"], own := [.sh, .sh, .li, .sh, .sh, .li, .sh, .sh, .sh, .sh], ro := .li, body := (.cons (.asg (.nm 2) (.lst .nil)) (.cons (.loop (.tp [3, 4]) (.of (.var 0)) [3, 4, 5, 6, 7, 8, 9] (.cons (.asg (.nm 5) (.lst .nil)) (.cons (.loop (.nm 6) (.of (.var 4)) [6, 7, 8, 9] (.cons (.asg (.nm 7) (.var 6)) (.cons (.loop (.tp [8, 9]) (.of (.var 1)) [8, 9] (.cons (.ifs (.cmp .eq (.var 6) (.tup (.cons (.str "any") (.cons (.var 8) .nil)))) (.cons (.asg (.nm 7) (.var 9)) .nil) .nil) .nil)) (.cons (.app 5 (.var 7)) .nil)))) (.cons (.app 2 (.tup (.cons (.var 3) (.cons (.bi .tuple (.cons (.var 5) .nil)) .nil)))) .nil)))) (.cons (.ret (.var 2)) .nil))) }
/-- a term, or the cell it became -/
def stepT (t : Term) (fit : List Bnd) : D := fit.foldl (fun acc p => if t = .any p.1 then cD p.2 else acc) (tD t)
theorem stepT_eq (t : Term) (fit : List Bnd) (h : ∀ l, t = .any l → (lastK fit l).isSome = true) : stepT t fit = cD (flT fit t) := by
  cases t with
  | nm s =>
    show fit.foldl (fun acc p => if Term.nm s = .any p.1 then cD p.2 else acc) (tD (.nm s)) = cD (.name s)
    clear h
    induction fit with
    | nil => rfl
    | cons p ps ih => rw [List.foldl_cons, if_neg (fun z => nomatch z)]; exact ih
  | any l =>
    replace h := h l rfl
    have key : ∀ (o : Option Cell), fit.foldl (fun acc p => if Term.any l = .any p.1 then cD p.2 else acc) ((o.map cD).getD (tD (.any l))) = ((fit.foldl (fun acc p => if p.1 = l then some p.2 else acc) o).map cD).getD (tD (.any l)) := by
      clear h
      induction fit with
      | nil => exact fun o => rfl
      | cons p ps ih =>
        intro o
        rw [List.foldl_cons, List.foldl_cons]
        by_cases h : p.1 = l
        · rw [if_pos (by rw [h]), if_pos h]; exact ih (some p.2)
        · rw [if_neg (fun z => h (by injection z with z; exact z.symm)), if_neg h]; exact ih o
    have := key none
    show fit.foldl _ _ = cD ((lastK fit l).getD _)
    rw [show (tD (.any l)) = (((none : Option Cell).map cD).getD (tD (.any l))) from rfl]
    refine this.trans ?_
    show ((lastK fit l).map cD).getD _ = _
    cases hl : lastK fit l with
    | none => rw [hl] at h; cases h
    | some c => rfl
theorem dueF_ok {nm : Str} (hT : T nm = some dDueF) (k : Nat) (ps : List Pat) (fit : List Bnd) (hl : ps.length ≤ 100000) (h4 : ∀ p ∈ ps, p.2.length ≤ 1000) (hf : FitFor fit ps) :
    run T (k + 1) nm [.lst (ps.map pD), .lst (fit.map fD)] = .ok (.lst ((ps.map (flP fit)).map rD)) := by
  refine run_is hT rfl ?_
  have sq : seqD (.lst (ps.map pD)) = .ok (ps.map pD) := rfl
  have sm : seqD (.lst (fit.map fD)) = .ok (fit.map fD) := rfl
  generalize D.lst (ps.map pD) = A at sq
  generalize D.lst (fit.map fD) = B at sm
  show Ev _ _ [some A, some B, none, none, none, none, none, none, none, none] _
  refine Ev.asg (d := .lst []) (by simp only [evalE, evalEs, evalAnd, evalOr, evalO, evalC, evalI, varE, asgG, setMany, List.getElem?_cons_zero, List.getElem?_cons_succ, List.set_cons_zero, List.set_cons_succ, R.bind_ok, unbl, unint, lstOf, dicOf, iteT, iteA, iteO, Bool.and_true, Bool.or_false, Bool.and_false, Bool.or_true, Bool.true_and, Bool.false_and, Bool.true_or, Bool.false_or, if_true, Bool.false_eq_true, if_false, Bool.not_true, Bool.not_false] <;> rfl) ?_
  refine Ev.loopS pD ps (fun pre => [some A, some B, some (.lst ((pre.map (flP fit)).map rD)), none, none, none, none, none, none, none]) (by simp only [evalE, evalEs, evalAnd, evalOr, evalO, evalC, evalI, varE, asgG, setMany, List.getElem?_cons_zero, List.getElem?_cons_succ, List.set_cons_zero, List.set_cons_succ, R.bind_ok, unbl, unint, lstOf, dicOf, iteT, iteA, iteO, Bool.and_true, Bool.or_false, Bool.and_false, Bool.or_true, Bool.true_and, Bool.false_and, Bool.true_or, Bool.false_or, if_true, Bool.false_eq_true, if_false, Bool.not_true, Bool.not_false, sq] <;> rfl) rfl ?_ ?_
  · rintro pre r suf hs
    have hr : r ∈ ps := by rw [hs]; simp
    have hpl : pre.length < ps.length := by rw [hs]; simp
    refine ⟨[some A, some B, some (.lst ((pre.map (flP fit)).map rD)), some (.str r.1), some (.tup (r.2.map tD)), none, none, none, none, none], rfl, ?_⟩
    refine Ev.asg (d := .lst []) (by simp only [evalE, evalEs, evalAnd, evalOr, evalO, evalC, evalI, varE, asgG, setMany, List.getElem?_cons_zero, List.getElem?_cons_succ, List.set_cons_zero, List.set_cons_succ, R.bind_ok, unbl, unint, lstOf, dicOf, iteT, iteA, iteO, Bool.and_true, Bool.or_false, Bool.and_false, Bool.or_true, Bool.true_and, Bool.false_and, Bool.true_or, Bool.false_or, if_true, Bool.false_eq_true, if_false, Bool.not_true, Bool.not_false] <;> rfl) ?_
    refine Ev.loopS tD r.2 (fun p2 => [some A, some B, some (.lst ((pre.map (flP fit)).map rD)), some (.str r.1), some (.tup (r.2.map tD)), some (.lst ((p2.map (flT fit)).map cD)), none, none, none, none]) (by simp only [evalE, evalEs, evalAnd, evalOr, evalO, evalC, evalI, varE, asgG, setMany, List.getElem?_cons_zero, List.getElem?_cons_succ, List.set_cons_zero, List.set_cons_succ, R.bind_ok, unbl, unint, lstOf, dicOf, iteT, iteA, iteO, Bool.and_true, Bool.or_false, Bool.and_false, Bool.or_true, Bool.true_and, Bool.false_and, Bool.true_or, Bool.false_or, if_true, Bool.false_eq_true, if_false, Bool.not_true, Bool.not_false, seqD] <;> rfl) rfl ?_ ?_
    · rintro p2 c s2 hs2
      have h2l : p2.length < r.2.length := by rw [hs2]; simp
      have hc : c ∈ r.2 := by rw [hs2]; simp
      have := h4 r hr
      refine ⟨[some A, some B, some (.lst ((pre.map (flP fit)).map rD)), some (.str r.1), some (.tup (r.2.map tD)), some (.lst ((p2.map (flT fit)).map cD)), some (tD c), none, none, none], rfl, ?_⟩
      refine Ev.asg (d := tD c) (by simp only [evalE, evalEs, evalAnd, evalOr, evalO, evalC, evalI, varE, asgG, setMany, List.getElem?_cons_zero, List.getElem?_cons_succ, List.set_cons_zero, List.set_cons_succ, R.bind_ok, unbl, unint, lstOf, dicOf, iteT, iteA, iteO, Bool.and_true, Bool.or_false, Bool.and_false, Bool.or_true, Bool.true_and, Bool.false_and, Bool.true_or, Bool.false_or, if_true, Bool.false_eq_true, if_false, Bool.not_true, Bool.not_false] <;> rfl) ?_
      refine Ev.loopS fD fit (fun q => [some A, some B, some (.lst ((pre.map (flP fit)).map rD)), some (.str r.1), some (.tup (r.2.map tD)), some (.lst ((p2.map (flT fit)).map cD)), some (tD c), some (stepT c q), none, none]) (by simp only [evalE, evalEs, evalAnd, evalOr, evalO, evalC, evalI, varE, asgG, setMany, List.getElem?_cons_zero, List.getElem?_cons_succ, List.set_cons_zero, List.set_cons_succ, R.bind_ok, unbl, unint, lstOf, dicOf, iteT, iteA, iteO, Bool.and_true, Bool.or_false, Bool.and_false, Bool.or_true, Bool.true_and, Bool.false_and, Bool.true_or, Bool.false_or, if_true, Bool.false_eq_true, if_false, Bool.not_true, Bool.not_false, sm] <;> rfl) rfl ?_ ?_
      · rintro q m q2 hq
        refine ⟨[some A, some B, some (.lst ((pre.map (flP fit)).map rD)), some (.str r.1), some (.tup (r.2.map tD)), some (.lst ((p2.map (flT fit)).map cD)), some (tD c), some (stepT c q), some (.str m.1), some (cD m.2)], rfl, ?_⟩
        have e1 : cmpD .eq (tD c) (.tup [.str "any", .str m.1]) = .ok (decide (c = .any m.1)) := by rw [cmp_eq]; exact eqD_terms c (.any m.1)
        have st : stepT c (q ++ [m]) = if c = .any m.1 then cD m.2 else stepT c q := foldl_app _ _ _ _
        refine Ev.ite (p := decide (c = .any m.1)) (by simp only [evalE, evalEs, evalAnd, evalOr, evalO, evalC, evalI, varE, asgG, setMany, List.getElem?_cons_zero, List.getElem?_cons_succ, List.set_cons_zero, List.set_cons_succ, R.bind_ok, unbl, unint, lstOf, dicOf, iteT, iteA, iteO, Bool.and_true, Bool.or_false, Bool.and_false, Bool.or_true, Bool.true_and, Bool.false_and, Bool.true_or, Bool.false_or, if_true, Bool.false_eq_true, if_false, Bool.not_true, Bool.not_false, e1] <;> rfl) (fun h => ?_) (fun h => ?_)
        · refine Ev.asg (d := cD m.2) (by simp only [evalE, evalEs, evalAnd, evalOr, evalO, evalC, evalI, varE, asgG, setMany, List.getElem?_cons_zero, List.getElem?_cons_succ, List.set_cons_zero, List.set_cons_succ, R.bind_ok, unbl, unint, lstOf, dicOf, iteT, iteA, iteO, Bool.and_true, Bool.or_false, Bool.and_false, Bool.or_true, Bool.true_and, Bool.false_and, Bool.true_or, Bool.false_or, if_true, Bool.false_eq_true, if_false, Bool.not_true, Bool.not_false] <;> rfl) (Ev.nil (Ev.nil ?_))
          show (_ : MP.Env) = _
          rw [st, if_pos (by simpa using h)]
          rfl
        · refine Ev.nil (Ev.nil ?_)
          show (_ : MP.Env) = _
          rw [st, if_neg (by simpa using h)]
          rfl
      · refine Ev.app (v := cD (flT fit c)) rfl ?_ (by rw [List.length_map, List.length_map]; show _ < 16777216; omega) (Ev.nil ?_)
        · rw [stepT_eq c fit fun l e => hf r hr l (by rw [← e]; exact hc)]
          exact (by simp only [evalE, evalEs, evalAnd, evalOr, evalO, evalC, evalI, varE, asgG, setMany, List.getElem?_cons_zero, List.getElem?_cons_succ, List.set_cons_zero, List.set_cons_succ, R.bind_ok, unbl, unint, lstOf, dicOf, iteT, iteA, iteO, Bool.and_true, Bool.or_false, Bool.and_false, Bool.or_true, Bool.true_and, Bool.false_and, Bool.true_or, Bool.false_or, if_true, Bool.false_eq_true, if_false, Bool.not_true, Bool.not_false] <;> rfl)
        · show (_ : MP.Env) = _
          rw [List.map_append, List.map_append]
          rfl
    · have tp : ∀ xs, biD .tuple [.lst xs] = .ok (.tup xs) := fun _ => rfl
      refine Ev.app (v := rD (flP fit r)) rfl (by simp only [evalE, evalEs, evalAnd, evalOr, evalO, evalC, evalI, varE, asgG, setMany, List.getElem?_cons_zero, List.getElem?_cons_succ, List.set_cons_zero, List.set_cons_succ, R.bind_ok, unbl, unint, lstOf, dicOf, iteT, iteA, iteO, Bool.and_true, Bool.or_false, Bool.and_false, Bool.or_true, Bool.true_and, Bool.false_and, Bool.true_or, Bool.false_or, if_true, Bool.false_eq_true, if_false, Bool.not_true, Bool.not_false, tp] <;> rfl) (by rw [List.length_map, List.length_map]; show _ < 16777216; omega) (Ev.nil ?_)
      show (_ : MP.Env) = _
      rw [List.map_append, List.map_append]
      rfl
  · exact Ev.ret (d := .lst ((ps.map (flP fit)).map rD)) (by simp only [evalE, evalEs, evalAnd, evalOr, evalO, evalC, evalI, varE, asgG, setMany, List.getElem?_cons_zero, List.getElem?_cons_succ, List.set_cons_zero, List.set_cons_succ, R.bind_ok, unbl, unint, lstOf, dicOf, iteT, iteA, iteO, Bool.and_true, Bool.or_false, Bool.and_false, Bool.or_true, Bool.true_and, Bool.false_and, Bool.true_or, Bool.false_or, if_true, Bool.false_eq_true, if_false, Bool.not_true, Bool.not_false] <;> rfl) rfl
end
end LC
/-! What many laws build: mix, words, worlds, by kinds. -/
namespace LC
open PySem MP
variable {V : Nat → D → Prop}

abbrev tMix : Ty := .rng 0 2147483628
abbrev tWords : Ty := .lst (.str 0 20) 6 6
abbrev tWorld : Ty := .tup (.tc tWords (.tc (.rng 0 399999) (.tc (.rng 1 50000) .tn)))
abbrev tRowA (hi : Nat) : Ty := tyRow (.str 0 20) (.rng 0 999999) (.str 0 20) 1 hi
section
variable {T : Str → Option Def}
theorem mix_sg (hT : T "_law_mix" = some dMix) (k : Nat) (ds : List D) (h : Has2 V [.int, .rng 0 1000] ds) : ∃ d, run T (k + 1) "_law_mix" ds = .ok d ∧ Has V tMix d := by
  cases h with
  | cons a b =>
    cases b with
    | cons c d =>
      cases d
      obtain ⟨i, rfl⟩ := int_of a
      obtain ⟨j, rfl, h1, h2⟩ := rng_of c
      refine ⟨_, mix_ok hT k i j (by omega) (by omega), .rng (mix_nonneg i j) ?_⟩
      have := mix_lt i j
      omega
theorem words_sg (hM : T "_law_mix" = some dMix) (hT : T "_law_words" = some dWords) (k : Nat) (ds : List D) (h : Has2 V [.int] ds) : ∃ d, run T (k + 2) "_law_words" ds = .ok d ∧ Has V tWords d := by
  cases h with
  | cons a b =>
    cases b
    obtain ⟨i, rfl⟩ := int_of a
    obtain ⟨W, h1, h2, h3⟩ := words_ok hM hT k i
    exact ⟨_, h3, .lst (fun d m => by
      obtain ⟨s, hs, rfl⟩ := List.mem_map.mp m
      exact .str (Nat.zero_le _) (h2 s hs)) (by rw [List.length_map, h1]; decide) (by rw [List.length_map, h1]; decide)⟩
abbrev sgM : Sg := [("_law_mix", [.int, .rng 0 1000], tMix)]
abbrev sgW : Sg := ("_law_words", [.int], tWords) :: sgM
theorem sgM_ok (hM : T "_law_mix" = some dMix) (k : Nat) : SgOk V (run T (k + 1)) sgM := .cons (mix_sg hM k) .nil
theorem sgW_ok (hM : T "_law_mix" = some dMix) (hT : T "_law_words" = some dWords) (k : Nat) : SgOk V (run T (k + 2)) sgW := .cons (words_sg hM hT k) (sgM_ok hM (k + 1))
theorem dWorld_ty : ckT sgW dWorld [.int] tWorld = true := by decide +kernel
theorem world_sg (hM : T "_law_mix" = some dMix) (hW : T "_law_words" = some dWords) (hT : T "_law_world" = some dWorld) (k : Nat) (ds : List D) (h : Has2 V [.int] ds) : ∃ d, run T (k + 3) "_law_world" ds = .ok d ∧ Has V tWorld d :=
  ty_run hT (sgW_ok hM hW k) dWorld_ty h
/-- _law_whole -/
def dWhole : MP.Def := { np := 1, N := ["_law_found"], own := [.sh], ro := .sh, body := (.cons (.ret (.and (.cons (.bi .isInt (.cons (.var 0) .nil)) (.cons (.not (.bi .isBool (.cons (.var 0) .nil))) .nil)))) .nil) }
def isInt : D → Bool
  | .int _ => true
  | _ => false
theorem whole_ok (hT : T "_law_whole" = some dWhole) (k : Nat) {v : D} (h : MP.plain v = true ∨ ∃ b, v = .bl b) : run T (k + 1) "_law_whole" [v] = .ok (.bl (isInt v)) := by
  refine run_is hT rfl ?_
  show Ev _ _ [some v] _
  have e1 : ∃ a b, biD .isInt [v] = .ok (.bl a) ∧ biD .isBool [v] = .ok (.bl b) ∧ (a && !b) = isInt v := by
    rcases h with h | ⟨b, rfl⟩
    · cases v <;> first | (simp [MP.plain, plainN] at h; done) | exact ⟨_, _, rfl, rfl, rfl⟩
    · exact ⟨_, _, rfl, rfl, rfl⟩
  obtain ⟨a, b, h1, h2, h3⟩ := e1
  refine Ev.ret (d := .bl (isInt v)) ?_ rfl
  rw [← h3]
  simp only [evalE, evalEs, evalAnd, evalOr, evalO, evalC, evalI, varE, asgG, setMany, List.getElem?_cons_zero, List.getElem?_cons_succ, List.set_cons_zero, List.set_cons_succ, R.bind_ok, unbl, unint, lstOf, dicOf, iteT, iteA, iteO, Bool.and_true, Bool.or_false, Bool.and_false, Bool.or_true, Bool.true_and, Bool.false_and, Bool.true_or, Bool.false_or, if_true, Bool.false_eq_true, if_false, Bool.not_true, Bool.not_false, h1, h2]
end
theorem world_of {w : D} (h : Has V tWorld w) : ∃ (W : List Str) (a b : Int), w = wD W a b ∧ W.length = 6 ∧ (∀ s ∈ W, s.length ≤ 20) ∧ 0 ≤ a ∧ a ≤ 399999 ∧ 1 ≤ b ∧ b ≤ 50000 := by
  cases h with
  | tup h =>
    cases h with
    | cons h1 h =>
      cases h with
      | cons h2 h =>
        cases h with
        | cons h3 h =>
          cases h
          obtain ⟨a, rfl, ha, hb⟩ := rng_of h2
          obtain ⟨b, rfl, hc, hd⟩ := rng_of h3
          cases h1 with
          | lst p q r =>
            obtain ⟨W, rfl, hW⟩ := asMap (f := D.str) (P := fun s : Str => s.length ≤ 20) fun y m => by
              cases p y m with
              | str _ h => exact ⟨_, rfl, h⟩
            rw [List.length_map] at q r
            exact ⟨W, a, b, rfl, by omega, hW, ha, hb, hc, hd⟩
theorem words_has {W : List Str} (h6 : W.length = 6) (hl : ∀ s ∈ W, s.length ≤ 20) : Has V tWords (.lst (W.map .str)) := .lst (fun d m => by
  obtain ⟨s, hs, rfl⟩ := List.mem_map.mp m
  exact .str (Nat.zero_le _) (hl s hs)) (by rw [List.length_map, h6]; decide) (by rw [List.length_map, h6]; decide)
end LC
/-! taken, extended, fits: what they reckon. -/
namespace LC
open PySem MP
variable {V : Nat → D → Prop}

abbrev Fit := List Bnd
def dcF (F : Fit) : D := .dic (F.map fun p => (.str p.1, cD p.2))
def fitD (F : Fit) : D := .lst (F.map fD)
def optD : Option Fit → D
  | some F => dcF F
  | none => .non
def takeT : List (Term × Cell) → Fit → Option Fit
  | [], F => some F
  | (.nm s, c) :: r, F => if c = .name s then takeT r F else none
  | (.any l, c) :: r, F => match F.lookup l with
    | some c' => if c' = c then takeT r F else none
    | none => takeT r (F ++ [(l, c)])
def takenT (ts : List Term) (cs : List Cell) (F : Fit) : Option Fit := if ts.length = cs.length then takeT (ts.zip cs) F else none
theorem dcF_flat (F : Fit) : ((F.map fun p : Bnd => (D.str p.1, cD p.2)).all fun p => flatKey p.1) = true := by
  rw [List.all_eq_true]
  intro p hp
  obtain ⟨q, _, rfl⟩ := List.mem_map.mp hp
  rfl
theorem dcF_get (F : Fit) (l : Str) : getKV (F.map fun p : Bnd => (D.str p.1, cD p.2)) (.str l) = (F.lookup l).map cD := by
  induction F with
  | nil => rfl
  | cons p F ih =>
    obtain ⟨a, c⟩ := p
    rw [List.map_cons, get_cons, List.lookup_cons]
    by_cases h : a = l
    · subst h
      rw [if_pos rfl]
      simp
    · rw [if_neg fun e => h (strD_inj.mp e), ih]
      have : (l == a) = false := by simpa using fun e => h e.symm
      rw [this]
theorem dict_dcF (F : Fit) : biD .dict [dcF F] = .ok (dcF F) := by
  show (if _ then R.ok (dcF F) else .bad) = _
  rw [if_pos (dcF_flat F)]
theorem isnot_opt (o : Option Fit) : cmpD .isnot (optD o) .non = .ok o.isSome := by
  cases o with
  | none => rfl
  | some F => rfl
theorem term_cell (t : Term) (c : Cell) : cmpD .ne (tD t) (cD c) = .ok (match t with
    | .nm s => !decide (c = .name s)
    | .any _ => true) := by
  rw [cmp_ne, eqD_plain (plN_tD 29 t) (plN_cD 29 c)]
  cases t with
  | nm s =>
    have : decide (tD (.nm s) = cD c) = decide (c = .name s) := decide_eq_decide.mpr ⟨fun h => by
      have : cD (.name s) = cD c := h
      exact (cD_inj.mp this).symm, fun h => by rw [h]; rfl⟩
    rw [this]; rfl
  | any l =>
    have : decide (tD (.any l) = cD c) = false := decide_eq_false fun h => by
      cases c <;> simp [tD, cD] at h <;> exact absurd h.1 (by decide)
    rw [this]; rfl
def dTaken : MP.Def := { np := 3, N := ["terms", "cells", "fit", "found", "term", "cell"], own := [.sh, .sh, .sh, .li, .sh, .sh], ro := .sh, body := (.cons (.ifs (.cmp .ne (.bi .len (.cons (.var 0) .nil)) (.bi .len (.cons (.var 1) .nil))) (.cons (.ret .non) .nil) .nil) (.cons (.asg (.nm 3) (.bi .dict (.cons (.var 2) .nil))) (.cons (.loop (.tp [4, 5]) (.zip (.var 0) (.var 1)) [4, 5] (.cons (.ifs (.cmp .eq (.idx (.var 4) (.int 0)) (.str "any")) (.cons (.ifSd 3 (.idx (.var 4) (.int 1)) (.var 5) (.var 5) (.cons (.ret .non) .nil) .nil) .nil) (.cons (.ifs (.cmp .ne (.var 4) (.var 5)) (.cons (.ret .non) .nil) .nil) .nil)) .nil)) (.cons (.ret (.var 3)) .nil)))) }
/-- if d.setdefault(k, e) != c -/
theorem Ev.sd {F : Orc} {x : Nat} {k e c : IE} {a b ss : ISs} {r r2 : MP.Env} {kvs : List (D × D)} {kd vd z : D} {q : Bool} {Q : Fl → MP.Env → Prop} (h1 : varE x r = .ok (.dic kvs)) (h2 : evalE F k r = .ok kd) (h3 : evalE F e r = .ok vd) (h4 : keyFor kvs kd = true) (h5 : kvs.length < lim)
    (hr : (match getKV kvs kd with
      | some _ => r
      | none => r.set x (some (.dic (kvs ++ [(kd, vd)])))) = r2) (h6 : evalE F c r2 = .ok z) (h7 : eqD ((getKV kvs kd).getD vd) z = .ok q)
    (k1 : q = false → Ev F a r2 (Then F ss Q)) (k2 : q = true → Ev F b r2 (Then F ss Q)) : Ev F (.cons (.ifSd x k e c a b) ss) r Q := by
  have hs : evalS F (.ifSd x k e c a b) r = if q then evalSs F b r2 else evalSs F a r2 := by
    rw [evalS, h1]
    simp only [R.bind_ok, dicOf]
    rw [h2, R.bind_ok, h3, R.bind_ok, if_pos (by rw [h4, decide_eq_true h5]; rfl)]
    cases hg : getKV kvs kd with
    | some w =>
      rw [hg] at h7 hr
      subst hr
      simp only [h6, R.bind_ok, h7]
    | none =>
      rw [hg] at h7 hr
      subst hr
      simp only [h6, R.bind_ok, h7]
  have go : ∀ {t : ISs}, evalS F (.ifSd x k e c a b) r = evalSs F t r2 → Ev F t r2 (Then F ss Q) → Ev F (.cons (.ifSd x k e c a b) ss) r Q := fun {t} ht ⟨fl, r', g1, g2⟩ => by
    have g3 := ht.trans g1
    cases fl with
    | nx => exact Ev.step g3 g2
    | rt v => exact ⟨_, _, by rw [evalSs, g3]; rfl, g2⟩
    | ct => exact ⟨_, _, by rw [evalSs, g3]; rfl, g2⟩
    | bk => exact ⟨_, _, by rw [evalSs, g3]; rfl, g2⟩
  cases q with
  | true => exact go hs (k2 rfl)
  | false => exact go hs (k1 rfl)
section
variable {T : Str → Option Def}
theorem taken_ok (hT : T "taken" = some dTaken) (k : Nat) (ts : List Term) (cs : List Cell) (F : Fit) (hl : F.length + ts.length < lim) :
    run T (k + 1) "taken" [.tup (ts.map tD), .tup (cs.map cD), dcF F] = .ok (optD (takenT ts cs F)) := by
  refine run_is hT rfl ?_
  have l1 := len_tup tD ts
  have l2 := len_tup cD cs
  have z : zipD (.tup (ts.map tD)) (.tup (cs.map cD)) = .ok ((ts.zip cs).map fun p => .tup [tD p.1, cD p.2]) := by simp only [zipD, zip_maps]
  have dd := dict_dcF F
  generalize D.tup (ts.map tD) = A at l1 z
  generalize D.tup (cs.map cD) = B at l2 z
  generalize hP : dcF F = P at *
  show Ev _ _ [some A, some B, some P, none, none, none] _
  have c0 : cmpD .ne (.int ts.length) (.int cs.length) = .ok (!decide ((ts.length : Int) = cs.length)) := cmpI_ne _ _
  unfold takenT
  refine Ev.ite (p := !decide ((ts.length : Int) = cs.length)) (by simp only [evalE, evalEs, evalAnd, evalOr, evalO, evalC, evalI, varE, asgG, setMany, List.getElem?_cons_zero, List.getElem?_cons_succ, List.set_cons_zero, List.set_cons_succ, R.bind_ok, unbl, unint, lstOf, dicOf, iteT, iteA, iteO, Bool.and_true, Bool.or_false, Bool.and_false, Bool.or_true, Bool.true_and, Bool.false_and, Bool.true_or, Bool.false_or, if_true, Bool.false_eq_true, if_false, Bool.not_true, Bool.not_false, l1, l2, c0] <;> rfl) (fun h => ?_) (fun h => Ev.nil ?_)
  · have h : ¬ ts.length = cs.length := by
      intro e; rw [e] at h; simp at h
    rw [if_neg h]
    exact Ev.ret (d := .non) (by simp only [evalE, evalEs, evalAnd, evalOr, evalO, evalC, evalI, varE, asgG, setMany, List.getElem?_cons_zero, List.getElem?_cons_succ, List.set_cons_zero, List.set_cons_succ, R.bind_ok, unbl, unint, lstOf, dicOf, iteT, iteA, iteO, Bool.and_true, Bool.or_false, Bool.and_false, Bool.or_true, Bool.true_and, Bool.false_and, Bool.true_or, Bool.false_or, if_true, Bool.false_eq_true, if_false, Bool.not_true, Bool.not_false] <;> rfl) rfl
  · have h : ts.length = cs.length := by
      have : (ts.length : Int) = cs.length := by simpa using h
      omega
    rw [if_pos h]
    refine Ev.asg (d := P) (by simp only [evalE, evalEs, evalAnd, evalOr, evalO, evalC, evalI, varE, asgG, setMany, List.getElem?_cons_zero, List.getElem?_cons_succ, List.set_cons_zero, List.set_cons_succ, R.bind_ok, unbl, unint, lstOf, dicOf, iteT, iteA, iteO, Bool.and_true, Bool.or_false, Bool.and_false, Bool.or_true, Bool.true_and, Bool.false_and, Bool.true_or, Bool.false_or, if_true, Bool.false_eq_true, if_false, Bool.not_true, Bool.not_false, dd] <;> rfl) ?_
    refine Ev.loopQ (fun p : Term × Cell => D.tup [tD p.1, cD p.2]) (ts.zip cs) (fun pre e => ∃ G : Fit, e = [some A, some B, some P, some (dcF G), none, none] ∧ G.length ≤ F.length + pre.length ∧ takeT (ts.zip cs) F = takeT ((ts.zip cs).drop pre.length) G) (by simp only [evalE, evalEs, evalAnd, evalOr, evalO, evalC, evalI, varE, asgG, setMany, List.getElem?_cons_zero, List.getElem?_cons_succ, List.set_cons_zero, List.set_cons_succ, R.bind_ok, unbl, unint, lstOf, dicOf, iteT, iteA, iteO, Bool.and_true, Bool.or_false, Bool.and_false, Bool.or_true, Bool.true_and, Bool.false_and, Bool.true_or, Bool.false_or, if_true, Bool.false_eq_true, if_false, Bool.not_true, Bool.not_false, z] <;> rfl)
      ⟨F, by rw [hP]; rfl, Nat.le_refl _, rfl⟩ ?_ ?_
    · rintro pre ⟨t, c⟩ suf _ hs ⟨G, rfl, hG, ht⟩
      have hd : (ts.zip cs).drop pre.length = (t, c) :: suf := by rw [hs]; simp
      have hd2 : (ts.zip cs).drop (pre ++ [(t, c)]).length = suf := by rw [hs]; simp
      rw [hd] at ht
      have hpl : pre.length < ts.length := by
        have := congrArg List.length hs
        rw [List.length_zip, List.length_append, List.length_cons] at this
        omega
      refine ⟨[some A, some B, some P, some (dcF G), some (tD t), some (cD c)], rfl, ?_⟩
      cases t with
      | any l =>
        refine Ev.tt (by simp only [evalE, evalEs, evalAnd, evalOr, evalO, evalC, evalI, varE, asgG, setMany, List.getElem?_cons_zero, List.getElem?_cons_succ, List.set_cons_zero, List.set_cons_succ, R.bind_ok, unbl, unint, lstOf, dicOf, iteT, iteA, iteO, Bool.and_true, Bool.or_false, Bool.and_false, Bool.or_true, Bool.true_and, Bool.false_and, Bool.true_or, Bool.false_or, if_true, Bool.false_eq_true, if_false, Bool.not_true, Bool.not_false, termD_0, cmpS_qaa] <;> rfl) ?_
        cases hg : G.lookup l with
        | some c' =>
          have gv : getKV (G.map fun p : Bnd => (D.str p.1, cD p.2)) (.str l) = some (cD c') := by rw [dcF_get, hg]; rfl
          refine Ev.sd (x := 3) (kvs := G.map fun p : Bnd => (D.str p.1, cD p.2)) (kd := .str l) (vd := cD c) (z := cD c) (q := decide (c' = c)) (r2 := [some A, some B, some P, some (dcF G), some (tD (.any l)), some (cD c)]) rfl (by simp only [evalE, evalEs, evalAnd, evalOr, evalO, evalC, evalI, varE, asgG, setMany, List.getElem?_cons_zero, List.getElem?_cons_succ, List.set_cons_zero, List.set_cons_succ, R.bind_ok, unbl, unint, lstOf, dicOf, iteT, iteA, iteO, Bool.and_true, Bool.or_false, Bool.and_false, Bool.or_true, Bool.true_and, Bool.false_and, Bool.true_or, Bool.false_or, if_true, Bool.false_eq_true, if_false, Bool.not_true, Bool.not_false, termD_1] <;> rfl) (by simp only [evalE, evalEs, evalAnd, evalOr, evalO, evalC, evalI, varE, asgG, setMany, List.getElem?_cons_zero, List.getElem?_cons_succ, List.set_cons_zero, List.set_cons_succ, R.bind_ok, unbl, unint, lstOf, dicOf, iteT, iteA, iteO, Bool.and_true, Bool.or_false, Bool.and_false, Bool.or_true, Bool.true_and, Bool.false_and, Bool.true_or, Bool.false_or, if_true, Bool.false_eq_true, if_false, Bool.not_true, Bool.not_false] <;> rfl) (keyFor_ok (dcF_flat G) rfl) (by rw [List.length_map]; omega) (by rw [gv]) (by simp only [evalE, evalEs, evalAnd, evalOr, evalO, evalC, evalI, varE, asgG, setMany, List.getElem?_cons_zero, List.getElem?_cons_succ, List.set_cons_zero, List.set_cons_succ, R.bind_ok, unbl, unint, lstOf, dicOf, iteT, iteA, iteO, Bool.and_true, Bool.or_false, Bool.and_false, Bool.or_true, Bool.true_and, Bool.false_and, Bool.true_or, Bool.false_or, if_true, Bool.false_eq_true, if_false, Bool.not_true, Bool.not_false] <;> rfl) (by rw [gv]; exact eqD_cells c' c) (fun q => ?_) (fun q => ?_)
          · refine Ev.ret (d := .non) (by simp only [evalE, evalEs, evalAnd, evalOr, evalO, evalC, evalI, varE, asgG, setMany, List.getElem?_cons_zero, List.getElem?_cons_succ, List.set_cons_zero, List.set_cons_succ, R.bind_ok, unbl, unint, lstOf, dicOf, iteT, iteA, iteO, Bool.and_true, Bool.or_false, Bool.and_false, Bool.or_true, Bool.true_and, Bool.false_and, Bool.true_or, Bool.false_or, if_true, Bool.false_eq_true, if_false, Bool.not_true, Bool.not_false] <;> rfl) ?_
            show Fl.rt _ = Fl.rt _
            rw [ht]
            simp only [takeT, hg]
            rw [if_neg (by simpa using q)]
            rfl
          · refine Ev.nil (Ev.nil (Ev.nil ⟨G, rfl, by simp; omega, ?_⟩))
            rw [hd2, ht]
            simp only [takeT, hg]
            rw [if_pos (by simpa using q)]
        | none =>
          have gv : getKV (G.map fun p : Bnd => (D.str p.1, cD p.2)) (.str l) = none := by rw [dcF_get, hg]; rfl
          have e2 : D.dic ((G.map fun p : Bnd => (D.str p.1, cD p.2)) ++ [(.str l, cD c)]) = dcF (G ++ [(l, c)]) := by unfold dcF; rw [List.map_append]; rfl
          refine Ev.sd (x := 3) (kvs := G.map fun p : Bnd => (D.str p.1, cD p.2)) (kd := .str l) (vd := cD c) (z := cD c) (q := true) (r2 := [some A, some B, some P, some (dcF (G ++ [(l, c)])), some (tD (.any l)), some (cD c)]) rfl (by simp only [evalE, evalEs, evalAnd, evalOr, evalO, evalC, evalI, varE, asgG, setMany, List.getElem?_cons_zero, List.getElem?_cons_succ, List.set_cons_zero, List.set_cons_succ, R.bind_ok, unbl, unint, lstOf, dicOf, iteT, iteA, iteO, Bool.and_true, Bool.or_false, Bool.and_false, Bool.or_true, Bool.true_and, Bool.false_and, Bool.true_or, Bool.false_or, if_true, Bool.false_eq_true, if_false, Bool.not_true, Bool.not_false, termD_1] <;> rfl) (by simp only [evalE, evalEs, evalAnd, evalOr, evalO, evalC, evalI, varE, asgG, setMany, List.getElem?_cons_zero, List.getElem?_cons_succ, List.set_cons_zero, List.set_cons_succ, R.bind_ok, unbl, unint, lstOf, dicOf, iteT, iteA, iteO, Bool.and_true, Bool.or_false, Bool.and_false, Bool.or_true, Bool.true_and, Bool.false_and, Bool.true_or, Bool.false_or, if_true, Bool.false_eq_true, if_false, Bool.not_true, Bool.not_false] <;> rfl) (keyFor_ok (dcF_flat G) rfl) (by rw [List.length_map]; omega) (by rw [gv, e2]; rfl) (by simp only [evalE, evalEs, evalAnd, evalOr, evalO, evalC, evalI, varE, asgG, setMany, List.getElem?_cons_zero, List.getElem?_cons_succ, List.set_cons_zero, List.set_cons_succ, R.bind_ok, unbl, unint, lstOf, dicOf, iteT, iteA, iteO, Bool.and_true, Bool.or_false, Bool.and_false, Bool.or_true, Bool.true_and, Bool.false_and, Bool.true_or, Bool.false_or, if_true, Bool.false_eq_true, if_false, Bool.not_true, Bool.not_false] <;> rfl) (by rw [gv]; exact (eqD_cells c c).trans (by rw [decide_eq_true rfl])) (fun q => nomatch q) (fun _ => ?_)
          refine Ev.nil (Ev.nil (Ev.nil ⟨G ++ [(l, c)], rfl, by simp; omega, ?_⟩))
          rw [hd2, ht]
          simp only [takeT, hg]
      | nm s =>
        refine Ev.ff (by simp only [evalE, evalEs, evalAnd, evalOr, evalO, evalC, evalI, varE, asgG, setMany, List.getElem?_cons_zero, List.getElem?_cons_succ, List.set_cons_zero, List.set_cons_succ, R.bind_ok, unbl, unint, lstOf, dicOf, iteT, iteA, iteO, Bool.and_true, Bool.or_false, Bool.and_false, Bool.or_true, Bool.true_and, Bool.false_and, Bool.true_or, Bool.false_or, if_true, Bool.false_eq_true, if_false, Bool.not_true, Bool.not_false, termD_0, cmpS_qna] <;> rfl) ?_
        refine Ev.ite (p := !decide (c = .name s)) (by simp only [evalE, evalEs, evalAnd, evalOr, evalO, evalC, evalI, varE, asgG, setMany, List.getElem?_cons_zero, List.getElem?_cons_succ, List.set_cons_zero, List.set_cons_succ, R.bind_ok, unbl, unint, lstOf, dicOf, iteT, iteA, iteO, Bool.and_true, Bool.or_false, Bool.and_false, Bool.or_true, Bool.true_and, Bool.false_and, Bool.true_or, Bool.false_or, if_true, Bool.false_eq_true, if_false, Bool.not_true, Bool.not_false, term_cell] <;> rfl) (fun q => ?_) (fun q => ?_)
        · refine Ev.ret (d := .non) (by simp only [evalE, evalEs, evalAnd, evalOr, evalO, evalC, evalI, varE, asgG, setMany, List.getElem?_cons_zero, List.getElem?_cons_succ, List.set_cons_zero, List.set_cons_succ, R.bind_ok, unbl, unint, lstOf, dicOf, iteT, iteA, iteO, Bool.and_true, Bool.or_false, Bool.and_false, Bool.or_true, Bool.true_and, Bool.false_and, Bool.true_or, Bool.false_or, if_true, Bool.false_eq_true, if_false, Bool.not_true, Bool.not_false] <;> rfl) ?_
          show Fl.rt _ = Fl.rt _
          rw [ht]
          simp only [takeT]
          rw [if_neg (by simpa using q)]
          rfl
        · refine Ev.nil (Ev.nil (Ev.nil ⟨G, rfl, by simp; omega, ?_⟩))
          rw [hd2, ht]
          simp only [takeT]
          rw [if_pos (by simpa using q)]
    · rintro _ ⟨G, rfl, hG, ht⟩
      rw [List.drop_length] at ht
      refine Ev.ret (d := dcF G) (by simp only [evalE, evalEs, evalAnd, evalOr, evalO, evalC, evalI, varE, asgG, setMany, List.getElem?_cons_zero, List.getElem?_cons_succ, List.set_cons_zero, List.set_cons_succ, R.bind_ok, unbl, unint, lstOf, dicOf, iteT, iteA, iteO, Bool.and_true, Bool.or_false, Bool.and_false, Bool.or_true, Bool.true_and, Bool.false_and, Bool.true_or, Bool.false_or, if_true, Bool.false_eq_true, if_false, Bool.not_true, Bool.not_false] <;> rfl) ?_
      show Fl.rt _ = Fl.rt _
      rw [ht]
      rfl

/-! ### extended -/
def dExtended : MP.Def := { np := 3, N := ["rows", "patterns", "some", "table", "terms", "more", "fit", "name", "cells", "found"], own := [.sh, .sh, .sh, .sh, .sh, .li, .sh, .sh, .sh, .sh], ro := .sh, body := (.cons (.loop (.tp [3, 4]) (.of (.var 1)) [3, 4, 5, 6, 7, 8, 9] (.cons (.asg (.nm 5) (.lst .nil)) (.cons (.loop (.nm 6) (.of (.var 2)) [6, 7, 8, 9] (.cons (.loop (.tp [7, 8]) (.of (.var 0)) [7, 8, 9] (.cons (.ifs (.cmp .ne (.var 7) (.var 3)) (.cons .cont .nil) .nil) (.cons (.asg (.nm 9) (.call "taken" (.cons (.var 4) (.cons (.var 8) (.cons (.var 6) .nil))))) (.cons (.ifs (.cmp .isnot (.var 9) .non) (.cons (.app 5 (.var 9)) .nil) .nil) .nil)))) .nil)) (.cons (.frz [5]) (.cons (.asg (.nm 2) (.var 5)) .nil))))) (.cons (.ret (.var 2)) .nil)) }
def ext1 (rows : List Row) (p : Pat) (F : Fit) : List Fit := rows.filterMap fun r => if r.1 = p.1 then takenT p.2 r.2 F else none
def extP (rows : List Row) (p : Pat) (Fs : List Fit) : List Fit := Fs.flatMap (ext1 rows p)
def extT (rows : List Row) (ps : List Pat) (Fs : List Fit) : List Fit := ps.foldl (fun Fs p => extP rows p Fs) Fs
theorem takeT_len : ∀ (l : List (Term × Cell)) (F G : Fit), takeT l F = some G → G.length ≤ F.length + l.length
  | [], F, G, h => by cases h; exact Nat.le_refl _
  | (.nm s, c) :: r, F, G, h => by
    simp only [takeT] at h
    split at h
    · have := takeT_len r F G h
      simp; omega
    · cases h
  | (.any l, c) :: r, F, G, h => by
    simp only [takeT] at h
    split at h
    · split at h
      · have := takeT_len r F G h
        simp; omega
      · cases h
    · have := takeT_len r _ G h
      simp at this ⊢; omega
theorem takenT_len {ts : List Term} {cs : List Cell} {F G : Fit} (h : takenT ts cs F = some G) : G.length ≤ F.length + ts.length := by
  unfold takenT at h
  split at h
  · have := takeT_len _ _ _ h
    rw [List.length_zip] at this
    omega
  · cases h
theorem extP_fit {rows : List Row} {p : Pat} {Fs : List Fit} {m : Nat} (h : ∀ F ∈ Fs, F.length ≤ m) : ∀ G ∈ extP rows p Fs, G.length ≤ m + p.2.length := fun G hG => by
  obtain ⟨F, hF, hG⟩ := List.mem_flatMap.mp hG
  obtain ⟨r, _, hr⟩ := List.mem_filterMap.mp hG
  split at hr
  · have := takenT_len hr
    have := h F hF
    omega
  · cases hr
theorem flatMap_le {α β : Type} {f : α → List β} {n : Nat} : ∀ {as : List α}, (∀ a ∈ as, (f a).length ≤ n) → (as.flatMap f).length ≤ as.length * n
  | [], _ => by simp
  | a :: as, h => by
    have ih := flatMap_le (f := f) (n := n) (as := as) fun b m => h b (List.mem_cons_of_mem _ m)
    have h1 := h a List.mem_cons_self
    rw [List.flatMap_cons, List.length_append, List.length_cons, Nat.succ_mul]
    omega
theorem extP_len (rows : List Row) (p : Pat) (Fs : List Fit) : (extP rows p Fs).length ≤ Fs.length * rows.length := flatMap_le fun F _ => List.length_filterMap_le _ _
theorem extP_app (rows : List Row) (p : Pat) (Fs : List Fit) (F : Fit) : extP rows p (Fs ++ [F]) = extP rows p Fs ++ ext1 rows p F := by
  unfold extP
  rw [List.flatMap_append]
  simp
theorem extended_ok (hK : T "taken" = some dTaken) (hT : T "extended" = some dExtended) (k : Nat) (rows : List Row) (ps : List Pat) (Fs : List Fit) (m : Nat) (hm : ∀ F ∈ Fs, F.length ≤ m) (hp : ∀ p ∈ ps, p.2.length ≤ 100) (hb : m + 100 * ps.length ≤ 100000)
    (hn : ∀ j : Nat, j ≤ ps.length → Fs.length * rows.length ^ j < lim) : run T (k + 2) "extended" [.lst (rows.map rD), .lst (ps.map pD), .lst (Fs.map dcF)] = .ok (.lst ((extT rows ps Fs).map dcF)) := by
  refine run_is hT rfl ?_
  have sr : seqD (.lst (rows.map rD)) = .ok (rows.map rD) := rfl
  have sp : seqD (.lst (ps.map pD)) = .ok (ps.map pD) := rfl
  generalize D.lst (rows.map rD) = A at sr
  generalize D.lst (ps.map pD) = B at sp
  show Ev _ _ [some A, some B, some (.lst (Fs.map dcF)), none, none, none, none, none, none, none] _
  refine Ev.loopQ pD ps (fun pre e => e = [some A, some B, some (.lst ((extT rows pre Fs).map dcF)), none, none, none, none, none, none, none] ∧ (∀ F ∈ extT rows pre Fs, F.length ≤ m + 100 * pre.length) ∧ (extT rows pre Fs).length ≤ Fs.length * rows.length ^ pre.length)
    (by simp only [evalE, evalEs, evalAnd, evalOr, evalO, evalC, evalI, varE, asgG, setMany, List.getElem?_cons_zero, List.getElem?_cons_succ, List.set_cons_zero, List.set_cons_succ, R.bind_ok, unbl, unint, lstOf, dicOf, iteT, iteA, iteO, Bool.and_true, Bool.or_false, Bool.and_false, Bool.or_true, Bool.true_and, Bool.false_and, Bool.true_or, Bool.false_or, if_true, Bool.false_eq_true, if_false, Bool.not_true, Bool.not_false, sp] <;> rfl) ⟨rfl, fun F h => by simpa using hm F h, by simp [extT]⟩ ?_ ?_
  · rintro pre p suf _ hs ⟨rfl, hF, hlen⟩
    have hpm : p ∈ ps := by rw [hs]; simp
    have hpl : pre.length < ps.length := by rw [hs]; simp
    have ex : extT rows (pre ++ [p]) Fs = extP rows p (extT rows pre Fs) := by unfold extT; rw [List.foldl_append]; rfl
    rw [ex]
    generalize extT rows pre Fs = Gs at hF hlen
    have hnext : (extP rows p Gs).length ≤ Fs.length * rows.length ^ (pre ++ [p]).length := by
      refine Nat.le_trans (extP_len _ _ _) ?_
      rw [List.length_append, List.length_singleton, Nat.pow_succ, ← Nat.mul_assoc]
      exact Nat.mul_le_mul_right _ hlen
    have hlim : Gs.length * rows.length < lim := by
      have := hn (pre.length + 1) hpl
      rw [Nat.pow_succ, ← Nat.mul_assoc] at this
      exact Nat.lt_of_le_of_lt (Nat.mul_le_mul_right _ hlen) this
    have hp100 := hp p hpm
    have hpm' : m + 100 * (pre.length + 1) ≤ 100000 := by omega
    refine ⟨[some A, some B, some (.lst (Gs.map dcF)), some (.str p.1), some (.tup (p.2.map tD)), none, none, none, none, none], rfl, ?_⟩
    refine Ev.asg (d := .lst []) (by simp only [evalE, evalEs, evalAnd, evalOr, evalO, evalC, evalI, varE, asgG, setMany, List.getElem?_cons_zero, List.getElem?_cons_succ, List.set_cons_zero, List.set_cons_succ, R.bind_ok, unbl, unint, lstOf, dicOf, iteT, iteA, iteO, Bool.and_true, Bool.or_false, Bool.and_false, Bool.or_true, Bool.true_and, Bool.false_and, Bool.true_or, Bool.false_or, if_true, Bool.false_eq_true, if_false, Bool.not_true, Bool.not_false] <;> rfl) ?_
    refine Ev.loopS dcF Gs (fun q => [some A, some B, some (.lst (Gs.map dcF)), some (.str p.1), some (.tup (p.2.map tD)), some (.lst ((extP rows p q).map dcF)), none, none, none, none]) (by simp only [evalE, evalEs, evalAnd, evalOr, evalO, evalC, evalI, varE, asgG, setMany, List.getElem?_cons_zero, List.getElem?_cons_succ, List.set_cons_zero, List.set_cons_succ, R.bind_ok, unbl, unint, lstOf, dicOf, iteT, iteA, iteO, Bool.and_true, Bool.or_false, Bool.and_false, Bool.or_true, Bool.true_and, Bool.false_and, Bool.true_or, Bool.false_or, if_true, Bool.false_eq_true, if_false, Bool.not_true, Bool.not_false, seqD] <;> rfl) rfl ?_ ?_
    · rintro q F q2 hq
      have hFm : F ∈ Gs := by rw [hq]; simp
      have hFl := hF F hFm
      have hql : q.length + 1 ≤ Gs.length := by rw [hq]; simp
      refine ⟨[some A, some B, some (.lst (Gs.map dcF)), some (.str p.1), some (.tup (p.2.map tD)), some (.lst ((extP rows p q).map dcF)), some (dcF F), none, none, none], rfl, ?_⟩
      refine Ev.loopS rD rows (fun u => [some A, some B, some (.lst (Gs.map dcF)), some (.str p.1), some (.tup (p.2.map tD)), some (.lst ((extP rows p q ++ ext1 u p F).map dcF)), some (dcF F), none, none, none]) (by simp only [evalE, evalEs, evalAnd, evalOr, evalO, evalC, evalI, varE, asgG, setMany, List.getElem?_cons_zero, List.getElem?_cons_succ, List.set_cons_zero, List.set_cons_succ, R.bind_ok, unbl, unint, lstOf, dicOf, iteT, iteA, iteO, Bool.and_true, Bool.or_false, Bool.and_false, Bool.or_true, Bool.true_and, Bool.false_and, Bool.true_or, Bool.false_or, if_true, Bool.false_eq_true, if_false, Bool.not_true, Bool.not_false, sr] <;> rfl) ?_ ?_ ?_
      · show (_ : MP.Env) = [some A, some B, some (.lst (Gs.map dcF)), some (.str p.1), some (.tup (p.2.map tD)), some (.lst ((extP rows p q ++ []).map dcF)), some (dcF F), none, none, none]
        rw [List.append_nil]
        rfl
      · rintro u r u2 hu
        have e1 : ext1 (u ++ [r]) p F = ext1 u p F ++ (match (if r.1 = p.1 then takenT p.2 r.2 F else none) with
          | some G => [G]
          | none => []) := by
          unfold ext1
          rw [List.filterMap_append]
          congr 1
          cases h : (if r.1 = p.1 then takenT p.2 r.2 F else none) <;> simp [h]
        refine ⟨[some A, some B, some (.lst (Gs.map dcF)), some (.str p.1), some (.tup (p.2.map tD)), some (.lst ((extP rows p q ++ ext1 u p F).map dcF)), some (dcF F), some (.str r.1), some (.tup (r.2.map cD)), none], rfl, ?_⟩
        refine Ev.ite (p := !decide (r.1 = p.1)) (by simp only [evalE, evalEs, evalAnd, evalOr, evalO, evalC, evalI, varE, asgG, setMany, List.getElem?_cons_zero, List.getElem?_cons_succ, List.set_cons_zero, List.set_cons_succ, R.bind_ok, unbl, unint, lstOf, dicOf, iteT, iteA, iteO, Bool.and_true, Bool.or_false, Bool.and_false, Bool.or_true, Bool.true_and, Bool.false_and, Bool.true_or, Bool.false_or, if_true, Bool.false_eq_true, if_false, Bool.not_true, Bool.not_false, cmpS_ne] <;> rfl) (fun h => ?_) (fun h => Ev.nil ?_)
        · have h : ¬ r.1 = p.1 := by simpa using h
          refine ⟨.ct, _, by rw [evalSs, evalS]; rfl, ?_⟩
          show (_ : MP.Env) = _
          rw [e1, if_neg h, List.append_nil]
          rfl
        · have h : r.1 = p.1 := by simpa using h
          have tk := taken_ok hK k p.2 r.2 F (by show _ < 16777216; omega)
          refine Ev.asg (d := optD (takenT p.2 r.2 F)) (by simp only [evalE, evalEs, evalAnd, evalOr, evalO, evalC, evalI, varE, asgG, setMany, List.getElem?_cons_zero, List.getElem?_cons_succ, List.set_cons_zero, List.set_cons_succ, R.bind_ok, unbl, unint, lstOf, dicOf, iteT, iteA, iteO, Bool.and_true, Bool.or_false, Bool.and_false, Bool.or_true, Bool.true_and, Bool.false_and, Bool.true_or, Bool.false_or, if_true, Bool.false_eq_true, if_false, Bool.not_true, Bool.not_false, tk] <;> rfl) ?_
          rw [if_pos h] at e1
          have ult : u.length < rows.length := by rw [hu]; simp
          have hul : (extP rows p q ++ ext1 u p F).length < lim := by
            rw [List.length_append]
            have a1 := extP_len rows p q
            have a2 : (ext1 u p F).length ≤ u.length := List.length_filterMap_le _ _
            have a3 : (q.length + 1) * rows.length ≤ Gs.length * rows.length := Nat.mul_le_mul_right _ hql
            rw [Nat.succ_mul] at a3
            omega
          refine Ev.ite (p := (takenT p.2 r.2 F).isSome) (by simp only [evalE, evalEs, evalAnd, evalOr, evalO, evalC, evalI, varE, asgG, setMany, List.getElem?_cons_zero, List.getElem?_cons_succ, List.set_cons_zero, List.set_cons_succ, R.bind_ok, unbl, unint, lstOf, dicOf, iteT, iteA, iteO, Bool.and_true, Bool.or_false, Bool.and_false, Bool.or_true, Bool.true_and, Bool.false_and, Bool.true_or, Bool.false_or, if_true, Bool.false_eq_true, if_false, Bool.not_true, Bool.not_false, isnot_opt] <;> rfl) (fun h2 => ?_) (fun h2 => ?_)
          · obtain ⟨G, hG⟩ := Option.isSome_iff_exists.mp h2
            rw [hG] at e1 ⊢
            refine Ev.app (v := dcF G) rfl (by simp only [evalE, evalEs, evalAnd, evalOr, evalO, evalC, evalI, varE, asgG, setMany, List.getElem?_cons_zero, List.getElem?_cons_succ, List.set_cons_zero, List.set_cons_succ, R.bind_ok, unbl, unint, lstOf, dicOf, iteT, iteA, iteO, Bool.and_true, Bool.or_false, Bool.and_false, Bool.or_true, Bool.true_and, Bool.false_and, Bool.true_or, Bool.false_or, if_true, Bool.false_eq_true, if_false, Bool.not_true, Bool.not_false, optD] <;> rfl) (by rw [List.length_map]; exact hul) (Ev.nil (Ev.nil ?_))
            show (_ : MP.Env) = _
            rw [e1, ← List.append_assoc, List.map_append (l₂ := [G])]
            rfl
          · have hG : takenT p.2 r.2 F = none := by simpa using h2
            rw [hG] at e1 ⊢
            refine Ev.nil (Ev.nil ?_)
            show (_ : MP.Env) = _
            rw [e1, List.append_nil]
            rfl
      · refine Ev.nil ?_
        show (_ : MP.Env) = _
        rw [extP_app]
        rfl
    · refine Ev.step (r1 := [some A, some B, some (.lst (Gs.map dcF)), some (.str p.1), some (.tup (p.2.map tD)), some (.lst ((extP rows p Gs).map dcF)), none, none, none, none]) (by rw [evalS]) ?_
      refine Ev.asg (d := .lst ((extP rows p Gs).map dcF)) (by simp only [evalE, evalEs, evalAnd, evalOr, evalO, evalC, evalI, varE, asgG, setMany, List.getElem?_cons_zero, List.getElem?_cons_succ, List.set_cons_zero, List.set_cons_succ, R.bind_ok, unbl, unint, lstOf, dicOf, iteT, iteA, iteO, Bool.and_true, Bool.or_false, Bool.and_false, Bool.or_true, Bool.true_and, Bool.false_and, Bool.true_or, Bool.false_or, if_true, Bool.false_eq_true, if_false, Bool.not_true, Bool.not_false] <;> rfl) (Ev.nil ⟨rfl, fun G hG => ?_, hnext⟩)
      have := extP_fit hF G hG
      rw [List.length_append, List.length_singleton]
      omega
  · rintro _ ⟨rfl, _, _⟩
    exact Ev.ret (d := .lst ((extT rows ps Fs).map dcF)) (by simp only [evalE, evalEs, evalAnd, evalOr, evalO, evalC, evalI, varE, asgG, setMany, List.getElem?_cons_zero, List.getElem?_cons_succ, List.set_cons_zero, List.set_cons_succ, R.bind_ok, unbl, unint, lstOf, dicOf, iteT, iteA, iteO, Bool.and_true, Bool.or_false, Bool.and_false, Bool.or_true, Bool.true_and, Bool.false_and, Bool.true_or, Bool.false_or, if_true, Bool.false_eq_true, if_false, Bool.not_true, Bool.not_false] <;> rfl) rfl
end
end LC
/-! fits, and what is broken: what they reckon. -/
namespace LC
open PySem MP
variable {V : Nat → D → Prop}

theorem fD_inj {a b : Bnd} : fD a = fD b ↔ a = b := by
  constructor
  · intro h
    unfold fD at h
    simp only [D.tup.injEq, List.cons.injEq, D.str.injEq, and_true] at h
    exact Prod.ext h.1 (cD_inj.mp h.2)
  · rintro rfl; rfl
theorem fitD_inj {a b : Fit} : fitD a = fitD b ↔ a = b := by
  unfold fitD
  rw [D.lst.injEq]
  exact map_inj fD_inj
theorem plN_fitD (n : Nat) (F : Fit) : plainN (n + 3) (fitD F) = true := plN_map (plN_fD n) F
theorem ltN_fD (n : Nat) (a b : Bnd) : Oks (ltN (n + 2) (fD a) (fD b)) := by
  show Oks (ltGo (n + 1) _ _)
  refine ltGo_cons rfl rfl (fun _ => ?_) (fun _ => ltN_str _ _ _)
  exact ltGo_cons (plN_cD 29 a.2) (plN_cD 29 b.2) (fun _ => ltGo_nil _) fun _ => ltN_cD n a.2 b.2
theorem ltGo_fits (n : Nat) : ∀ xs ys : Fit, Oks (ltGo (n + 2) (xs.map fD) (ys.map fD))
  | [], [] => ltGo_nil _
  | [], _ :: _ => ⟨true, by rw [List.map_nil, List.map_cons, ltGo]⟩
  | _ :: _, [] => ⟨false, by rw [List.map_nil, List.map_cons, ltGo]⟩
  | x :: xs, y :: ys => ltGo_cons (plN_fD 28 x) (plN_fD 28 y) (fun _ => ltGo_fits n xs ys) fun _ => ltN_fD n x y
theorem allOk_fits (n : Nat) : ∀ xs ys : Fit, allOk (n + 2) (xs.map fD) (ys.map fD) = true
  | [], ys => by cases ys <;> simp [allOk]
  | _ :: _, [] => by simp [allOk]
  | x :: xs, y :: ys => by
    rw [List.map_cons, List.map_cons, allOk, allOk_fits n xs ys]
    obtain ⟨b, h⟩ := ltN_fD n x y
    rw [h]; rfl
theorem cmp_fD (a b : Bnd) : cmpOk (fD a) (fD b) = true := by
  obtain ⟨c, h⟩ := ltN_fD 28 a b
  unfold cmpOk ltD
  rw [h]
theorem cmp_fitD (a b : Fit) : cmpOk (fitD a) (fitD b) = true := by
  have h : Oks (ltD (fitD a) (fitD b)) := by
    show Oks (if allOk 29 (a.map fD) (b.map fD) = true then ltGo 29 (a.map fD) (b.map fD) else .bad)
    rw [allOk_fits 27 a b, if_pos rfl]
    exact ltGo_fits 27 a b
  obtain ⟨c, h⟩ := h
  unfold cmpOk
  rw [h]
theorem sort_of {α : Type} (f : α → D) (k k1 : Nat) (h0 : k ≠ 0) (h1 : k1 ≠ 0) (h4 : k1 ≠ 4) (hk : ∀ a, kindD (f a) = k ∧ kind1 (f a) = k1 ∧ MP.plain (f a) = true) (hc : ∀ a b, cmpOk (f a) (f b) = true) (as : List α) : sortOk (as.map f) = true := by
  unfold sortOk
  rw [Bool.or_eq_true]
  right
  rw [List.all_eq_true]
  intro d hd
  obtain ⟨s, _, rfl⟩ := List.mem_map.mp hd
  obtain ⟨a1, a2, a3⟩ := hk s
  simp only [Bool.and_eq_true, List.all_eq_true, a1, a2, a3]
  refine ⟨⟨⟨⟨by simpa using h0, by simpa using h1⟩, by simpa using h4⟩, trivial⟩, fun e he => ?_⟩
  obtain ⟨t, _, rfl⟩ := List.mem_map.mp he
  obtain ⟨b1, b2, _⟩ := hk t
  rw [b1, b2]
  exact ⟨⟨by simp, by simp⟩, hc s t⟩
theorem sort_fit (F : Fit) : sortOk (F.map fD) = true := sort_of fD 3 2 (by decide) (by decide) (by decide) (fun a => ⟨rfl, rfl, plN_fD 28 a⟩) cmp_fD F
theorem sort_fits (Fs : List Fit) : sortOk (Fs.map fitD) = true := sort_of fitD 4 7 (by decide) (by decide) (by decide) (fun a => ⟨rfl, rfl, plN_fitD 27 a⟩) cmp_fitD Fs
theorem eqD_fits (a b : Fit) : eqD (fitD a) (fitD b) = .ok (decide (a = b)) := by
  rw [eqD_plain (plN_fitD 27 a) (plN_fitD 27 b)]
  congr 1
  exact decide_eq_decide.mpr fitD_inj
theorem eqD_fitss (a b : List Fit) : eqD (.lst (a.map fitD)) (.lst (b.map fitD)) = .ok (decide (a = b)) := by
  rw [eqD_plain (plN_map (plN_fitD 26) a) (plN_map (plN_fitD 26) b)]
  congr 1
  refine decide_eq_decide.mpr ?_
  rw [D.lst.injEq]
  exact map_inj fitD_inj
theorem in_fits (F : Fit) (Fs : List Fit) : inD (fitD F) (.lst (Fs.map fitD)) = .ok (decide (F ∈ Fs)) := by
  have hall : (Fs.map fitD).all MP.plain = true := by
    rw [List.all_eq_true]
    intro d hd
    obtain ⟨t, _, rfl⟩ := List.mem_map.mp hd
    exact plN_fitD 27 t
  rw [in_plain (plN_fitD 27 F) hall (fun _ => .inr trivial), any_map fitD_inj]
/-- a fit's cells by their letters, in order -/
def ordF (F : Fit) : Fit := srtBy fD F
def fitsT (rows : List Row) (body : List Pat) : List Fit := srtBy fitD ((extT rows body [[]]).map ordF)
section
variable {T : Str → Option Def}
def dFits : MP.Def := { np := 2, N := ["rows", "body", "fit"], own := [.sh, .sh, .sh], ro := .nl, body := (.cons (.ret (.bi .sorted (.cons (.comp (.nm 2) (.of (.call "extended" (.cons (.var 0) (.cons (.var 1) (.cons (.lst (.cons .edic .nil)) .nil))))) .no (.bi .sortedItems (.cons (.var 2) .nil))) .nil))) .nil) }
/-- not too many ways -/
def Few (rows : List Row) (ps : List Pat) : Prop := (∀ p ∈ ps, p.2.length ≤ 100) ∧ ps.length ≤ 900 ∧ ∀ j : Nat, j ≤ ps.length → rows.length ^ j < lim
theorem items_dcF (F : Fit) : biD .sortedItems [dcF F] = .ok (fitD (ordF F)) := by
  show (if _ then sortD _ else R.bad) = _
  rw [if_pos (dcF_flat F), List.map_map]
  show sortD (F.map fD) = _
  unfold sortD
  rw [if_pos (sort_fit F), srtBy_map]
  rfl
theorem extT_len {rows : List Row} : ∀ (ps : List Pat) (Fs : List Fit), (extT rows ps Fs).length ≤ Fs.length * rows.length ^ ps.length
  | [], Fs => by simp [extT]
  | p :: ps, Fs => by
    show (extT rows ps (extP rows p Fs)).length ≤ _
    refine Nat.le_trans (extT_len ps _) ?_
    rw [List.length_cons, Nat.pow_succ, Nat.mul_comm (rows.length ^ ps.length), ← Nat.mul_assoc]
    exact Nat.mul_le_mul_right _ (extP_len _ _ _)
theorem fits_ok (hK : T "taken" = some dTaken) (hE : T "extended" = some dExtended) (hT : T "fits" = some dFits) (k : Nat) (rows : List Row) (body : List Pat) (hf : Few rows body) :
    run T (k + 3) "fits" [.lst (rows.map rD), .lst (body.map pD)] = .ok (.lst ((fitsT rows body).map fitD)) := by
  obtain ⟨h1, h2, h3⟩ := hf
  refine run_is hT rfl ?_
  have ex := extended_ok hK hE k rows body [[]] 0 (fun F m => by rw [List.mem_singleton.mp m]; exact Nat.le_refl _) h1 (by omega) (fun j hj => by rw [List.length_singleton, Nat.one_mul]; exact h3 j hj)
  generalize D.lst (rows.map rD) = A at ex
  generalize D.lst (body.map pD) = B at ex
  show Ev _ _ [some A, some B, none] _
  have e0 : D.lst (([[]] : List Fit).map dcF) = .lst [.dic []] := rfl
  rw [e0] at ex
  have hl := extT_len (rows := rows) body [[]]
  rw [List.length_singleton, Nat.one_mul] at hl
  have c := ev_compM (F := run T (k + 2)) (g := .nm 2) (it := .of (.call "extended" (.cons (.var 0) (.cons (.var 1) (.cons (.lst (.cons .edic .nil)) .nil))))) (e := .bi .sortedItems (.cons (.var 2) .nil)) (r := [some A, some B, none]) (f := dcF) (as := extT rows body [[]]) (fun F => fitD (ordF F))
    (by simp only [evalE, evalEs, evalAnd, evalOr, evalO, evalC, evalI, varE, asgG, setMany, List.getElem?_cons_zero, List.getElem?_cons_succ, List.set_cons_zero, List.set_cons_succ, R.bind_ok, unbl, unint, lstOf, dicOf, iteT, iteA, iteO, Bool.and_true, Bool.or_false, Bool.and_false, Bool.or_true, Bool.true_and, Bool.false_and, Bool.true_or, Bool.false_or, if_true, Bool.false_eq_true, if_false, Bool.not_true, Bool.not_false, ex, seqD] <;> rfl) (fun F _ => ⟨[some A, some B, some (dcF F)], rfl, (by simp only [evalE, evalEs, evalAnd, evalOr, evalO, evalC, evalI, varE, asgG, setMany, List.getElem?_cons_zero, List.getElem?_cons_succ, List.set_cons_zero, List.set_cons_succ, R.bind_ok, unbl, unint, lstOf, dicOf, iteT, iteA, iteO, Bool.and_true, Bool.or_false, Bool.and_false, Bool.or_true, Bool.true_and, Bool.false_and, Bool.true_or, Bool.false_or, if_true, Bool.false_eq_true, if_false, Bool.not_true, Bool.not_false, items_dcF] <;> rfl)⟩) (Nat.le_of_lt (Nat.lt_of_le_of_lt hl (h3 _ (Nat.le_refl _))))
  refine Ev.ret (d := .lst ((fitsT rows body).map fitD)) ?_ rfl
  rw [evalE, evalEs, c, evalEs]
  show biD .sorted [.lst ((extT rows body [[]]).map fun F => fitD (ordF F))] = _
  rw [show ((extT rows body [[]]).map fun F => fitD (ordF F)) = ((extT rows body [[]]).map ordF).map fitD by rw [List.map_map]; rfl]
  show sortD _ = _
  unfold sortD
  rw [if_pos (sort_fits _), srtBy_map]
  rfl

/-! ### a term's cell -/
def dCellOf : MP.Def := { np := 2, N := ["term", "fit"], own := [.sh, .sh], ro := .sh, body := (.cons (.ifs (.cmp .eq (.idx (.var 0) (.int 0)) (.str "any")) (.cons (.ret (.idx (.bi .dict (.cons (.var 1) .nil)) (.idx (.var 0) (.int 1)))) .nil) .nil) (.cons (.ret (.var 0)) .nil)) }
theorem cellOf_ok (hT : T "cell_of" = some dCellOf) (k : Nat) (t : Term) (F : Fit) (h : ∀ l, t = .any l → (lastK F l).isSome = true) : run T (k + 1) "cell_of" [tD t, fitD F] = .ok (cD (flT F t)) := by
  refine run_is hT rfl ?_
  obtain ⟨kvs, e1, g1, g2, _⟩ := dict_ok D.str cD fD (fun _ => rfl) strD_inj (fun _ => rfl) F
  have e1 : biD .dict [fitD F] = .ok (.dic kvs) := e1
  generalize fitD F = B at e1
  show Ev _ _ [some (tD t), some B] _
  cases t with
  | any l =>
    have gt : idxD (.dic kvs) (.str l) = .ok (cD (flT F (.any l))) := by
      show (if keyFor kvs (.str l) then R.of (getKV kvs (.str l)) else .bad) = _
      rw [keyFor_ok g2 rfl, if_pos rfl, g1]
      have := h l rfl
      show _ = R.ok (cD ((lastK F l).getD _))
      cases h : lastK F l with
      | none => rw [h] at this; cases this
      | some c => rfl
    refine Ev.tt (by simp only [evalE, evalEs, evalAnd, evalOr, evalO, evalC, evalI, varE, asgG, setMany, List.getElem?_cons_zero, List.getElem?_cons_succ, List.set_cons_zero, List.set_cons_succ, R.bind_ok, unbl, unint, lstOf, dicOf, iteT, iteA, iteO, Bool.and_true, Bool.or_false, Bool.and_false, Bool.or_true, Bool.true_and, Bool.false_and, Bool.true_or, Bool.false_or, if_true, Bool.false_eq_true, if_false, Bool.not_true, Bool.not_false, termD_0, cmpS_qaa] <;> rfl) ?_
    exact Ev.ret (d := cD (flT F (.any l))) (by simp only [evalE, evalEs, evalAnd, evalOr, evalO, evalC, evalI, varE, asgG, setMany, List.getElem?_cons_zero, List.getElem?_cons_succ, List.set_cons_zero, List.set_cons_succ, R.bind_ok, unbl, unint, lstOf, dicOf, iteT, iteA, iteO, Bool.and_true, Bool.or_false, Bool.and_false, Bool.or_true, Bool.true_and, Bool.false_and, Bool.true_or, Bool.false_or, if_true, Bool.false_eq_true, if_false, Bool.not_true, Bool.not_false, e1, termD_1, gt] <;> rfl) rfl
  | nm s =>
    refine Ev.ff (by simp only [evalE, evalEs, evalAnd, evalOr, evalO, evalC, evalI, varE, asgG, setMany, List.getElem?_cons_zero, List.getElem?_cons_succ, List.set_cons_zero, List.set_cons_succ, R.bind_ok, unbl, unint, lstOf, dicOf, iteT, iteA, iteO, Bool.and_true, Bool.or_false, Bool.and_false, Bool.or_true, Bool.true_and, Bool.false_and, Bool.true_or, Bool.false_or, if_true, Bool.false_eq_true, if_false, Bool.not_true, Bool.not_false, termD_0, cmpS_qna] <;> rfl) (Ev.nil ?_)
    exact Ev.ret (d := cD (flT F (.nm s))) (by simp only [evalE, evalEs, evalAnd, evalOr, evalO, evalC, evalI, varE, asgG, setMany, List.getElem?_cons_zero, List.getElem?_cons_succ, List.set_cons_zero, List.set_cons_succ, R.bind_ok, unbl, unint, lstOf, dicOf, iteT, iteA, iteO, Bool.and_true, Bool.or_false, Bool.and_false, Bool.or_true, Bool.true_and, Bool.false_and, Bool.true_or, Bool.false_or, if_true, Bool.false_eq_true, if_false, Bool.not_true, Bool.not_false] <;> rfl) rfl

/-! ### whether a fit goes on -/
def dGoesOn : MP.Def := { np := 3, N := ["rows", "patterns", "fit", "table", "terms", "name", "cells", "found"], own := [.sh, .sh, .sh, .sh, .sh, .sh, .sh, .sh], ro := .sh, body := (.cons (.ifs (.cmp .eq (.var 1) (.lst .nil)) (.cons (.ret (.bl true)) .nil) .nil) (.cons (.asg (.tp [3, 4]) (.idx (.var 1) (.int 0))) (.cons (.loop (.tp [5, 6]) (.of (.var 0)) [5, 6, 7] (.cons (.ifs (.cmp .eq (.var 5) (.var 3)) (.cons (.asg (.nm 7) (.call "taken" (.cons (.var 4) (.cons (.var 6) (.cons (.var 2) .nil))))) (.cons (.ifs (.and (.cons (.cmp .isnot (.var 7) .non) (.cons (.call "goes_on" (.cons (.var 0) (.cons (.sl (.var 1) (.yes (.int 1)) .no) (.cons (.var 7) .nil)))) .nil))) (.cons (.ret (.bl true)) .nil) .nil) .nil)) .nil) .nil)) (.cons (.ret (.bl false)) .nil)))) }
def goesT (rows : List Row) : List Pat → Fit → Bool
  | [], _ => true
  | p :: ps, F => rows.any fun r => decide (r.1 = p.1) && (match takenT p.2 r.2 F with
    | some G => goesT rows ps G
    | none => false)
theorem pats_eq (ps : List Pat) : cmpD .eq (.lst (ps.map pD)) (.lst []) = .ok (decide (ps = [])) := by
  have p1 : MP.plain (.lst (ps.map pD)) = true := plN_map (plN_pD 26) ps
  rw [cmp_eq, eqD_plain p1 rfl]
  congr 1
  refine decide_eq_decide.mpr ?_
  rw [D.lst.injEq]
  cases ps <;> simp
theorem goes_ok (hK : T "taken" = some dTaken) (hT : T "goes_on" = some dGoesOn) (rows : List Row) : ∀ (ps : List Pat) (k : Nat) (F : Fit), ps.length < k → (∀ p ∈ ps, p.2.length ≤ 100) → F.length + 100 * ps.length ≤ 1000000 →
    run T (k + 1) "goes_on" [.lst (rows.map rD), .lst (ps.map pD), dcF F] = .ok (.bl (goesT rows ps F))
  | [], k, F, _, _, _ => by
    refine run_is hT rfl ?_
    have e1 := pats_eq []
    rw [decide_eq_true rfl] at e1
    show Ev _ _ [some (.lst (rows.map rD)), some (.lst ([].map pD)), some (dcF F), none, none, none, none, none] _
    exact Ev.tt (by simp only [evalE, evalEs, evalAnd, evalOr, evalO, evalC, evalI, varE, asgG, setMany, List.getElem?_cons_zero, List.getElem?_cons_succ, List.set_cons_zero, List.set_cons_succ, R.bind_ok, unbl, unint, lstOf, dicOf, iteT, iteA, iteO, Bool.and_true, Bool.or_false, Bool.and_false, Bool.or_true, Bool.true_and, Bool.false_and, Bool.true_or, Bool.false_or, if_true, Bool.false_eq_true, if_false, Bool.not_true, Bool.not_false, e1] <;> rfl) (Ev.ret (d := .bl true) (by simp only [evalE, evalEs, evalAnd, evalOr, evalO, evalC, evalI, varE, asgG, setMany, List.getElem?_cons_zero, List.getElem?_cons_succ, List.set_cons_zero, List.set_cons_succ, R.bind_ok, unbl, unint, lstOf, dicOf, iteT, iteA, iteO, Bool.and_true, Bool.or_false, Bool.and_false, Bool.or_true, Bool.true_and, Bool.false_and, Bool.true_or, Bool.false_or, if_true, Bool.false_eq_true, if_false, Bool.not_true, Bool.not_false] <;> rfl) rfl)
  | p :: ps, k, F, hk, hp, hb => by
    obtain ⟨k, rfl⟩ : ∃ j, k = j + 1 := ⟨k - 1, by rw [List.length_cons] at hk; omega⟩
    refine run_is hT rfl ?_
    have e1 := pats_eq (p :: ps)
    rw [decide_eq_false (fun z => nomatch z)] at e1
    have ih := fun G (hG : G.length + 100 * ps.length ≤ 1000000) => goes_ok hK hT rows ps k G (by rw [List.length_cons] at hk; omega) (fun q m => hp q (List.mem_cons_of_mem _ m)) hG
    have i0 : idxD (.lst ((p :: ps).map pD)) (.int 0) = .ok (pD p) := rfl
    have sl : sliD (.lst ((p :: ps).map pD)) (some 1) none = .ok (.lst (ps.map pD)) := by
      show R.ok (D.lst (sliceL _ _ _)) = _
      rw [List.map_cons]
      have : sliceL (pD p :: ps.map pD) (some 1) none = ps.map pD := by
        unfold sliceL
        have a1 : HT.sIx (pD p :: ps.map pD).length 0 (some 1) = 1 := by simp [HT.sIx]
        have a2 : HT.sIx (pD p :: ps.map pD).length (pD p :: ps.map pD).length none = (pD p :: ps.map pD).length := by simp [HT.sIx]
        rw [a1, a2]
        simp [List.take_of_length_le]
      rw [this]
    have sr : seqD (.lst (rows.map rD)) = .ok (rows.map rD) := rfl
    generalize D.lst (rows.map rD) = A at *
    generalize D.lst ((p :: ps).map pD) = B at *
    show Ev _ _ [some A, some B, some (dcF F), none, none, none, none, none] _
    refine Ev.ff (by simp only [evalE, evalEs, evalAnd, evalOr, evalO, evalC, evalI, varE, asgG, setMany, List.getElem?_cons_zero, List.getElem?_cons_succ, List.set_cons_zero, List.set_cons_succ, R.bind_ok, unbl, unint, lstOf, dicOf, iteT, iteA, iteO, Bool.and_true, Bool.or_false, Bool.and_false, Bool.or_true, Bool.true_and, Bool.false_and, Bool.true_or, Bool.false_or, if_true, Bool.false_eq_true, if_false, Bool.not_true, Bool.not_false, e1] <;> rfl) (Ev.nil ?_)
    refine Ev.asgT (ds := [.str p.1, .tup (p.2.map tD)]) (by simp only [evalE, evalEs, evalAnd, evalOr, evalO, evalC, evalI, varE, asgG, setMany, List.getElem?_cons_zero, List.getElem?_cons_succ, List.set_cons_zero, List.set_cons_succ, R.bind_ok, unbl, unint, lstOf, dicOf, iteT, iteA, iteO, Bool.and_true, Bool.or_false, Bool.and_false, Bool.or_true, Bool.true_and, Bool.false_and, Bool.true_or, Bool.false_or, if_true, Bool.false_eq_true, if_false, Bool.not_true, Bool.not_false, i0, pD] <;> rfl) rfl ?_
    show Ev _ _ [some A, some B, some (dcF F), some (.str p.1), some (.tup (p.2.map tD)), none, none, none] _
    have hp1 := hp p List.mem_cons_self
    rw [List.length_cons] at hb
    refine Ev.loopQ rD rows (fun pre e => e = [some A, some B, some (dcF F), some (.str p.1), some (.tup (p.2.map tD)), none, none, none] ∧ (pre.any fun r => decide (r.1 = p.1) && (match takenT p.2 r.2 F with
      | some G => goesT rows ps G
      | none => false)) = false) (by simp only [evalE, evalEs, evalAnd, evalOr, evalO, evalC, evalI, varE, asgG, setMany, List.getElem?_cons_zero, List.getElem?_cons_succ, List.set_cons_zero, List.set_cons_succ, R.bind_ok, unbl, unint, lstOf, dicOf, iteT, iteA, iteO, Bool.and_true, Bool.or_false, Bool.and_false, Bool.or_true, Bool.true_and, Bool.false_and, Bool.true_or, Bool.false_or, if_true, Bool.false_eq_true, if_false, Bool.not_true, Bool.not_false, sr] <;> rfl) ⟨rfl, rfl⟩ ?_ ?_
    · rintro pre r suf _ hs ⟨rfl, hf⟩
      refine ⟨[some A, some B, some (dcF F), some (.str p.1), some (.tup (p.2.map tD)), some (.str r.1), some (.tup (r.2.map cD)), none], rfl, ?_⟩
      have yes : (decide (r.1 = p.1) && (match takenT p.2 r.2 F with
          | some G => goesT rows ps G
          | none => false)) = true → goesT rows (p :: ps) F = true := fun h => by
        show (rows.any _) = true
        exact List.any_eq_true.mpr ⟨r, by rw [hs]; simp, h⟩
      have no : (decide (r.1 = p.1) && (match takenT p.2 r.2 F with
          | some G => goesT rows ps G
          | none => false)) = false → ((pre ++ [r]).any fun r => decide (r.1 = p.1) && (match takenT p.2 r.2 F with
          | some G => goesT rows ps G
          | none => false)) = false := fun h => by
        rw [List.any_append, hf, Bool.false_or, List.any_cons, List.any_nil, Bool.or_false]
        exact h
      refine Ev.ite (p := decide (r.1 = p.1)) (by simp only [evalE, evalEs, evalAnd, evalOr, evalO, evalC, evalI, varE, asgG, setMany, List.getElem?_cons_zero, List.getElem?_cons_succ, List.set_cons_zero, List.set_cons_succ, R.bind_ok, unbl, unint, lstOf, dicOf, iteT, iteA, iteO, Bool.and_true, Bool.or_false, Bool.and_false, Bool.or_true, Bool.true_and, Bool.false_and, Bool.true_or, Bool.false_or, if_true, Bool.false_eq_true, if_false, Bool.not_true, Bool.not_false, cmpS_eq] <;> rfl) (fun h => ?_) (fun h => ?_)
      · have tk := taken_ok hK k p.2 r.2 F (by show _ < 16777216; omega)
        refine Ev.asg (d := optD (takenT p.2 r.2 F)) (by simp only [evalE, evalEs, evalAnd, evalOr, evalO, evalC, evalI, varE, asgG, setMany, List.getElem?_cons_zero, List.getElem?_cons_succ, List.set_cons_zero, List.set_cons_succ, R.bind_ok, unbl, unint, lstOf, dicOf, iteT, iteA, iteO, Bool.and_true, Bool.or_false, Bool.and_false, Bool.or_true, Bool.true_and, Bool.false_and, Bool.true_or, Bool.false_or, if_true, Bool.false_eq_true, if_false, Bool.not_true, Bool.not_false, tk] <;> rfl) ?_
        cases hG : takenT p.2 r.2 F with
        | none =>
          rw [hG] at yes no
          refine Ev.ff (by simp only [evalE, evalEs, evalAnd, evalOr, evalO, evalC, evalI, varE, asgG, setMany, List.getElem?_cons_zero, List.getElem?_cons_succ, List.set_cons_zero, List.set_cons_succ, R.bind_ok, unbl, unint, lstOf, dicOf, iteT, iteA, iteO, Bool.and_true, Bool.or_false, Bool.and_false, Bool.or_true, Bool.true_and, Bool.false_and, Bool.true_or, Bool.false_or, if_true, Bool.false_eq_true, if_false, Bool.not_true, Bool.not_false, isnot_opt, Option.isSome_none]) (Ev.nil (Ev.nil (Ev.nil ⟨rfl, no (by simp)⟩)))
        | some G =>
          rw [hG] at yes no
          have hl := takenT_len hG
          have go := ih G (by omega)
          refine Ev.ite (p := goesT rows ps G) ?_ (fun h2 => ?_) (fun h2 => ?_)
          · have e2 : optD (some G) = dcF G := rfl
            rw [e2]
            have e3 : cmpD .isnot (dcF G) .non = .ok true := rfl
            simp only [evalE, evalEs, evalAnd, evalOr, evalO, evalC, evalI, varE, asgG, setMany, List.getElem?_cons_zero, List.getElem?_cons_succ, List.set_cons_zero, List.set_cons_succ, R.bind_ok, unbl, unint, lstOf, dicOf, iteT, iteA, iteO, Bool.and_true, Bool.or_false, Bool.and_false, Bool.or_true, Bool.true_and, Bool.false_and, Bool.true_or, Bool.false_or, if_true, Bool.false_eq_true, if_false, Bool.not_true, Bool.not_false, e3, sl, go]
          · refine Ev.ret (d := .bl true) (by simp only [evalE, evalEs, evalAnd, evalOr, evalO, evalC, evalI, varE, asgG, setMany, List.getElem?_cons_zero, List.getElem?_cons_succ, List.set_cons_zero, List.set_cons_succ, R.bind_ok, unbl, unint, lstOf, dicOf, iteT, iteA, iteO, Bool.and_true, Bool.or_false, Bool.and_false, Bool.or_true, Bool.true_and, Bool.false_and, Bool.true_or, Bool.false_or, if_true, Bool.false_eq_true, if_false, Bool.not_true, Bool.not_false] <;> rfl) ?_
            show Fl.rt _ = Fl.rt _
            rw [yes (by show (decide (r.1 = p.1) && goesT rows ps G) = true; rw [h, h2]; rfl)]
          · exact Ev.nil (Ev.nil (Ev.nil ⟨rfl, no (by show (decide (r.1 = p.1) && goesT rows ps G) = false; rw [h2, Bool.and_false])⟩))
      · exact Ev.nil (Ev.nil ⟨rfl, no (by rw [h]; rfl)⟩)
    · rintro _ ⟨rfl, hf⟩
      refine Ev.ret (d := .bl false) (by simp only [evalE, evalEs, evalAnd, evalOr, evalO, evalC, evalI, varE, asgG, setMany, List.getElem?_cons_zero, List.getElem?_cons_succ, List.set_cons_zero, List.set_cons_succ, R.bind_ok, unbl, unint, lstOf, dicOf, iteT, iteA, iteO, Bool.and_true, Bool.or_false, Bool.and_false, Bool.or_true, Bool.true_and, Bool.false_and, Bool.true_or, Bool.false_or, if_true, Bool.false_eq_true, if_false, Bool.not_true, Bool.not_false] <;> rfl) ?_
      show Fl.rt _ = Fl.rt (.bl (rows.any _))
      rw [hf]
end
end LC
/-! fits: just those that fit, each once, in order. -/
namespace LC
open PySem MP
variable {V : Nat → D → Prop}

abbrev keysF (F : Fit) : List Str := F.map (·.1)
theorem keysF_cons (p : Bnd) (F : Fit) : keysF (p :: F) = p.1 :: keysF F := rfl
theorem keysF_app (F E : Fit) : keysF (F ++ E) = keysF F ++ keysF E := List.map_append
theorem lookup_none {F : Fit} {x : Str} : F.lookup x = none ↔ x ∉ keysF F := by
  induction F with
  | nil => simp
  | cons p F ih =>
    obtain ⟨a, c⟩ := p
    rw [List.lookup_cons]
    by_cases h : x = a
    · subst h; simp
    · have : (x == a) = false := by simpa using h
      rw [this]
      simp only [List.map_cons, List.mem_cons, h, false_or]
      exact ih
theorem lookup_mem {F : Fit} {x : Str} {c : Cell} (h : F.lookup x = some c) : (x, c) ∈ F := by
  induction F with
  | nil => cases h
  | cons p F ih =>
    obtain ⟨a, c'⟩ := p
    rw [List.lookup_cons] at h
    by_cases e : x = a
    · subst e
      simp at h
      subst h
      exact List.mem_cons_self
    · have : (x == a) = false := by simpa using e
      rw [this] at h
      exact List.mem_cons_of_mem _ (ih h)
theorem lookup_of {F : Fit} (hn : (keysF F).Nodup) {x : Str} {c : Cell} (h : (x, c) ∈ F) : F.lookup x = some c := by
  induction F with
  | nil => cases h
  | cons p F ih =>
    obtain ⟨a, c'⟩ := p
    rw [keysF_cons, List.nodup_cons] at hn
    rw [List.lookup_cons]
    rcases List.mem_cons.mp h with e | h
    · cases e; simp
    · have : x ≠ a := fun e => hn.1 (List.mem_map.mpr ⟨(x, c), h, e⟩)
      have : (x == a) = false := by simpa using this
      rw [this]
      exact ih hn.2 h
theorem lookup_iff {F : Fit} (hn : (keysF F).Nodup) {x : Str} {c : Cell} : F.lookup x = some c ↔ (x, c) ∈ F := ⟨lookup_mem, lookup_of hn⟩
theorem lastK_lookup {F : Fit} (hn : (keysF F).Nodup) (x : Str) : lastK F x = F.lookup x := by
  cases h : F.lookup x with
  | some c =>
    have hm := lookup_mem h
    obtain ⟨c', h'⟩ := Option.isSome_iff_exists.mp (lastK_some hm)
    rw [h']
    have := lookup_of hn (lastK_mem h')
    rw [this] at h
    exact h
  | none =>
    cases h' : lastK F x with
    | none => rfl
    | some c =>
      have := lookup_of hn (lastK_mem h')
      rw [this] at h; cases h
theorem lookup_app {F E : Fit} {x : Str} : (F ++ E).lookup x = match F.lookup x with
    | some c => some c
    | none => E.lookup x := by
  induction F with
  | nil => rfl
  | cons p F ih =>
    obtain ⟨a, c⟩ := p
    rw [List.cons_append, List.lookup_cons, List.lookup_cons]
    cases h : x == a with
    | true => rfl
    | false => exact ih
/-- G has all that F has -/
def Ext (F G : Fit) : Prop := ∀ x c, F.lookup x = some c → G.lookup x = some c
theorem Ext.refl (F : Fit) : Ext F F := fun _ _ h => h
theorem Ext.trans {F G H : Fit} (a : Ext F G) (b : Ext G H) : Ext F H := fun x c h => b x c (a x c h)
theorem Ext.app (F E : Fit) : Ext F (F ++ E) := fun x c h => by rw [lookup_app, h]
/-- a term is the cell by F -/
def Goes (F : Fit) : Term → Cell → Prop
  | .nm s, c => c = .name s
  | .any x, c => F.lookup x = some c
theorem Goes.ext {F G : Fit} (e : Ext F G) {t : Term} {c : Cell} (h : Goes F t c) : Goes G t c := by
  cases t with
  | nm s => exact h
  | any x => exact e x c h
theorem takeT_sound : ∀ (l : List (Term × Cell)) (F G : Fit), takeT l F = some G → (keysF F).Nodup → (keysF G).Nodup ∧ Ext F G ∧ (∀ q ∈ l, Goes G q.1 q.2) ∧ ∀ x, x ∈ keysF G → x ∈ keysF F ∨ ∃ q ∈ l, q.1 = .any x
  | [], F, G, h, hn => by cases h; exact ⟨hn, Ext.refl _, (fun _ m => nomatch m), fun x m => .inl m⟩
  | (.nm s, c) :: r, F, G, h, hn => by
    simp only [takeT] at h
    split at h
    · rename_i hc
      obtain ⟨h1, h2, h3, h4⟩ := takeT_sound r F G h hn
      refine ⟨h1, h2, fun q m => ?_, fun x m => (h4 x m).imp id fun ⟨q, a, b⟩ => ⟨q, List.mem_cons_of_mem _ a, b⟩⟩
      rcases List.mem_cons.mp m with rfl | m
      · exact hc
      · exact h3 q m
    · cases h
  | (.any l, c) :: r, F, G, h, hn => by
    simp only [takeT] at h
    split at h
    · rename_i c' hl
      split at h
      · rename_i hc
        subst hc
        obtain ⟨h1, h2, h3, h4⟩ := takeT_sound r F G h hn
        refine ⟨h1, h2, fun q m => ?_, fun x m => (h4 x m).imp id fun ⟨q, a, b⟩ => ⟨q, List.mem_cons_of_mem _ a, b⟩⟩
        rcases List.mem_cons.mp m with rfl | m
        · exact h2 _ _ hl
        · exact h3 q m
      · cases h
    · rename_i hl
      have hn2 : (keysF (F ++ [(l, c)])).Nodup := by
        rw [keysF_app, List.nodup_append]
        refine ⟨hn, by simp, fun a ha b hb => ?_⟩
        rintro rfl
        have : a = l := by simpa using hb
        subst this
        exact lookup_none.mp hl ha
      obtain ⟨h1, h2, h3, h4⟩ := takeT_sound r _ G h hn2
      refine ⟨h1, (Ext.app F _).trans h2, fun q m => ?_, fun x m => ?_⟩
      · rcases List.mem_cons.mp m with rfl | m
        · refine h2 _ _ ?_
          rw [lookup_app, hl]
          simp
        · exact h3 q m
      · rcases h4 x m with h | ⟨q, a, b⟩
        · rw [keysF_app, List.mem_append] at h
          rcases h with h | h
          · exact .inl h
          · have : x = l := by simpa using h
            subst this
            exact .inr ⟨_, List.mem_cons_self, rfl⟩
        · exact .inr ⟨q, List.mem_cons_of_mem _ a, b⟩
theorem takeT_full (H : Fit) : ∀ (l : List (Term × Cell)) (F : Fit), Ext F H → (∀ q ∈ l, Goes H q.1 q.2) → ∃ G, takeT l F = some G ∧ Ext G H
  | [], F, he, _ => ⟨F, rfl, he⟩
  | (.nm s, c) :: r, F, he, h => by
    have h1 : c = .name s := h _ List.mem_cons_self
    obtain ⟨G, g1, g2⟩ := takeT_full H r F he fun q m => h q (List.mem_cons_of_mem _ m)
    exact ⟨G, by simp only [takeT]; rw [if_pos h1]; exact g1, g2⟩
  | (.any l, c) :: r, F, he, h => by
    have h1 : H.lookup l = some c := h _ List.mem_cons_self
    cases hl : F.lookup l with
    | some c' =>
      have := he _ _ hl
      rw [h1] at this; cases this
      obtain ⟨G, g1, g2⟩ := takeT_full H r F he fun q m => h q (List.mem_cons_of_mem _ m)
      exact ⟨G, by simp only [takeT, hl, if_true]; exact g1, g2⟩
    | none =>
      obtain ⟨G, g1, g2⟩ := takeT_full H r (F ++ [(l, c)]) (fun x d hx => by
        rw [lookup_app] at hx
        cases hF : F.lookup x with
        | some e => rw [hF] at hx; cases hx; exact he _ _ hF
        | none =>
          rw [hF] at hx
          simp only [List.lookup_cons] at hx
          cases e : x == l with
          | true =>
            rw [e] at hx
            cases hx
            have : x = l := by simpa using e
            subst this
            exact h1
          | false => rw [e] at hx; cases hx) fun q m => h q (List.mem_cons_of_mem _ m)
      exact ⟨G, by simp only [takeT, hl]; exact g1, g2⟩
/-- a pattern becomes a row by F -/
def Sat (F : Fit) (p : Pat) (r : Row) : Prop := r.1 = p.1 ∧ p.2.length = r.2.length ∧ ∀ q ∈ p.2.zip r.2, Goes F q.1 q.2
theorem Sat.ext {F G : Fit} (e : Ext F G) {p : Pat} {r : Row} (h : Sat F p r) : Sat G p r := ⟨h.1, h.2.1, fun q m => (h.2.2 q m).ext e⟩
theorem zip_goes {F : Fit} : ∀ {ts : List Term} {cs cs' : List Cell}, ts.length = cs.length → ts.length = cs'.length → (∀ q ∈ ts.zip cs, Goes F q.1 q.2) → (∀ q ∈ ts.zip cs', Goes F q.1 q.2) → cs = cs'
  | [], [], [], _, _, _, _ => rfl
  | t :: ts, c :: cs, c' :: cs', h1, h2, g1, g2 => by
    have a := g1 (t, c) (by simp)
    have b := g2 (t, c') (by simp)
    have e : c = c' := by
      cases t with
      | nm s => exact (show c = .name s from a).trans (show c' = .name s from b).symm
      | any x =>
        have a : F.lookup x = some c := a
        have b : F.lookup x = some c' := b
        rw [a] at b; cases b; rfl
    subst e
    have e2 : cs = cs' := zip_goes (F := F) (ts := ts) (by simpa using h1) (by simpa using h2) (fun q m => g1 q (by rw [List.zip_cons_cons]; exact List.mem_cons_of_mem _ m)) (fun q m => g2 q (by rw [List.zip_cons_cons]; exact List.mem_cons_of_mem _ m))
    rw [e2]
  | [], [], _ :: _, _, h, _, _ => by simp at h
  | [], _ :: _, _, h, _, _, _ => by simp at h
  | _ :: _, [], _, h, _, _, _ => by simp at h
  | _ :: _, _ :: _, [], _, h, _, _ => by simp at h
theorem Sat.uniq {F : Fit} {p : Pat} {r r' : Row} (h : Sat F p r) (h' : Sat F p r') : r = r' :=
  Prod.ext (h.1.trans h'.1.symm) (zip_goes h.2.1 h'.2.1 h.2.2 h'.2.2)
theorem zip_any {x : Str} : ∀ {ts : List Term} {cs : List Cell}, ts.length = cs.length → Term.any x ∈ ts → ∃ c, (Term.any x, c) ∈ ts.zip cs
  | [], _, _, h => nomatch h
  | t :: ts, [], h, _ => by simp at h
  | t :: ts, c :: cs, h, m => by
    rcases List.mem_cons.mp m with e | m
    · exact ⟨c, by rw [e]; simp⟩
    · obtain ⟨c', h'⟩ := zip_any (by simpa using h) m
      exact ⟨c', by rw [List.zip_cons_cons]; exact List.mem_cons_of_mem _ h'⟩
theorem Sat.bound {F : Fit} {p : Pat} {r : Row} (h : Sat F p r) {x : Str} (hx : Term.any x ∈ p.2) : x ∈ keysF F := by
  obtain ⟨c, hc⟩ := zip_any h.2.1 hx
  have : F.lookup x = some c := h.2.2 _ hc
  exact List.mem_map.mpr ⟨(x, c), lookup_mem this, rfl⟩
theorem Sat.flP {F : Fit} (hn : (keysF F).Nodup) {p : Pat} {r : Row} (h : Sat F p r) : flP F p = r := by
  refine Prod.ext h.1.symm ?_
  show p.2.map (flT F) = r.2
  obtain ⟨_, h2, h3⟩ := h
  generalize p.2 = ts at h2 h3
  generalize r.2 = cs at h2 h3
  induction ts generalizing cs with
  | nil =>
    cases cs with
    | nil => rfl
    | cons _ _ => simp at h2
  | cons t ts ih =>
    cases cs with
    | nil => simp at h2
    | cons c cs =>
      rw [List.map_cons, ih cs (by simpa using h2) fun q m => h3 q (by rw [List.zip_cons_cons]; exact List.mem_cons_of_mem _ m)]
      refine congrArg (· :: cs) ?_
      have := h3 (t, c) (by simp)
      cases t with
      | nm s => exact (show c = .name s from this).symm
      | any x =>
        have this : F.lookup x = some c := this
        show (lastK F x).getD _ = c
        rw [lastK_lookup hn, this]
        rfl
theorem Sat.of_flP {F : Fit} (hn : (keysF F).Nodup) {p : Pat} (hb : ∀ x, Term.any x ∈ p.2 → x ∈ keysF F) : Sat F p (LC.flP F p) := by
  refine ⟨rfl, by show _ = (p.2.map _).length; rw [List.length_map], ?_⟩
  show ∀ q ∈ p.2.zip (p.2.map (flT F)), Goes F q.1 q.2
  generalize p.2 = ts at hb
  induction ts with
  | nil => exact fun q m => by simp at m
  | cons t ts ih =>
    intro q m
    rw [List.map_cons, List.zip_cons_cons] at m
    rcases List.mem_cons.mp m with rfl | m
    · cases t with
      | nm s => exact rfl
      | any x =>
        show F.lookup x = some ((lastK F x).getD _)
        rw [lastK_lookup hn]
        cases h : F.lookup x with
        | some c => rfl
        | none => exact absurd (hb x List.mem_cons_self) (lookup_none.mp h)
    · exact ih (fun x m => hb x (List.mem_cons_of_mem _ m)) q m
theorem takenT_sound {ts : List Term} {cs : List Cell} {F G : Fit} (h : takenT ts cs F = some G) (hn : (keysF F).Nodup) : (keysF G).Nodup ∧ Ext F G ∧ ts.length = cs.length ∧ (∀ q ∈ ts.zip cs, Goes G q.1 q.2) ∧ ∀ x, x ∈ keysF G → x ∈ keysF F ∨ Term.any x ∈ ts := by
  unfold takenT at h
  split at h
  · rename_i hl
    obtain ⟨h1, h2, h3, h4⟩ := takeT_sound _ _ _ h hn
    refine ⟨h1, h2, hl, h3, fun x m => (h4 x m).imp id fun ⟨q, a, b⟩ => ?_⟩
    rw [← b]
    exact (List.of_mem_zip a).1
  · cases h
/-- two fits that part at a letter of both -/
def Apart (F G : Fit) : Prop := ∃ x c c', F.lookup x = some c ∧ G.lookup x = some c' ∧ c ≠ c'
theorem Apart.ext {F G F' G' : Fit} (h : Apart F G) (e : Ext F F') (e' : Ext G G') : Apart F' G' := by
  obtain ⟨x, c, c', h1, h2, h3⟩ := h
  exact ⟨x, c, c', e _ _ h1, e' _ _ h2, h3⟩
theorem goes_apart {F G : Fit} : ∀ {ts : List Term} {cs cs' : List Cell}, ts.length = cs.length → ts.length = cs'.length → (∀ q ∈ ts.zip cs, Goes F q.1 q.2) → (∀ q ∈ ts.zip cs', Goes G q.1 q.2) → cs ≠ cs' → Apart F G
  | [], [], [], _, _, _, _, h => absurd rfl h
  | t :: ts, c :: cs, c' :: cs', h1, h2, g1, g2, h => by
    have a := g1 (t, c) (by simp)
    have b := g2 (t, c') (by simp)
    by_cases e : c = c'
    · subst e
      exact goes_apart (by simpa using h1) (by simpa using h2) (fun q m => g1 q (by rw [List.zip_cons_cons]; exact List.mem_cons_of_mem _ m)) (fun q m => g2 q (by rw [List.zip_cons_cons]; exact List.mem_cons_of_mem _ m)) fun z => h (by rw [z])
    · cases t with
      | nm s => exact absurd ((show c = .name s from a).trans (show c' = .name s from b).symm) e
      | any x => exact ⟨x, c, c', a, b, e⟩
  | [], [], _ :: _, _, h, _, _, _ => by simp at h
  | [], _ :: _, _, h, _, _, _, _ => by simp at h
  | _ :: _, [], _, h, _, _, _, _ => by simp at h
  | _ :: _, _ :: _, [], _, h, _, _, _ => by simp at h
/-- what holds of the fits of some patterns -/
structure Good (rows : List Row) (done : List Pat) (F : Fit) : Prop where
  nd : (keysF F).Nodup
  sat : ∀ p ∈ done, ∃ r ∈ rows, Sat F p r
  dom : ∀ x, x ∈ keysF F → ∃ p ∈ done, Term.any x ∈ p.2
theorem ext1_good {rows : List Row} {done : List Pat} {F : Fit} (h : Good rows done F) (p : Pat) : ∀ G ∈ ext1 rows p F, Good rows (done ++ [p]) G ∧ Ext F G := fun G hG => by
  obtain ⟨r, hr, e⟩ := List.mem_filterMap.mp hG
  split at e
  · rename_i ht
    obtain ⟨h1, h2, h3, h4, h5⟩ := takenT_sound e h.nd
    refine ⟨⟨h1, fun q m => ?_, fun x m => ?_⟩, h2⟩
    · rcases List.mem_append.mp m with m | m
      · obtain ⟨r', a, b⟩ := h.sat q m
        exact ⟨r', a, b.ext h2⟩
      · rw [List.mem_singleton.mp m]
        exact ⟨r, hr, ht, h3, h4⟩
    · rcases h5 x m with m | m
      · obtain ⟨q, a, b⟩ := h.dom x m
        exact ⟨q, List.mem_append_left _ a, b⟩
      · exact ⟨p, List.mem_append_right _ List.mem_cons_self, m⟩
  · cases e
theorem ext1_apart {rows : List Row} (hr : rows.Nodup) {F : Fit} (hF : (keysF F).Nodup) (p : Pat) : (ext1 rows p F).Pairwise Apart := by
  unfold ext1
  rw [List.pairwise_filterMap]
  refine hr.imp fun {r r'} hne G hG G' hG' => ?_
  split at hG
  · rename_i ht
    split at hG'
    · rename_i ht'
      obtain ⟨_, _, h3, h4, _⟩ := takenT_sound hG hF
      obtain ⟨_, _, h3', h4', _⟩ := takenT_sound hG' hF
      exact goes_apart h3 h3' h4 h4' fun e => hne (Prod.ext (ht.trans ht'.symm) e)
    · cases hG'
  · cases hG
theorem extT_good {rows : List Row} (hr : rows.Nodup) : ∀ (ps : List Pat) (done : List Pat) (Fs : List Fit), (∀ F ∈ Fs, Good rows done F) → Fs.Pairwise Apart → (∀ F ∈ extT rows ps Fs, Good rows (done ++ ps) F) ∧ (extT rows ps Fs).Pairwise Apart
  | [], done, Fs, h, hp => by rw [List.append_nil]; exact ⟨h, hp⟩
  | p :: ps, done, Fs, h, hp => by
    have h1 : ∀ G ∈ extP rows p Fs, Good rows (done ++ [p]) G := fun G hG => by
      obtain ⟨F, hF, hG⟩ := List.mem_flatMap.mp hG
      exact (ext1_good (h F hF) p G hG).1
    have h2 : (extP rows p Fs).Pairwise Apart := by
      unfold extP
      rw [List.pairwise_flatMap]
      refine ⟨fun F hF => ext1_apart hr (h F hF).nd p, ?_⟩
      refine hp.imp_of_mem fun {F F'} m m' ha G hG G' hG' => ?_
      exact ha.ext (ext1_good (h F m) p G hG).2 (ext1_good (h F' m') p G' hG').2
    have := extT_good hr ps (done ++ [p]) (extP rows p Fs) h1 h2
    rw [List.append_assoc] at this
    exact this
theorem extT_full {rows : List Row} {H : Fit} : ∀ (ps : List Pat) (Fs : List Fit), (∃ F ∈ Fs, Ext F H) → (∀ p ∈ ps, ∃ r ∈ rows, Sat H p r) → ∃ G ∈ extT rows ps Fs, Ext G H
  | [], Fs, h, _ => h
  | p :: ps, Fs, ⟨F, hF, he⟩, hs => by
    obtain ⟨r, hr, h1, h2, h3⟩ := hs p List.mem_cons_self
    obtain ⟨G, g1, g2⟩ := takeT_full H (p.2.zip r.2) F he h3
    refine extT_full ps (extP rows p Fs) ⟨G, List.mem_flatMap.mpr ⟨F, hF, List.mem_filterMap.mpr ⟨r, hr, ?_⟩⟩, g2⟩ fun q m => hs q (List.mem_cons_of_mem _ m)
    rw [if_pos h1]
    unfold takenT
    rw [if_pos h2]
    exact g1

/-! ### in order -/
theorem ordF_perm (F : Fit) : (ordF F).Perm F := srtBy_perm fD F
theorem ordF_keys (F : Fit) : (keysF (ordF F)).Perm (keysF F) := (ordF_perm F).map _
theorem ordF_nd {F : Fit} (h : (keysF F).Nodup) : (keysF (ordF F)).Nodup := (ordF_keys F).nodup_iff.mpr h
theorem ordF_lookup {F : Fit} (h : (keysF F).Nodup) (x : Str) : (ordF F).lookup x = F.lookup x := by
  have h' := ordF_nd h
  cases e : F.lookup x with
  | some c => exact lookup_of h' ((ordF_perm F).mem_iff.mpr (lookup_mem e))
  | none =>
    rw [lookup_none] at e ⊢
    exact fun m => e ((ordF_keys F).mem_iff.mp m)
theorem plN_mem_fD {F : Fit} : ∀ b ∈ F, plainN 30 (fD b) = true := fun b _ => plN_fD 28 b
theorem ordF_strict {F : Fit} (h : (keysF F).Nodup) : Strict fD (ordF F) := by
  have hw : Weak fD (ordF F) := srtBy_weak plN_mem_fD
  have hn : (ordF F).Pairwise fun a b => a.1 ≠ b.1 := by
    have := ordF_nd h
    rw [List.nodup_iff_pairwise_ne, List.pairwise_map] at this
    exact this
  refine (hw.and hn).imp fun {a b} hab => ?_
  rcases (ord_plain 30).tri _ _ (plN_fD 28 a) (plN_fD 28 b) (fun e => hab.2 (by rw [fD_inj.mp e])) with q | q
  · exact q
  · rw [hab.1] at q; cases q
/-- what fits the body -/
structure IsFit (rows : List Row) (body : List Pat) (F : Fit) : Prop where
  st : Strict fD F
  nd : (keysF F).Nodup
  dom : ∀ x, x ∈ keysF F ↔ ∃ p ∈ body, Term.any x ∈ p.2
  sat : ∀ p ∈ body, flP F p ∈ rows
theorem IsFit.bound {rows : List Row} {body : List Pat} {F : Fit} (h : IsFit rows body F) {p : Pat} (hp : p ∈ body) {x : Str} (hx : Term.any x ∈ p.2) : x ∈ keysF F := (h.dom x).mpr ⟨p, hp, hx⟩
theorem IsFit.for {rows : List Row} {body : List Pat} {F : Fit} (h : IsFit rows body F) : FitFor F body := fun p hp x hx => by
  rw [lastK_lookup h.nd]
  cases e : F.lookup x with
  | some c => rfl
  | none => exact absurd (h.bound hp hx) (lookup_none.mp e)
theorem IsFit.sat' {rows : List Row} {body : List Pat} {F : Fit} (h : IsFit rows body F) : ∀ p ∈ body, ∃ r ∈ rows, Sat F p r := fun p hp =>
  ⟨flP F p, h.sat p hp, Sat.of_flP h.nd fun x hx => h.bound hp hx⟩
theorem plN_mem_fit {Fs : List Fit} : ∀ F ∈ Fs, plainN 30 (fitD F) = true := fun F _ => plN_fitD 27 F
theorem ext_start {rows : List Row} : (∀ F ∈ ([[]] : List Fit), Good rows [] F) ∧ ([[]] : List Fit).Pairwise Apart := ⟨fun F m => by
  rw [List.mem_singleton.mp m]
  exact ⟨List.nodup_nil, (fun p m => nomatch m), fun x m => nomatch m⟩, by simp⟩
theorem good_fit {rows : List Row} {body : List Pat} {F : Fit} (h : Good rows body F) : IsFit rows body (ordF F) where
  st := ordF_strict h.nd
  nd := ordF_nd h.nd
  dom x := by
    rw [(ordF_keys F).mem_iff]
    constructor
    · exact h.dom x
    · rintro ⟨p, hp, hx⟩
      obtain ⟨r, _, hs⟩ := h.sat p hp
      exact hs.bound hx
  sat p hp := by
    obtain ⟨r, hr, hs⟩ := h.sat p hp
    have : Sat (ordF F) p r := hs.ext fun x c e => by rw [ordF_lookup h.nd]; exact e
    rw [this.flP (ordF_nd h.nd)]
    exact hr
theorem fitsT_mem {rows : List Row} (hr : rows.Nodup) (body : List Pat) (F : Fit) : F ∈ fitsT rows body ↔ IsFit rows body F := by
  obtain ⟨h1, h2⟩ := extT_good hr body [] [[]] (ext_start (rows := rows)).1 (ext_start (rows := rows)).2
  rw [List.nil_append] at h1
  unfold fitsT
  rw [srtBy_mem, List.mem_map]
  constructor
  · rintro ⟨G, hG, rfl⟩
    exact good_fit (h1 G hG)
  · intro h
    obtain ⟨G, hG, he⟩ := extT_full (H := F) body [[]] ⟨[], List.mem_singleton.mpr rfl, fun x c e => nomatch e⟩ h.sat'
    refine ⟨G, hG, ?_⟩
    have hg := h1 G hG
    have hf := good_fit hg
    -- one set of pairs
    refine strict_uniq (f := fD) (n := 30) plN_mem_fD plN_mem_fD hf.st h.st fun b => ?_
    obtain ⟨x, c⟩ := b
    rw [← lookup_iff hf.nd, ← lookup_iff h.nd, ordF_lookup hg.nd]
    constructor
    · exact he x c
    · intro e
      cases e2 : G.lookup x with
      | some c' =>
        have := he x c' e2
        rw [e] at this; cases this; rfl
      | none =>
        exfalso
        have hx : x ∈ keysF F := List.mem_map.mpr ⟨(x, c), lookup_mem e, rfl⟩
        obtain ⟨p, hp, hpx⟩ := (h.dom x).mp hx
        obtain ⟨r, _, hs⟩ := hg.sat p hp
        exact lookup_none.mp e2 (hs.bound hpx)
theorem fitsT_strict {rows : List Row} (hr : rows.Nodup) (body : List Pat) : Strict fitD (fitsT rows body) := by
  obtain ⟨h1, h2⟩ := extT_good hr body [] [[]] (ext_start (rows := rows)).1 (ext_start (rows := rows)).2
  rw [List.nil_append] at h1
  have hw : Weak fitD (fitsT rows body) := srtBy_weak plN_mem_fit
  have hn : (fitsT rows body).Nodup := by
    unfold fitsT
    rw [(srtBy_perm fitD _).nodup_iff, List.nodup_iff_pairwise_ne, List.pairwise_map]
    refine h2.imp_of_mem fun {F G} m m' ha e => ?_
    obtain ⟨x, c, c', e1, e2, hne⟩ := ha
    have a1 := ordF_lookup (h1 F m).nd x
    have a2 := ordF_lookup (h1 G m').nd x
    rw [e, a2, e2, e1] at a1
    cases a1
    exact hne rfl
  rw [List.nodup_iff_pairwise_ne] at hn
  refine (hw.and hn).imp fun {a b} hab => ?_
  rcases (ord_plain 30).tri _ _ (plN_fitD 27 a) (plN_fitD 27 b) (fun e => hab.2 (fitD_inj.mp e)) with q | q
  · exact q
  · rw [hab.1] at q; cases q
theorem fitsT_uniq {rows : List Row} (hr : rows.Nodup) (body : List Pat) {Fs : List Fit} (hs : Strict fitD Fs) (hm : ∀ F, F ∈ Fs ↔ IsFit rows body F) : fitsT rows body = Fs :=
  strict_uniq (n := 30) plN_mem_fit plN_mem_fit (fitsT_strict hr body) hs fun F => by rw [fitsT_mem hr, hm]
end LC
/-! Rules: letters, fresh ones, what is broken, what keeps. -/
namespace LC
open PySem MP
variable {V : Nat → D → Prop}

/-! ### letters -/
def anyL (ts : List Term) : List Str := ts.filterMap fun t => match t with
  | .any l => some l
  | .nm _ => none
def anysL (ps : List Pat) : List Str := ps.flatMap fun p => anyL p.2
theorem anyL_mem {ts : List Term} {l : Str} : l ∈ anyL ts ↔ Term.any l ∈ ts := by
  unfold anyL
  rw [List.mem_filterMap]
  constructor
  · rintro ⟨t, h1, h2⟩
    cases t with
    | nm s => cases h2
    | any x => cases h2; exact h1
  · intro h; exact ⟨_, h, rfl⟩
theorem anysL_mem {ps : List Pat} {l : Str} : l ∈ anysL ps ↔ ∃ p ∈ ps, Term.any l ∈ p.2 := by
  unfold anysL
  rw [List.mem_flatMap]
  constructor
  · rintro ⟨p, h1, h2⟩; exact ⟨p, h1, anyL_mem.mp h2⟩
  · rintro ⟨p, h1, h2⟩; exact ⟨p, h1, anyL_mem.mpr h2⟩
def kS (ks : List Str) : List (D × D) := ks.map fun n => (.str n, .bl true)
def addS (ks : List Str) (x : Str) : List Str := if x ∈ ks then ks else ks ++ [x]
theorem kS_any (ks : List Str) (x : Str) : ((kS ks).any fun p => decide (p.1 = .str x)) = decide (x ∈ ks) := by
  induction ks with
  | nil => rfl
  | cons k ks ih =>
    show (decide (D.str k = D.str x) || (kS ks).any _) = _
    rw [ih]
    by_cases h : k = x
    · subst h; simp
    · have : ¬ x = k := fun e => h e.symm
      simp [h, this]
theorem kS_put (ks : List Str) (x : Str) : putKV (kS ks) (.str x) (.bl true) = kS (addS ks x) := by
  unfold putKV addS
  rw [kS_any]
  by_cases h : x ∈ ks
  · rw [if_pos (by simpa using h), if_pos h]
    unfold kS
    rw [List.map_map]
    refine List.map_congr_left fun s _ => ?_
    simp only [Function.comp]
    split <;> rfl
  · rw [if_neg (by simpa using h), if_neg h]
    simp [kS]
theorem kS_flat (ks : List Str) : ((kS ks).all fun p => flatKey p.1) = true := by
  rw [List.all_eq_true]
  intro p hp
  obtain ⟨s, _, rfl⟩ := List.mem_map.mp hp
  rfl
theorem addS_mem {ks : List Str} {x s : Str} : s ∈ addS ks x ↔ s ∈ ks ∨ s = x := by
  unfold addS
  split
  · constructor
    · exact .inl
    · rintro (h | rfl)
      · exact h
      · assumption
  · simp
theorem addS_len (ks : List Str) (x : Str) : (addS ks x).length ≤ ks.length + 1 := by
  unfold addS
  split <;> simp
theorem addS_nodup {ks : List Str} {x : Str} (h : ks.Nodup) : (addS ks x).Nodup := by
  unfold addS
  split
  · exact h
  · rename_i hx
    rw [List.nodup_append]
    refine ⟨h, by simp, fun a ha b hb => ?_⟩
    rintro rfl
    exact hx (by simpa [List.mem_singleton.mp hb] using ha)
/-- the letters of some patterns, in order -/
def lettersT (ps : List Pat) : List Str := srtBy D.str ((anysL ps).foldl addS [])
theorem foldl_addS_mem (xs : List Str) : ∀ (ks : List Str) (s : Str), s ∈ xs.foldl addS ks ↔ s ∈ ks ∨ s ∈ xs := by
  induction xs with
  | nil => intro ks s; simp
  | cons x xs ih =>
    intro ks s
    rw [List.foldl_cons, ih, addS_mem, List.mem_cons, or_assoc]
theorem foldl_addS_nodup (xs : List Str) : ∀ (ks : List Str), ks.Nodup → (xs.foldl addS ks).Nodup := by
  induction xs with
  | nil => intro ks h; exact h
  | cons x xs ih => intro ks h; exact ih _ (addS_nodup h)
theorem foldl_addS_len (xs : List Str) : ∀ (ks : List Str), (xs.foldl addS ks).length ≤ ks.length + xs.length := by
  induction xs with
  | nil => intro ks; exact Nat.le_refl _
  | cons x xs ih =>
    intro ks
    have := ih (addS ks x)
    have := addS_len ks x
    rw [List.foldl_cons, List.length_cons]
    omega
theorem lettersT_mem {ps : List Pat} {l : Str} : l ∈ lettersT ps ↔ ∃ p ∈ ps, Term.any l ∈ p.2 := by
  unfold lettersT
  rw [srtBy_mem, foldl_addS_mem, ← anysL_mem]
  simp
theorem lettersT_nodup (ps : List Pat) : (lettersT ps).Nodup := (srtBy_perm D.str _).nodup_iff.mpr (foldl_addS_nodup _ _ List.nodup_nil)
theorem anyL_len (ts : List Term) : (anyL ts).length ≤ ts.length := List.length_filterMap_le _ _
section
variable {T : Str → Option Def}
def dLettersOf : MP.Def := { np := 1, N := ["patterns", "known", "table", "terms", "sort", "what"], own := [.sh, .li, .sh, .sh, .sh, .sh], ro := .li, body := (.cons (.asg (.nm 1) .edic) (.cons (.loop (.tp [2, 3]) (.of (.var 0)) [2, 3, 4, 5] (.cons (.loop (.tp [4, 5]) (.of (.var 3)) [4, 5] (.cons (.ifs (.cmp .eq (.var 4) (.str "any")) (.cons (.put 1 (.var 5) (.bl true)) .nil) .nil) .nil)) .nil)) (.cons (.ret (.bi .sortedKeys (.cons (.var 1) .nil))) .nil))) }
theorem lettersOf_ok (hT : T "letters_of" = some dLettersOf) (k : Nat) (ps : List Pat) (hU : (anysL ps).length ≤ 1000000) : run T (k + 1) "letters_of" [.lst (ps.map pD)] = .ok (.lst ((lettersT ps).map .str)) := by
  refine run_is hT rfl ?_
  have sq : seqD (.lst (ps.map pD)) = .ok (ps.map pD) := rfl
  generalize D.lst (ps.map pD) = P at sq
  show Ev (run T k) _ [some P, none, none, none, none, none] _
  refine Ev.asg (d := .dic []) (by simp only [evalE, evalEs, evalAnd, evalOr, evalO, evalC, evalI, varE, asgG, setMany, List.getElem?_cons_zero, List.getElem?_cons_succ, List.set_cons_zero, List.set_cons_succ, R.bind_ok, unbl, unint, lstOf, dicOf, iteT, iteA, iteO, Bool.and_true, Bool.or_false, Bool.and_false, Bool.or_true, Bool.true_and, Bool.false_and, Bool.true_or, Bool.false_or, if_true, Bool.false_eq_true, if_false, Bool.not_true, Bool.not_false] <;> rfl) ?_
  refine Ev.loopQ pD ps (fun pre e => e = [some P, some (.dic (kS ((anysL pre).foldl addS []))), none, none, none, none]) (by simp only [evalE, evalEs, evalAnd, evalOr, evalO, evalC, evalI, varE, asgG, setMany, List.getElem?_cons_zero, List.getElem?_cons_succ, List.set_cons_zero, List.set_cons_succ, R.bind_ok, unbl, unint, lstOf, dicOf, iteT, iteA, iteO, Bool.and_true, Bool.or_false, Bool.and_false, Bool.or_true, Bool.true_and, Bool.false_and, Bool.true_or, Bool.false_or, if_true, Bool.false_eq_true, if_false, Bool.not_true, Bool.not_false, sq] <;> rfl) rfl ?_ ?_
  · rintro pre p suf _ hs rfl
    have lenA : (anysL (pre ++ [p])).length ≤ 1000000 := by
      refine Nat.le_trans ?_ hU
      rw [hs]
      unfold anysL
      simp only [List.flatMap_append, List.flatMap_cons, List.length_append, List.flatMap_nil, List.length_nil]
      omega
    have ea : anysL (pre ++ [p]) = anysL pre ++ anyL p.2 := by unfold anysL; simp
    rw [ea, List.length_append] at lenA
    generalize hA : anysL pre = as at ea lenA
    refine ⟨[some P, some (.dic (kS (as.foldl addS []))), some (.str p.1), some (.tup (p.2.map tD)), none, none], rfl, ?_⟩
    refine Ev.loopQ tD p.2 (fun q e => e = [some P, some (.dic (kS ((as ++ anyL q).foldl addS []))), some (.str p.1), some (.tup (p.2.map tD)), none, none]) (by simp only [evalE, evalEs, evalAnd, evalOr, evalO, evalC, evalI, varE, asgG, setMany, List.getElem?_cons_zero, List.getElem?_cons_succ, List.set_cons_zero, List.set_cons_succ, R.bind_ok, unbl, unint, lstOf, dicOf, iteT, iteA, iteO, Bool.and_true, Bool.or_false, Bool.and_false, Bool.or_true, Bool.true_and, Bool.false_and, Bool.true_or, Bool.false_or, if_true, Bool.false_eq_true, if_false, Bool.not_true, Bool.not_false, seqD] <;> rfl) (by show (_ : MP.Env) = [some P, some (.dic (kS ((as ++ []).foldl addS []))), some (.str p.1), some (.tup (p.2.map tD)), none, none]; rw [List.append_nil]; rfl) ?_ ?_
    · rintro q t q2 _ hq rfl
      have lq : (anyL q).length ≤ (anyL p.2).length := by
        rw [hq]
        unfold anyL
        rw [List.filterMap_append, List.length_append]
        omega
      have e1 : anyL (q ++ [t]) = anyL q ++ (match t with | .any l => [l] | .nm _ => []) := by
        unfold anyL
        rw [List.filterMap_append]
        cases t <;> rfl
      cases t with
      | any l =>
        refine ⟨[some P, some (.dic (kS ((as ++ anyL q).foldl addS []))), some (.str p.1), some (.tup (p.2.map tD)), some (.str "any"), some (.str l)], rfl, ?_⟩
        refine Ev.tt (by simp only [evalE, evalEs, evalAnd, evalOr, evalO, evalC, evalI, varE, asgG, setMany, List.getElem?_cons_zero, List.getElem?_cons_succ, List.set_cons_zero, List.set_cons_succ, R.bind_ok, unbl, unint, lstOf, dicOf, iteT, iteA, iteO, Bool.and_true, Bool.or_false, Bool.and_false, Bool.or_true, Bool.true_and, Bool.false_and, Bool.true_or, Bool.false_or, if_true, Bool.false_eq_true, if_false, Bool.not_true, Bool.not_false, cmpS_qaa] <;> rfl) ?_
        have kl : (kS ((as ++ anyL q).foldl addS [])).length < lim := by
          unfold kS
          rw [List.length_map]
          have := foldl_addS_len (as ++ anyL q) []
          rw [List.length_append, List.length_nil] at this
          show _ < 16777216
          omega
        refine Ev.put (vd := .bl true) (kvs := kS ((as ++ anyL q).foldl addS [])) (kd := .str l) (by simp only [evalE, evalEs, evalAnd, evalOr, evalO, evalC, evalI, varE, asgG, setMany, List.getElem?_cons_zero, List.getElem?_cons_succ, List.set_cons_zero, List.set_cons_succ, R.bind_ok, unbl, unint, lstOf, dicOf, iteT, iteA, iteO, Bool.and_true, Bool.or_false, Bool.and_false, Bool.or_true, Bool.true_and, Bool.false_and, Bool.true_or, Bool.false_or, if_true, Bool.false_eq_true, if_false, Bool.not_true, Bool.not_false] <;> rfl) rfl (by simp only [evalE, evalEs, evalAnd, evalOr, evalO, evalC, evalI, varE, asgG, setMany, List.getElem?_cons_zero, List.getElem?_cons_succ, List.set_cons_zero, List.set_cons_succ, R.bind_ok, unbl, unint, lstOf, dicOf, iteT, iteA, iteO, Bool.and_true, Bool.or_false, Bool.and_false, Bool.or_true, Bool.true_and, Bool.false_and, Bool.true_or, Bool.false_or, if_true, Bool.false_eq_true, if_false, Bool.not_true, Bool.not_false] <;> rfl) (keyFor_ok (kS_flat _) rfl) kl (Ev.nil (Ev.nil ?_))
        show (_ : MP.Env) = _
        rw [e1, ← List.append_assoc, foldl_app, kS_put]
        rfl
      | nm s =>
        refine ⟨[some P, some (.dic (kS ((as ++ anyL q).foldl addS []))), some (.str p.1), some (.tup (p.2.map tD)), some (.str "name"), some (.str s)], rfl, ?_⟩
        refine Ev.ff (by simp only [evalE, evalEs, evalAnd, evalOr, evalO, evalC, evalI, varE, asgG, setMany, List.getElem?_cons_zero, List.getElem?_cons_succ, List.set_cons_zero, List.set_cons_succ, R.bind_ok, unbl, unint, lstOf, dicOf, iteT, iteA, iteO, Bool.and_true, Bool.or_false, Bool.and_false, Bool.or_true, Bool.true_and, Bool.false_and, Bool.true_or, Bool.false_or, if_true, Bool.false_eq_true, if_false, Bool.not_true, Bool.not_false, cmpS_qna] <;> rfl) (Ev.nil (Ev.nil ?_))
        show (_ : MP.Env) = _
        rw [e1, List.append_nil]
        rfl
    · rintro _ rfl
      refine Ev.nil ?_
      show (_ : MP.Env) = _
      rw [ea]
      rfl
  · rintro _ rfl
    have so : biD .sortedKeys [.dic (kS ((anysL ps).foldl addS []))] = .ok (.lst ((lettersT ps).map .str)) := by
      simp only [biD]
      rw [if_pos (kS_flat _)]
      have e : (kS ((anysL ps).foldl addS [])).map (·.1) = ((anysL ps).foldl addS []).map D.str := by unfold kS; rw [List.map_map]; rfl
      rw [e]
      unfold sortD
      rw [if_pos (strs_ok _), srtBy_map]
      rfl
    exact Ev.ret (d := .lst ((lettersT ps).map .str)) (by simp only [evalE, evalEs, evalAnd, evalOr, evalO, evalC, evalI, varE, asgG, setMany, List.getElem?_cons_zero, List.getElem?_cons_succ, List.set_cons_zero, List.set_cons_succ, R.bind_ok, unbl, unint, lstOf, dicOf, iteT, iteA, iteO, Bool.and_true, Bool.or_false, Bool.and_false, Bool.or_true, Bool.true_and, Bool.false_and, Bool.true_or, Bool.false_or, if_true, Bool.false_eq_true, if_false, Bool.not_true, Bool.not_false, so] <;> rfl) rfl
theorem in_strs (s : Str) (ss : List Str) : inD (.str s) (.lst (ss.map .str)) = .ok (decide (s ∈ ss)) := by
  have hall : (ss.map D.str).all MP.plain = true := by
    rw [List.all_eq_true]
    intro d hd
    obtain ⟨t, _, rfl⟩ := List.mem_map.mp hd
    rfl
  rw [in_plain rfl hall (fun _ => .inr trivial), any_map strD_inj]
/-! ### rules -/
inductive Rule where | must (body head : List Pat) | same (body : List Pat) (one other : Term)
  deriving DecidableEq
def ruleD : Rule → D
  | .must b h => .tup [.str "must", .lst (b.map pD), .lst (h.map pD)]
  | .same b o t => .tup [.str "same", .lst (b.map pD), tD o, tD t]
def Rule.body : Rule → List Pat
  | .must b _ => b
  | .same b _ _ => b
theorem ruleD_0 (r : Rule) : idxD (ruleD r) (.int 0) = .ok (.str (match r with | .must _ _ => "must" | .same _ _ _ => "same")) := by cases r <;> rfl
theorem ruleD_1 (r : Rule) : idxD (ruleD r) (.int 1) = .ok (.lst (r.body.map pD)) := by cases r <;> rfl
theorem cmpS_mm : cmpD .eq (.str "must") (.str "must") = .ok true := by rw [cmpS_eq, decide_eq_true rfl]
theorem cmpS_sm : cmpD .eq (.str "same") (.str "must") = .ok false := by rw [cmpS_eq, decide_eq_false (by decide)]
theorem cmpS_ss : cmpD .eq (.str "same") (.str "same") = .ok true := by rw [cmpS_eq, decide_eq_true rfl]
theorem cmpS_ms : cmpD .eq (.str "must") (.str "same") = .ok false := by rw [cmpS_eq, decide_eq_false (by decide)]
def dFresh : MP.Def := { np := 1, N := ["rule", "known", "letter"], own := [.sh, .sh, .sh], ro := .li, body := (.cons (.asg (.nm 1) (.call "letters_of" (.cons (.idx (.var 0) (.int 1)) .nil))) (.cons (.ret (.comp (.nm 2) (.of (.call "letters_of" (.cons (.idx (.var 0) (.int 2)) .nil))) (.yes (.cmp .notin (.var 2) (.var 1))) (.var 2))) .nil)) }
def freshT (b h : List Pat) : List Str := (lettersT h).filter fun l => !decide (l ∈ lettersT b)
theorem fresh_ok (hL : T "letters_of" = some dLettersOf) (hT : T "fresh" = some dFresh) (k : Nat) (b h : List Pat) (hb : (anysL b).length ≤ 1000000) (hh : (anysL h).length ≤ 1000000) : run T (k + 2) "fresh" [ruleD (.must b h)] = .ok (.lst ((freshT b h).map .str)) := by
  refine run_is hT rfl ?_
  have i1 : idxD (ruleD (.must b h)) (.int 1) = .ok (.lst (b.map pD)) := rfl
  have i2 : idxD (ruleD (.must b h)) (.int 2) = .ok (.lst (h.map pD)) := rfl
  have l1 := lettersOf_ok hL k b hb
  have l2 := lettersOf_ok hL k h hh
  generalize ruleD (.must b h) = R0 at i1 i2
  show Ev _ _ [some R0, none, none] _
  refine Ev.asg (d := .lst ((lettersT b).map .str)) (by simp only [evalE, evalEs, evalAnd, evalOr, evalO, evalC, evalI, varE, asgG, setMany, List.getElem?_cons_zero, List.getElem?_cons_succ, List.set_cons_zero, List.set_cons_succ, R.bind_ok, unbl, unint, lstOf, dicOf, iteT, iteA, iteO, Bool.and_true, Bool.or_false, Bool.and_false, Bool.or_true, Bool.true_and, Bool.false_and, Bool.true_or, Bool.false_or, if_true, Bool.false_eq_true, if_false, Bool.not_true, Bool.not_false, i1, l1] <;> rfl) ?_
  have ll : (lettersT h).length ≤ 1000000 := by
    unfold lettersT
    rw [srtBy_len]
    have := foldl_addS_len (anysL h) []
    rw [List.length_nil] at this
    omega
  have c := ev_compF (F := run T (k + 1)) (g := .nm 2) (it := .of (.call "letters_of" (.cons (.idx (.var 0) (.int 2)) .nil))) (c := .cmp .notin (.var 2) (.var 1)) (e := .var 2) (r := [some R0, some (.lst ((lettersT b).map .str)), none]) (f := D.str) (as := lettersT h) D.str (fun l => !decide (l ∈ lettersT b))
    (by simp only [evalE, evalEs, evalAnd, evalOr, evalO, evalC, evalI, varE, asgG, setMany, List.getElem?_cons_zero, List.getElem?_cons_succ, List.set_cons_zero, List.set_cons_succ, R.bind_ok, unbl, unint, lstOf, dicOf, iteT, iteA, iteO, Bool.and_true, Bool.or_false, Bool.and_false, Bool.or_true, Bool.true_and, Bool.false_and, Bool.true_or, Bool.false_or, if_true, Bool.false_eq_true, if_false, Bool.not_true, Bool.not_false, i2, l2, seqD] <;> rfl) (fun l _ => ⟨[some R0, some (.lst ((lettersT b).map .str)), some (.str l)], rfl, (by simp only [evalE, evalEs, evalAnd, evalOr, evalO, evalC, evalI, varE, asgG, setMany, List.getElem?_cons_zero, List.getElem?_cons_succ, List.set_cons_zero, List.set_cons_succ, R.bind_ok, unbl, unint, lstOf, dicOf, iteT, iteA, iteO, Bool.and_true, Bool.or_false, Bool.and_false, Bool.or_true, Bool.true_and, Bool.false_and, Bool.true_or, Bool.false_or, if_true, Bool.false_eq_true, if_false, Bool.not_true, Bool.not_false, cmp_notin, in_strs] <;> rfl), fun _ => (by simp only [evalE, evalEs, evalAnd, evalOr, evalO, evalC, evalI, varE, asgG, setMany, List.getElem?_cons_zero, List.getElem?_cons_succ, List.set_cons_zero, List.set_cons_succ, R.bind_ok, unbl, unint, lstOf, dicOf, iteT, iteA, iteO, Bool.and_true, Bool.or_false, Bool.and_false, Bool.or_true, Bool.true_and, Bool.false_and, Bool.true_or, Bool.false_or, if_true, Bool.false_eq_true, if_false, Bool.not_true, Bool.not_false] <;> rfl)⟩) (by show _ ≤ 16777216; omega)
  exact Ev.ret (d := .lst ((freshT b h).map .str)) c rfl

/-! ### broken, keeps -/
theorem dict_fitD {F : Fit} (hn : (keysF F).Nodup) : biD .dict [fitD F] = .ok (dcF F) := by
  have key : ∀ (E : Fit) (acc : Fit), (keysF (acc ++ E)).Nodup → putAll (acc.map fun p => (D.str p.1, cD p.2)) (E.map fun p => (D.str p.1, cD p.2)) = (acc ++ E).map fun p => (D.str p.1, cD p.2) := by
    intro E
    induction E with
    | nil => intro acc _; rw [List.append_nil]; rfl
    | cons p E ih =>
      intro acc h
      obtain ⟨a, c⟩ := p
      rw [List.map_cons]
      show putAll (putKV (acc.map fun p => (D.str p.1, cD p.2)) (.str a) (cD c)) _ = _
      have hnone : getKV (acc.map fun p : Bnd => (D.str p.1, cD p.2)) (.str a) = none := by
        rw [dcF_get]
        have : acc.lookup a = none := lookup_none.mpr fun m => by
          rw [keysF_app, List.nodup_append] at h
          exact h.2.2 a m a (by simp) rfl
        rw [this]; rfl
      have e : putKV (acc.map fun p : Bnd => (D.str p.1, cD p.2)) (.str a) (cD c) = (acc ++ [(a, c)]).map fun p : Bnd => (D.str p.1, cD p.2) := by
        unfold putKV
        rw [get_any, hnone, List.map_append]
        rfl
      rw [e, ih (acc ++ [(a, c)]) (by rw [List.append_assoc]; exact h), List.append_assoc]
      rfl
  have p := pairs_map D.str cD fD (fun _ => rfl) F
  show biD .dict [.lst (F.map fD)] = _
  have k0 := key F [] (by simpa using hn)
  simp only [List.map_nil, List.nil_append] at k0
  have hall := dcF_flat F
  simp only [biD, p, hall, if_true, k0]
  rfl
/-- the unknowns of a same rule stand in its body -/
def Rule.Ok : Rule → Prop
  | .must b h => (∀ p ∈ h, p.2.length ≤ 100) ∧ h.length ≤ 100
  | .same b o t => ∀ x, (o = .any x ∨ t = .any x) → ∃ p ∈ b, Term.any x ∈ p.2
def isBrT (rows : List Row) : Rule → Fit → Bool
  | .must _ h, F => !goesT rows h F
  | .same _ o t, F => !decide (flT F o = flT F t)
def brokenT (rows : List Row) (r : Rule) : List Fit := (fitsT rows r.body).filter (isBrT rows r)
def dIsBroken : MP.Def := { np := 3, N := ["rows", "rule", "fit"], own := [.sh, .sh, .sh], ro := .sh, body := (.cons (.ifs (.cmp .eq (.idx (.var 1) (.int 0)) (.str "must")) (.cons (.ret (.not (.call "goes_on" (.cons (.var 0) (.cons (.idx (.var 1) (.int 2)) (.cons (.bi .dict (.cons (.var 2) .nil)) .nil)))))) .nil) .nil) (.cons (.ret (.cmp .ne (.call "cell_of" (.cons (.idx (.var 1) (.int 2)) (.cons (.var 2) .nil))) (.call "cell_of" (.cons (.idx (.var 1) (.int 3)) (.cons (.var 2) .nil))))) .nil)) }
theorem isBroken_ok (hK : T "taken" = some dTaken) (hG : T "goes_on" = some dGoesOn) (hC : T "cell_of" = some dCellOf) (hT : T "is_broken" = some dIsBroken) (k : Nat) (rows : List Row) (r : Rule) (F : Fit) (ho : r.Ok) (hk : ∀ b h, r = .must b h → h.length < k) (hn : (keysF F).Nodup) (hl : F.length ≤ 100000)
    (hb : ∀ p ∈ r.body, ∀ x, Term.any x ∈ p.2 → x ∈ keysF F) : run T (k + 2) "is_broken" [.lst (rows.map rD), ruleD r, fitD F] = .ok (.bl (isBrT rows r F)) := by
  refine run_is hT rfl ?_
  have i0 := ruleD_0 r
  cases r with
  | must b h =>
    obtain ⟨h1, h2⟩ := ho
    have g := goes_ok hK hG rows h k F (hk b h rfl) h1 (by omega)
    have i2 : idxD (ruleD (.must b h)) (.int 2) = .ok (.lst (h.map pD)) := rfl
    have dd := dict_fitD hn
    generalize ruleD (.must b h) = R0 at i0 i2
    generalize D.lst (rows.map rD) = A at g
    generalize fitD F = B at dd
    show Ev _ _ [some A, some R0, some B] _
    refine Ev.tt (by simp only [evalE, evalEs, evalAnd, evalOr, evalO, evalC, evalI, varE, asgG, setMany, List.getElem?_cons_zero, List.getElem?_cons_succ, List.set_cons_zero, List.set_cons_succ, R.bind_ok, unbl, unint, lstOf, dicOf, iteT, iteA, iteO, Bool.and_true, Bool.or_false, Bool.and_false, Bool.or_true, Bool.true_and, Bool.false_and, Bool.true_or, Bool.false_or, if_true, Bool.false_eq_true, if_false, Bool.not_true, Bool.not_false, i0, cmpS_mm] <;> rfl) ?_
    exact Ev.ret (d := .bl (!goesT rows h F)) (by simp only [evalE, evalEs, evalAnd, evalOr, evalO, evalC, evalI, varE, asgG, setMany, List.getElem?_cons_zero, List.getElem?_cons_succ, List.set_cons_zero, List.set_cons_succ, R.bind_ok, unbl, unint, lstOf, dicOf, iteT, iteA, iteO, Bool.and_true, Bool.or_false, Bool.and_false, Bool.or_true, Bool.true_and, Bool.false_and, Bool.true_or, Bool.false_or, if_true, Bool.false_eq_true, if_false, Bool.not_true, Bool.not_false, i2, dd, g] <;> rfl) rfl
  | same b o t =>
    have bound : ∀ u : Term, (u = o ∨ u = t) → ∀ l, u = .any l → (lastK F l).isSome = true := fun u hu l e => by
      obtain ⟨p, hp, hx⟩ := ho l (by rcases hu with rfl | rfl; exact .inl e; exact .inr e)
      rw [lastK_lookup hn]
      cases h : F.lookup l with
      | some c => rfl
      | none => exact absurd (hb p hp l hx) (lookup_none.mp h)
    have c1 := cellOf_ok hC k o F (bound o (.inl rfl))
    have c2 := cellOf_ok hC k t F (bound t (.inr rfl))
    have i2 : idxD (ruleD (.same b o t)) (.int 2) = .ok (tD o) := rfl
    have i3 : idxD (ruleD (.same b o t)) (.int 3) = .ok (tD t) := rfl
    have q : cmpD .ne (cD (flT F o)) (cD (flT F t)) = .ok (!decide (flT F o = flT F t)) := by rw [cmp_ne, eqD_cells]; rfl
    generalize ruleD (.same b o t) = R0 at i0 i2 i3
    generalize D.lst (rows.map rD) = A
    generalize fitD F = B at c1 c2
    show Ev _ _ [some A, some R0, some B] _
    refine Ev.ff (by simp only [evalE, evalEs, evalAnd, evalOr, evalO, evalC, evalI, varE, asgG, setMany, List.getElem?_cons_zero, List.getElem?_cons_succ, List.set_cons_zero, List.set_cons_succ, R.bind_ok, unbl, unint, lstOf, dicOf, iteT, iteA, iteO, Bool.and_true, Bool.or_false, Bool.and_false, Bool.or_true, Bool.true_and, Bool.false_and, Bool.true_or, Bool.false_or, if_true, Bool.false_eq_true, if_false, Bool.not_true, Bool.not_false, i0, cmpS_sm] <;> rfl) (Ev.nil ?_)
    exact Ev.ret (d := .bl (!decide (flT F o = flT F t))) (by simp only [evalE, evalEs, evalAnd, evalOr, evalO, evalC, evalI, varE, asgG, setMany, List.getElem?_cons_zero, List.getElem?_cons_succ, List.set_cons_zero, List.set_cons_succ, R.bind_ok, unbl, unint, lstOf, dicOf, iteT, iteA, iteO, Bool.and_true, Bool.or_false, Bool.and_false, Bool.or_true, Bool.true_and, Bool.false_and, Bool.true_or, Bool.false_or, if_true, Bool.false_eq_true, if_false, Bool.not_true, Bool.not_false, i2, i3, c1, c2, q] <;> rfl) rfl
def dBroken : MP.Def := { np := 2, N := ["rows", "rule", "fit"], own := [.sh, .sh, .sh], ro := .nl, body := (.cons (.ret (.comp (.nm 2) (.of (.call "fits" (.cons (.var 0) (.cons (.idx (.var 1) (.int 1)) .nil)))) (.yes (.call "is_broken" (.cons (.var 0) (.cons (.var 1) (.cons (.var 2) .nil))))) (.var 2))) .nil) }
structure HasB (T : Str → Option Def) : Prop where
  taken : T "taken" = some dTaken
  ext : T "extended" = some dExtended
  fits : T "fits" = some dFits
  goes : T "goes_on" = some dGoesOn
  cell : T "cell_of" = some dCellOf
  isb : T "is_broken" = some dIsBroken
  brk : T "broken" = some dBroken
theorem fit_len {rows : List Row} (hr : rows.Nodup) {body : List Pat} {F : Fit} (h : IsFit rows body F) (hp : ∀ p ∈ body, p.2.length ≤ 100) (hb : body.length ≤ 900) : F.length ≤ 100000 := by
  have hsub : ∀ x ∈ keysF F, x ∈ anysL body := fun x m => anysL_mem.mpr ((h.dom x).mp m)
  have := List.Nodup.length_le_of_subset h.nd hsub
  rw [List.length_map] at this
  have h2 : (anysL body).length ≤ body.length * 100 := flatMap_le fun p m => Nat.le_trans (anyL_len _) (hp p m)
  have : body.length * 100 ≤ 900 * 100 := Nat.mul_le_mul_right _ hb
  omega
theorem broken_ok (B : HasB T) (k : Nat) (rows : List Row) (hr : rows.Nodup) (r : Rule) (hf : Few rows r.body) (ho : r.Ok) (hk : ∀ b h, r = .must b h → h.length < k + 1) :
    run T (k + 4) "broken" [.lst (rows.map rD), ruleD r] = .ok (.lst ((brokenT rows r).map fitD)) := by
  refine run_is B.brk rfl ?_
  have fo := fits_ok B.taken B.ext B.fits k rows r.body hf
  have ib := fun F (hF : IsFit rows r.body F) => isBroken_ok B.taken B.goes B.cell B.isb (k + 1) rows r F ho hk hF.nd (fit_len hr hF hf.1 hf.2.1) fun p hp x hx => hF.bound hp hx
  have i1 := ruleD_1 r
  have hl : (fitsT rows r.body).length < lim := by
    have h1 := extT_len (rows := rows) r.body [[]]
    rw [List.length_singleton, Nat.one_mul] at h1
    unfold fitsT
    rw [srtBy_len, List.length_map]
    exact Nat.lt_of_le_of_lt h1 (hf.2.2 _ (Nat.le_refl _))
  generalize D.lst (rows.map rD) = A at fo ib
  generalize ruleD r = R0 at ib i1
  show Ev _ _ [some A, some R0, none] _
  have c := ev_compF (F := run T (k + 3)) (g := .nm 2) (it := .of (.call "fits" (.cons (.var 0) (.cons (.idx (.var 1) (.int 1)) .nil)))) (c := .call "is_broken" (.cons (.var 0) (.cons (.var 1) (.cons (.var 2) .nil)))) (e := .var 2) (r := [some A, some R0, none]) (f := fitD) (as := fitsT rows r.body) fitD (isBrT rows r)
    (by simp only [evalE, evalEs, evalAnd, evalOr, evalO, evalC, evalI, varE, asgG, setMany, List.getElem?_cons_zero, List.getElem?_cons_succ, List.set_cons_zero, List.set_cons_succ, R.bind_ok, unbl, unint, lstOf, dicOf, iteT, iteA, iteO, Bool.and_true, Bool.or_false, Bool.and_false, Bool.or_true, Bool.true_and, Bool.false_and, Bool.true_or, Bool.false_or, if_true, Bool.false_eq_true, if_false, Bool.not_true, Bool.not_false, i1, fo, seqD] <;> rfl) (fun F m => ⟨[some A, some R0, some (fitD F)], rfl, (by simp only [evalE, evalEs, evalAnd, evalOr, evalO, evalC, evalI, varE, asgG, setMany, List.getElem?_cons_zero, List.getElem?_cons_succ, List.set_cons_zero, List.set_cons_succ, R.bind_ok, unbl, unint, lstOf, dicOf, iteT, iteA, iteO, Bool.and_true, Bool.or_false, Bool.and_false, Bool.or_true, Bool.true_and, Bool.false_and, Bool.true_or, Bool.false_or, if_true, Bool.false_eq_true, if_false, Bool.not_true, Bool.not_false, ib F ((fitsT_mem hr _ F).mp m)] <;> rfl), fun _ => (by simp only [evalE, evalEs, evalAnd, evalOr, evalO, evalC, evalI, varE, asgG, setMany, List.getElem?_cons_zero, List.getElem?_cons_succ, List.set_cons_zero, List.set_cons_succ, R.bind_ok, unbl, unint, lstOf, dicOf, iteT, iteA, iteO, Bool.and_true, Bool.or_false, Bool.and_false, Bool.or_true, Bool.true_and, Bool.false_and, Bool.true_or, Bool.false_or, if_true, Bool.false_eq_true, if_false, Bool.not_true, Bool.not_false] <;> rfl)⟩) (Nat.le_of_lt hl)
  exact Ev.ret (d := .lst ((brokenT rows r).map fitD)) c rfl
def dKeeps : MP.Def := { np := 2, N := ["rows", "rules", "rule"], own := [.sh, .sh, .sh], ro := .sh, body := (.cons (.loop (.nm 2) (.of (.var 1)) [2] (.cons (.ifs (.cmp .ne (.call "broken" (.cons (.var 0) (.cons (.var 2) .nil))) (.lst .nil)) (.cons (.ret (.bl false)) .nil) .nil) .nil)) (.cons (.ret (.bl true)) .nil)) }
def keepsT (rows : List Row) (rules : List Rule) : Bool := rules.all fun r => decide (brokenT rows r = [])
theorem fits_nil (Fs : List Fit) : cmpD .ne (.lst (Fs.map fitD)) (.lst []) = .ok (!decide (Fs = [])) := by
  have := eqD_fitss Fs []
  rw [cmp_ne, show D.lst [] = D.lst (([] : List Fit).map fitD) from rfl, this]
  rfl
theorem keeps_ok (B : HasB T) (hT : T "keeps" = some dKeeps) (k : Nat) (rows : List Row) (hr : rows.Nodup) (rules : List Rule) (hf : ∀ r ∈ rules, Few rows r.body ∧ r.Ok ∧ ∀ b h, r = .must b h → h.length < k + 1) :
    run T (k + 5) "keeps" [.lst (rows.map rD), .lst (rules.map ruleD)] = .ok (.bl (keepsT rows rules)) := by
  refine run_is hT rfl ?_
  have br := fun r (m : r ∈ rules) => broken_ok B k rows hr r (hf r m).1 (hf r m).2.1 (hf r m).2.2
  have sq : seqD (.lst (rules.map ruleD)) = .ok (rules.map ruleD) := rfl
  generalize D.lst (rows.map rD) = A at br
  generalize D.lst (rules.map ruleD) = R0 at sq
  show Ev _ _ [some A, some R0, none] _
  refine Ev.loopQ ruleD rules (fun pre e => e = [some A, some R0, none] ∧ keepsT rows pre = true) (by simp only [evalE, evalEs, evalAnd, evalOr, evalO, evalC, evalI, varE, asgG, setMany, List.getElem?_cons_zero, List.getElem?_cons_succ, List.set_cons_zero, List.set_cons_succ, R.bind_ok, unbl, unint, lstOf, dicOf, iteT, iteA, iteO, Bool.and_true, Bool.or_false, Bool.and_false, Bool.or_true, Bool.true_and, Bool.false_and, Bool.true_or, Bool.false_or, if_true, Bool.false_eq_true, if_false, Bool.not_true, Bool.not_false, sq] <;> rfl) ⟨rfl, rfl⟩ ?_ ?_
  · rintro pre r suf _ hs ⟨rfl, hk⟩
    have hm : r ∈ rules := by rw [hs]; simp
    refine ⟨[some A, some R0, some (ruleD r)], rfl, ?_⟩
    refine Ev.ite (p := !decide (brokenT rows r = [])) (by simp only [evalE, evalEs, evalAnd, evalOr, evalO, evalC, evalI, varE, asgG, setMany, List.getElem?_cons_zero, List.getElem?_cons_succ, List.set_cons_zero, List.set_cons_succ, R.bind_ok, unbl, unint, lstOf, dicOf, iteT, iteA, iteO, Bool.and_true, Bool.or_false, Bool.and_false, Bool.or_true, Bool.true_and, Bool.false_and, Bool.true_or, Bool.false_or, if_true, Bool.false_eq_true, if_false, Bool.not_true, Bool.not_false, br r hm, fits_nil] <;> rfl) (fun h => ?_) (fun h => ?_)
    · refine Ev.ret (d := .bl false) (by simp only [evalE, evalEs, evalAnd, evalOr, evalO, evalC, evalI, varE, asgG, setMany, List.getElem?_cons_zero, List.getElem?_cons_succ, List.set_cons_zero, List.set_cons_succ, R.bind_ok, unbl, unint, lstOf, dicOf, iteT, iteA, iteO, Bool.and_true, Bool.or_false, Bool.and_false, Bool.or_true, Bool.true_and, Bool.false_and, Bool.true_or, Bool.false_or, if_true, Bool.false_eq_true, if_false, Bool.not_true, Bool.not_false] <;> rfl) ?_
      show Fl.rt _ = Fl.rt _
      have : keepsT rows rules = false := by
        unfold keepsT
        rw [List.all_eq_false]
        exact ⟨r, hm, by simpa using h⟩
      rw [this]
    · refine Ev.nil (Ev.nil ⟨rfl, ?_⟩)
      unfold keepsT at hk ⊢
      rw [List.all_append, hk, Bool.true_and, List.all_cons, List.all_nil, Bool.and_true]
      simpa using h
  · rintro _ ⟨rfl, hk⟩
    refine Ev.ret (d := .bl true) (by simp only [evalE, evalEs, evalAnd, evalOr, evalO, evalC, evalI, varE, asgG, setMany, List.getElem?_cons_zero, List.getElem?_cons_succ, List.set_cons_zero, List.set_cons_succ, R.bind_ok, unbl, unint, lstOf, dicOf, iteT, iteA, iteO, Bool.and_true, Bool.or_false, Bool.and_false, Bool.or_true, Bool.true_and, Bool.false_and, Bool.true_or, Bool.false_or, if_true, Bool.false_eq_true, if_false, Bool.not_true, Bool.not_false] <;> rfl) ?_
    rw [hk]
end
end LC
/-! Broken fits, mended: goes on, by what there is. -/
namespace LC
open PySem MP

theorem takenT_full {ts : List Term} {cs : List Cell} {F H : Fit} (hl : ts.length = cs.length) (he : Ext F H) (h : ∀ q ∈ ts.zip cs, Goes H q.1 q.2) : ∃ G, takenT ts cs F = some G ∧ Ext G H := by
  unfold takenT
  rw [if_pos hl]
  exact takeT_full H _ F he h
theorem goesT_iff {rows : List Row} : ∀ (ps : List Pat) (F : Fit), (keysF F).Nodup → (goesT rows ps F = true ↔ ∃ H, Ext F H ∧ ∀ p ∈ ps, ∃ r ∈ rows, Sat H p r)
  | [], F, _ => ⟨fun _ => ⟨F, Ext.refl F, (fun _ m => nomatch m)⟩, fun _ => rfl⟩
  | p :: ps, F, hn => by
    show (rows.any _) = true ↔ _
    rw [List.any_eq_true]
    constructor
    · rintro ⟨r, hr, h⟩
      rw [Bool.and_eq_true] at h
      obtain ⟨h1, h2⟩ := h
      cases hG : takenT p.2 r.2 F with
      | none => rw [hG] at h2; cases h2
      | some G =>
        rw [hG] at h2
        obtain ⟨g1, g2, g3, g4, _⟩ := takenT_sound hG hn
        obtain ⟨H, a1, a2⟩ := (goesT_iff ps G g1).mp h2
        refine ⟨H, g2.trans a1, fun q m => ?_⟩
        rcases List.mem_cons.mp m with rfl | m
        · exact ⟨r, hr, of_decide_eq_true h1, g3, fun z mz => (g4 z mz).ext a1⟩
        · exact a2 q m
    · rintro ⟨H, he, h⟩
      obtain ⟨r, hr, s1, s2, s3⟩ := h p List.mem_cons_self
      obtain ⟨G, g1, g2⟩ := takenT_full s2 he s3
      refine ⟨r, hr, ?_⟩
      rw [g1, decide_eq_true s1, Bool.true_and]
      exact (goesT_iff ps G (takenT_sound g1 hn).1).mpr ⟨H, g2, fun q m => h q (List.mem_cons_of_mem _ m)⟩
theorem goesT_mono {rows rows' : List Row} (hs : ∀ r ∈ rows, r ∈ rows') {ps : List Pat} {F : Fit} (hn : (keysF F).Nodup) (h : goesT rows ps F = true) : goesT rows' ps F = true := by
  obtain ⟨H, h1, h2⟩ := (goesT_iff ps F hn).mp h
  exact (goesT_iff ps F hn).mpr ⟨H, h1, fun p m => by
    obtain ⟨r, hr, hs'⟩ := h2 p m
    exact ⟨r, hs r hr, hs'⟩⟩
theorem brokenT_must {rows : List Row} (hr : rows.Nodup) {b h : List Pat} {F : Fit} : F ∈ brokenT rows (.must b h) ↔ IsFit rows b F ∧ goesT rows h F = false := by
  unfold brokenT
  rw [List.mem_filter, show (Rule.must b h).body = b from rfl, fitsT_mem hr]
  show _ ∧ (!goesT rows h F) = true ↔ _
  rw [Bool.not_eq_true']
theorem freshT_mem {b h : List Pat} {x : Str} : x ∈ freshT b h ↔ (∃ p ∈ h, Term.any x ∈ p.2) ∧ ¬ ∃ p ∈ b, Term.any x ∈ p.2 := by
  unfold freshT
  rw [List.mem_filter, lettersT_mem]
  simp only [Bool.not_eq_true', decide_eq_false_iff_not, lettersT_mem]
theorem freshT_nd (b h : List Pat) : (freshT b h).Nodup := (lettersT_nodup h).sublist List.filter_sublist
/-- a fit and cells for fresh letters: the head goes on over its own rows -/
theorem new_nd {rows : List Row} {b h : List Pat} {F N : Fit} (hF : IsFit rows b F) (hN : keysF N = freshT b h) : (keysF (F ++ N)).Nodup := by
  rw [keysF_app, hN, List.nodup_append]
  exact ⟨hF.nd, freshT_nd b h, fun x m y m2 e => (freshT_mem.mp m2).2 (by rw [← e]; exact (hF.dom x).mp m)⟩
theorem new_bound {rows : List Row} {b h : List Pat} {F N : Fit} (hF : IsFit rows b F) (hN : keysF N = freshT b h) {p : Pat} (hp : p ∈ h) {x : Str} (hx : Term.any x ∈ p.2) : x ∈ keysF (ordF (F ++ N)) := by
  rw [(ordF_keys _).mem_iff, keysF_app, List.mem_append, hN]
  by_cases hb : ∃ q ∈ b, Term.any x ∈ q.2
  · exact .inl ((hF.dom x).mpr hb)
  · exact .inr (freshT_mem.mpr ⟨⟨p, hp, hx⟩, hb⟩)
theorem new_for {rows : List Row} {b h : List Pat} {F N : Fit} (hF : IsFit rows b F) (hN : keysF N = freshT b h) : FitFor (ordF (F ++ N)) h := fun p hp x hx => by
  have hn := ordF_nd (new_nd hF hN)
  have := new_bound hF hN hp hx
  rw [lastK_lookup hn]
  cases e : (ordF (F ++ N)).lookup x with
  | some c => rfl
  | none => exact absurd this (lookup_none.mp e)
theorem new_goes {rows W : List Row} {b h : List Pat} {F N : Fit} (hF : IsFit rows b F) (hN : keysF N = freshT b h) (hW : ∀ p ∈ h, flP (ordF (F ++ N)) p ∈ W) : goesT W h F = true := by
  have hn := new_nd hF hN
  refine (goesT_iff h F hF.nd).mpr ⟨ordF (F ++ N), fun x c hx => ?_, fun p hp => ⟨_, hW p hp, Sat.of_flP (ordF_nd hn) fun x hx => new_bound hF hN hp hx⟩⟩
  rw [ordF_lookup hn, lookup_app, hx]
theorem sorted_fit (F : Fit) : biD .sorted [.lst (F.map fD)] = .ok (.lst ((ordF F).map fD)) := by
  show sortD _ = _
  unfold sortD
  rw [if_pos (sort_fit _), srtBy_map]
  rfl
theorem slice_take {α : Type} (f : α → D) (xs : List α) (n : Nat) : sliD (.lst (xs.map f)) none (some (n : Int)) = .ok (.lst ((xs.take n).map f)) := by
  show R.ok (D.lst (sliceL (xs.map f) _ _)) = _
  unfold sliceL
  rw [HT.sIx_none, HT.sIx_nat, List.drop_zero, List.map_take]
  congr 2
  rcases Nat.le_total n (xs.map f).length with h | h
  · rw [Nat.min_eq_left h, Nat.sub_zero]
  · rw [Nat.min_eq_right h, Nat.sub_zero, List.take_of_length_le (Nat.le_refl _), List.take_of_length_le h]
/-- a pattern drawn of a row that stands -/
def dPatR : MP.Def := { np := 3, N := ["_law_letters_here", "_law_rows", "_law_cell", "_law_terms", "_law_k", "_law_table", "_law_cells", "_law_drawn"], own := [.sh, .sh, .sh, .li, .sh, .sh, .sh, .sh], ro := .sh, body := (.cons (.asg (.tp [5, 6]) (.idx (.var 1) (.bin .mod (.call "_law_mix" (.cons (.var 2) (.cons (.int 16) .nil))) (.bi .len (.cons (.var 1) .nil))))) (.cons (.asg (.nm 3) (.lst .nil)) (.cons (.loop (.nm 4) (.rng1 (.bi .len (.cons (.var 6) .nil))) [4, 7] (.cons (.asg (.nm 7) (.call "_law_mix" (.cons (.var 2) (.cons (.bin .add (.int 17) (.var 4)) .nil)))) (.cons (.ifs (.or (.cons (.cmp .eq (.idx (.idx (.var 6) (.var 4)) (.int 0)) (.str "blank")) (.cons (.cmp .eq (.bin .mod (.var 7) (.int 2)) (.int 1)) .nil))) (.cons (.app 3 (.tup (.cons (.str "any") (.cons (.idx (.var 0) (.bin .mod (.bin .fdiv (.var 7) (.int 2)) (.int 4))) .nil)))) .nil) (.cons (.app 3 (.idx (.var 6) (.var 4))) .nil)) .nil))) (.cons (.ret (.tup (.cons (.var 5) (.cons (.bi .tuple (.cons (.var 3) .nil)) .nil)))) .nil)))) }
section
variable {T : Str → Option Def}
theorem patR_ok (hM : T "_law_mix" = some dMix) {nm : Str} (hT : T nm = some dPatR) (k : Nat) (L : List Str) (hL : 4 ≤ L.length) (rows : List Row) (h0 : rows ≠ []) (hn : rows.length ≤ 100000) (h4 : ∀ r ∈ rows, r.2.length ≤ 100) (c : Int) :
    ∃ p : Pat, run T (k + 2) nm [.lst (L.map .str), .lst (rows.map rD), .int c] = .ok (pD p) ∧ ∃ r ∈ rows, p.1 = r.1 ∧ p.2.length = r.2.length := by
  have h0 : 0 < rows.length := List.length_pos_iff.mpr h0
  have m1 := mix_ok (T := T) hM k c 16 (by decide) (by decide)
  have ln := len_lst rD rows
  have b1 : binD .mod (.int (mix c 16)) (.int (rows.length : Int)) = .ok (.int ((mix c 16).fmod rows.length)) := by
    show (if ((rows.length : Int) = 0) then R.bad else R.ok (D.int _)) = _
    rw [if_neg (by omega)]
  obtain ⟨j, hj, ej⟩ := fmod_nat (mix c 16) rows.length h0
  have ej : (mix c 16).fmod rows.length = j := ej
  rw [ej] at b1
  have i1 := idx_get rD (xs := rows) (i := (j : Int)) (by omega) (by omega)
  have hm : rows[(j : Int).toNat] ∈ rows := List.getElem_mem _
  generalize rows[(j : Int).toNat] = r at i1 hm
  have iL := fun (i : Int) (a : 0 ≤ i) (b : i.toNat < L.length) => idx_get D.str a b
  suffices ∃ p : Pat, p.1 = r.1 ∧ p.2.length = r.2.length ∧ run T (k + 2) nm [.lst (L.map .str), .lst (rows.map rD), .int c] = .ok (pD p) by
    obtain ⟨p, a, b, d⟩ := this
    exact ⟨p, d, r, hm, a, b⟩
  suffices ∃ d, run T (k + 2) nm [.lst (L.map .str), .lst (rows.map rD), .int c] = .ok d ∧ ∃ ts : List Term, ts.length = r.2.length ∧ d = pD (r.1, ts) by
    obtain ⟨d, h, ts, h1, rfl⟩ := this
    exact ⟨(r.1, ts), rfl, h1, h⟩
  refine run_ev hT rfl ?_
  generalize D.lst (L.map .str) = A at iL
  generalize D.lst (rows.map rD) = B at ln i1
  show Ev _ _ [some A, some B, some (.int c), none, none, none, none, none] _
  refine Ev.asgT (ds := [.str r.1, .tup (r.2.map cD)]) (by simp only [evalE, evalEs, evalAnd, evalOr, evalO, evalC, evalI, varE, asgG, setMany, List.getElem?_cons_zero, List.getElem?_cons_succ, List.set_cons_zero, List.set_cons_succ, R.bind_ok, unbl, unint, lstOf, dicOf, iteT, iteA, iteO, Bool.and_true, Bool.or_false, Bool.and_false, Bool.or_true, Bool.true_and, Bool.false_and, Bool.true_or, Bool.false_or, if_true, Bool.false_eq_true, if_false, Bool.not_true, Bool.not_false, m1, ln, b1, i1, rD] <;> rfl) rfl ?_
  show Ev _ _ [some A, some B, some (.int c), none, none, some (.str r.1), some (.tup (r.2.map cD)), none] _
  refine Ev.asg (d := .lst []) (by simp only [evalE, evalEs, evalAnd, evalOr, evalO, evalC, evalI, varE, asgG, setMany, List.getElem?_cons_zero, List.getElem?_cons_succ, List.set_cons_zero, List.set_cons_succ, R.bind_ok, unbl, unint, lstOf, dicOf, iteT, iteA, iteO, Bool.and_true, Bool.or_false, Bool.and_false, Bool.or_true, Bool.true_and, Bool.false_and, Bool.true_or, Bool.false_or, if_true, Bool.false_eq_true, if_false, Bool.not_true, Bool.not_false] <;> rfl) ?_
  have l4 := h4 r hm
  have lt := len_tup cD r.2
  refine Ev.loopQ (fun (i : Nat) => D.int i) (List.range r.2.length) (fun pre e => ∃ ts : List Term, ts.length = pre.length ∧ e = [some A, some B, some (.int c), some (.lst (ts.map tD)), none, some (.str r.1), some (.tup (r.2.map cD)), none]) (ev_rng1 (by simp only [evalE, evalEs, evalAnd, evalOr, evalO, evalC, evalI, varE, asgG, setMany, List.getElem?_cons_zero, List.getElem?_cons_succ, List.set_cons_zero, List.set_cons_succ, R.bind_ok, unbl, unint, lstOf, dicOf, iteT, iteA, iteO, Bool.and_true, Bool.or_false, Bool.and_false, Bool.or_true, Bool.true_and, Bool.false_and, Bool.true_or, Bool.false_or, if_true, Bool.false_eq_true, if_false, Bool.not_true, Bool.not_false, lt] <;> rfl) (LC.small_of (by omega) (by omega)) (by omega)) ⟨[], rfl, rfl⟩ ?_ ?_
  · rintro pre i suf _ hs ⟨ts, hl, rfl⟩
    have hi : i < r.2.length := List.mem_range.mp (by rw [hs]; simp)
    have hpl : pre.length < r.2.length := by
      have := congrArg List.length hs
      rw [List.length_range, List.length_append, List.length_cons] at this
      omega
    refine ⟨[some A, some B, some (.int c), some (.lst (ts.map tD)), some (.int i), some (.str r.1), some (.tup (r.2.map cD)), none], rfl, ?_⟩
    have mi := mix_ok (T := T) hM k c (17 + i) (by omega) (by omega)
    have a1 : binD .add (.int 17) (.int (i : Int)) = .ok (.int (17 + i)) := rfl
    generalize mix c (17 + i) = m at mi
    refine Ev.asg (d := .int m) (by simp only [evalE, evalEs, evalAnd, evalOr, evalO, evalC, evalI, varE, asgG, setMany, List.getElem?_cons_zero, List.getElem?_cons_succ, List.set_cons_zero, List.set_cons_succ, R.bind_ok, unbl, unint, lstOf, dicOf, iteT, iteA, iteO, Bool.and_true, Bool.or_false, Bool.and_false, Bool.or_true, Bool.true_and, Bool.false_and, Bool.true_or, Bool.false_or, if_true, Bool.false_eq_true, if_false, Bool.not_true, Bool.not_false, a1, mi] <;> rfl) ?_
    have ci := idx_getT cD (xs := r.2) (i := (i : Int)) (by omega) (by omega)
    generalize r.2[(i : Int).toNat] = cc at ci
    have b2 : binD .mod (.int m) (.int 2) = .ok (.int (m.fmod 2)) := rfl
    have b3 : binD .fdiv (.int m) (.int 2) = .ok (.int (m.fdiv 2)) := rfl
    have b4 : binD .mod (.int (m.fdiv 2)) (.int 4) = .ok (.int ((m.fdiv 2).fmod 4)) := rfl
    obtain ⟨q, hq, eq⟩ := fmod_nat (m.fdiv 2) 4 (by decide)
    have eq : (m.fdiv 2).fmod 4 = q := eq
    rw [eq] at b4
    have li := iL q (by omega) (by omega)
    generalize L[(q : Int).toNat] = l at li
    have lm : (ts.map tD).length < lim := by rw [List.length_map]; show _ < 16777216; omega
    have fin : ∀ t, ([some A, some B, some (.int c), some (.lst (ts.map tD ++ [tD t])), none, some (.str r.1), some (.tup (r.2.map cD)), none] : MP.Env) = [some A, some B, some (.int c), some (.lst ((ts ++ [t]).map tD)), none, some (.str r.1), some (.tup (r.2.map cD)), none] := fun t => by rw [List.map_append]; rfl
    have e2 : cmpD .eq (.int (m.fmod 2)) (.int 1) = .ok (decide (m.fmod 2 = 1)) := cmpI_eq _ _
    have done : ∀ t, (∃ ts' : List Term, ts'.length = (pre ++ [i]).length ∧ ([some A, some B, some (.int c), some (.lst (ts.map tD ++ [tD t])), none, some (.str r.1), some (.tup (r.2.map cD)), none] : MP.Env) = [some A, some B, some (.int c), some (.lst (ts'.map tD)), none, some (.str r.1), some (.tup (r.2.map cD)), none]) := fun t => ⟨ts ++ [t], by simp [hl], fin t⟩
    cases cc with
    | blank n =>
      refine Ev.tt (by simp only [evalE, evalEs, evalAnd, evalOr, evalO, evalC, evalI, varE, asgG, setMany, List.getElem?_cons_zero, List.getElem?_cons_succ, List.set_cons_zero, List.set_cons_succ, R.bind_ok, unbl, unint, lstOf, dicOf, iteT, iteA, iteO, Bool.and_true, Bool.or_false, Bool.and_false, Bool.or_true, Bool.true_and, Bool.false_and, Bool.true_or, Bool.false_or, if_true, Bool.false_eq_true, if_false, Bool.not_true, Bool.not_false, ci, cellD_0, cmpS_qbb] <;> rfl) ?_
      exact Ev.app (v := tD (.any l)) rfl (by simp only [evalE, evalEs, evalAnd, evalOr, evalO, evalC, evalI, varE, asgG, setMany, List.getElem?_cons_zero, List.getElem?_cons_succ, List.set_cons_zero, List.set_cons_succ, R.bind_ok, unbl, unint, lstOf, dicOf, iteT, iteA, iteO, Bool.and_true, Bool.or_false, Bool.and_false, Bool.or_true, Bool.true_and, Bool.false_and, Bool.true_or, Bool.false_or, if_true, Bool.false_eq_true, if_false, Bool.not_true, Bool.not_false, b3, b4, li, tD] <;> rfl) lm (Ev.nil (Ev.nil (done _)))
    | name s =>
      refine Ev.ite (p := decide (m.fmod 2 = 1)) ?_ (fun _ => ?_) (fun _ => ?_)
      · simp only [evalE, evalEs, evalAnd, evalOr, evalO, evalC, evalI, varE, asgG, setMany, List.getElem?_cons_zero, List.getElem?_cons_succ, List.set_cons_zero, List.set_cons_succ, R.bind_ok, unbl, unint, lstOf, dicOf, iteT, iteA, iteO, Bool.and_true, Bool.or_false, Bool.and_false, Bool.or_true, Bool.true_and, Bool.false_and, Bool.true_or, Bool.false_or, if_true, Bool.false_eq_true, if_false, Bool.not_true, Bool.not_false, ci, cellD_0, cmpS_qnb, b2, e2]
      · exact Ev.app (v := tD (.any l)) rfl (by simp only [evalE, evalEs, evalAnd, evalOr, evalO, evalC, evalI, varE, asgG, setMany, List.getElem?_cons_zero, List.getElem?_cons_succ, List.set_cons_zero, List.set_cons_succ, R.bind_ok, unbl, unint, lstOf, dicOf, iteT, iteA, iteO, Bool.and_true, Bool.or_false, Bool.and_false, Bool.or_true, Bool.true_and, Bool.false_and, Bool.true_or, Bool.false_or, if_true, Bool.false_eq_true, if_false, Bool.not_true, Bool.not_false, b3, b4, li, tD] <;> rfl) lm (Ev.nil (Ev.nil (done _)))
      · exact Ev.app (v := tD (.nm s)) rfl (by simp only [evalE, evalEs, evalAnd, evalOr, evalO, evalC, evalI, varE, asgG, setMany, List.getElem?_cons_zero, List.getElem?_cons_succ, List.set_cons_zero, List.set_cons_succ, R.bind_ok, unbl, unint, lstOf, dicOf, iteT, iteA, iteO, Bool.and_true, Bool.or_false, Bool.and_false, Bool.or_true, Bool.true_and, Bool.false_and, Bool.true_or, Bool.false_or, if_true, Bool.false_eq_true, if_false, Bool.not_true, Bool.not_false, ci, tD, cD] <;> rfl) lm (Ev.nil (Ev.nil (done _)))
  · rintro _ ⟨ts, hl, rfl⟩
    rw [List.length_range] at hl
    have tp : ∀ xs, biD .tuple [.lst xs] = .ok (.tup xs) := fun _ => rfl
    exact Ev.ret (d := pD (r.1, ts)) (by simp only [evalE, evalEs, evalAnd, evalOr, evalO, evalC, evalI, varE, asgG, setMany, List.getElem?_cons_zero, List.getElem?_cons_succ, List.set_cons_zero, List.set_cons_succ, R.bind_ok, unbl, unint, lstOf, dicOf, iteT, iteA, iteO, Bool.and_true, Bool.or_false, Bool.and_false, Bool.or_true, Bool.true_and, Bool.false_and, Bool.true_or, Bool.false_or, if_true, Bool.false_eq_true, if_false, Bool.not_true, Bool.not_false, tp, pD] <;> rfl) ⟨_, rfl, ts, hl, rfl⟩
end
end LC
/-! answers. -/
namespace LC
open PySem MP

/-- how a turn over a name's own list may end: on, or out of the def -/
def TurnW (ks : List Nat) (J : MP.Env → Prop) (Q : Fl → MP.Env → Prop) : Fl → MP.Env → Prop
  | .nx, e => J (killR ks e)
  | .ct, e => J (killR ks e)
  | .bk, _ => False
  | .rt v, e => Q (.rt v) e
/-- a loop over a list that is a name's own -/
theorem Ev.loopW {α : Type} {F : Orc} {g : IG} {x : Nat} {ks : List Nat} {a ss : ISs} {r : MP.Env} {Q : Fl → MP.Env → Prop} (f : α → D) (as : List α) (I : List α → MP.Env → Prop) (hv : varE x r = .ok (.lst (as.map f))) (h0 : I [] (killR ks (r.set x none)))
    (hs : ∀ pre y suf e, as = pre ++ y :: suf → I pre e → ∃ e', asgG g (f y) e = .ok e' ∧ Ev F a e' (TurnW ks (I (pre ++ [y])) Q))
    (k : ∀ e, I as e → Ev F ss (e.set x (some (.lst (as.map f)))) Q) : Ev F (.cons (.loopV g x ks a) ss) r Q := by
  suffices ∀ (ys : List α) (pre : List α) (r : MP.Env), as = pre ++ ys → I pre (killR ks r) → ∃ fl e, forL ks (fun y r => (asgG g y r).bind fun r' => evalSs F a r') (ys.map f) r = .ok (fl, e) ∧ ((fl = .nx ∧ I as e) ∨ ∃ v, fl = .rt v ∧ Q (.rt v) e) by
    obtain ⟨fl, e, h1, h2⟩ := this as [] (r.set x none) rfl h0
    rcases h2 with ⟨rfl, hI⟩ | ⟨v, rfl, hq⟩
    · have h3 : evalS F (.loopV g x ks a) r = .ok (.nx, e.set x (some (.lst (as.map f)))) := by
        rw [evalS, hv, R.bind_ok]
        show (R.ok (as.map f)).bind _ = _
        rw [R.bind_ok, h1, R.bind_ok]
      exact Ev.step h3 (k e hI)
    · have h3 : evalS F (.loopV g x ks a) r = .ok (.rt v, e) := by
        rw [evalS, hv, R.bind_ok]
        show (R.ok (as.map f)).bind _ = _
        rw [R.bind_ok, h1, R.bind_ok]
      exact ⟨_, _, by rw [evalSs, h3]; rfl, hq⟩
  intro ys
  induction ys with
  | nil =>
    intro pre r e h
    rw [List.append_nil] at e
    subst e
    exact ⟨.nx, _, rfl, .inl ⟨rfl, h⟩⟩
  | cons y ys ih =>
    intro pre r e h
    obtain ⟨e', h1, fl, e2, h2, h3⟩ := hs pre y ys _ e h
    have hb : ((asgG g (f y) (killR ks r)).bind fun r' => evalSs F a r') = .ok (fl, e2) := by
      rw [h1]; exact h2
    rw [List.map_cons]
    unfold forL
    rw [hb, R.bind_ok]
    have next : I (pre ++ [y]) (killR ks e2) → ∃ fl e, forL ks (fun y r => (asgG g y r).bind fun r' => evalSs F a r') (ys.map f) e2 = .ok (fl, e) ∧ ((fl = .nx ∧ I as e) ∨ ∃ v, fl = .rt v ∧ Q (.rt v) e) := fun h => ih (pre ++ [y]) e2 (by rw [e]; simp) h
    cases fl with
    | nx => exact next h3
    | ct => exact next h3
    | bk => exact h3.elim
    | rt v => exact ⟨.rt v, _, rfl, .inr ⟨v, rfl, h3⟩⟩
/-! ### keys, each once -/
section
variable {α : Type} [DecidableEq α] (f : α → D)
def kG (ks : List α) : List (D × D) := ks.map fun n => (f n, .bl true)
def addG (ks : List α) (x : α) : List α := if x ∈ ks then ks else ks ++ [x]
variable {f}
theorem kG_any (hi : ∀ {a b : α}, f a = f b ↔ a = b) (ks : List α) (x : α) : ((kG f ks).any fun p => decide (p.1 = f x)) = decide (x ∈ ks) := by
  induction ks with
  | nil => rfl
  | cons k ks ih =>
    show (decide (f k = f x) || (kG f ks).any _) = _
    rw [ih]
    by_cases h : k = x
    · subst h; simp
    · have h1 : ¬ x = k := fun e => h e.symm
      have h2 : ¬ f k = f x := fun e => h (hi.mp e)
      simp [h1, h2]
theorem kG_put (hi : ∀ {a b : α}, f a = f b ↔ a = b) (ks : List α) (x : α) : putKV (kG f ks) (f x) (.bl true) = kG f (addG ks x) := by
  unfold putKV addG
  rw [kG_any hi]
  by_cases h : x ∈ ks
  · rw [if_pos (by simpa using h), if_pos h]
    unfold kG
    rw [List.map_map]
    refine List.map_congr_left fun s _ => ?_
    simp only [Function.comp]
    split <;> rfl
  · rw [if_neg (by simpa using h), if_neg h]
    simp [kG]
theorem addG_mem {ks : List α} {x s : α} : s ∈ addG ks x ↔ s ∈ ks ∨ s = x := by
  unfold addG
  split
  · rename_i h
    exact ⟨.inl, fun z => z.elim id fun e => e ▸ h⟩
  · simp
theorem addG_nd {ks : List α} {x : α} (h : ks.Nodup) : (addG ks x).Nodup := by
  unfold addG
  split
  · exact h
  · rename_i hx
    rw [List.nodup_append]
    exact ⟨h, by simp, fun a ha b hb e => hx (by rw [← List.mem_singleton.mp hb, ← e]; exact ha)⟩
theorem foldG_mem (xs : List α) : ∀ (ks : List α) (s : α), s ∈ xs.foldl addG ks ↔ s ∈ ks ∨ s ∈ xs := by
  induction xs with
  | nil => intro ks s; simp
  | cons x xs ih =>
    intro ks s
    rw [List.foldl_cons, ih, addG_mem, List.mem_cons, or_assoc]
theorem foldG_nd : ∀ (as ks : List α), ks.Nodup → (as.foldl addG ks).Nodup
  | [], _, h => h
  | a :: as, ks, h => foldG_nd as _ (addG_nd h)
theorem foldG_len (xs : List α) : ∀ (ks : List α), (xs.foldl addG ks).length ≤ ks.length + xs.length := by
  induction xs with
  | nil => intro ks; exact Nat.le_refl _
  | cons x xs ih =>
    intro ks
    rw [List.foldl_cons, List.length_cons]
    have := ih (addG ks x)
    have h2 : (addG ks x).length ≤ ks.length + 1 := by
      unfold addG
      split
      · omega
      · simp
    omega
end
theorem weak_strict {α : Type} {f : α → D} (hi : ∀ {a b : α}, f a = f b ↔ a = b) {l : List α} (hp : ∀ a ∈ l, plainN 30 (f a) = true) (hw : Weak f l) (hn : l.Nodup) : Strict f l := by
  unfold Weak at hw
  unfold Strict
  rw [List.nodup_iff_pairwise_ne] at hn
  refine (hn.and hw).imp_of_mem fun {a b} ha hb h => ?_
  have O := ord_plain 30
  rcases O.tri _ _ (hp a ha) (hp b hb) (fun e => h.1 (hi.mp e)) with q | q
  · exact q
  · rw [h.2] at q; cases q
/-! ### answers -/
def aD (a : List Cell) : D := .tup (a.map cD)
theorem aD_inj {a b : List Cell} : aD a = aD b ↔ a = b := by
  unfold aD
  rw [D.tup.injEq]
  exact map_inj cD_inj
theorem plN_aD (n : Nat) (a : List Cell) : plainN (n + 2) (aD a) = true := plainN_tup fun x m => by
  obtain ⟨c, _, rfl⟩ := List.mem_map.mp m
  exact plN_cD n c
theorem cmp_aD (a b : List Cell) : cmpOk (aD a) (aD b) = true := by
  have h : Oks (ltD (aD a) (aD b)) := ltGo_cells 28 a b
  obtain ⟨c, h⟩ := h
  unfold cmpOk
  rw [h]
/-- answers of one width, unlike: they can be sorted -/
theorem sort_ans {n : Nat} {as : List (List Cell)} (hn : as.Nodup) (hw : ∀ a ∈ as, a.length = n) : sortOk (as.map aD) = true := by
  unfold sortOk
  rw [Bool.or_eq_true]
  cases n with
  | zero =>
    left
    have : ∀ a ∈ as, a = [] := fun a m => List.length_eq_zero_iff.mp (hw a m)
    match as, hn, this with
    | [], _, _ => rfl
    | [_], _, _ => rfl
    | a :: b :: _, hn, h =>
      rw [List.nodup_cons] at hn
      exact absurd (by rw [h a List.mem_cons_self, h b (by simp)]; exact List.mem_cons_self) hn.1
  | succ n =>
    right
    have key : ∀ a ∈ as, kindD (aD a) = 3 ∧ kind1 (aD a) = 3 := fun a m => by
      have := hw a m
      cases a with
      | nil => cases this
      | cons c cs => cases c <;> exact ⟨rfl, rfl⟩
    rw [List.all_eq_true]
    intro d hd
    obtain ⟨s, ms, rfl⟩ := List.mem_map.mp hd
    obtain ⟨a1, a2⟩ := key s ms
    have a3 : MP.plain (aD s) = true := plN_aD 28 s
    simp only [Bool.and_eq_true, List.all_eq_true, a1, a2, a3]
    refine ⟨⟨⟨⟨by decide, by decide⟩, by decide⟩, trivial⟩, fun e he => ?_⟩
    obtain ⟨t, mt, rfl⟩ := List.mem_map.mp he
    obtain ⟨b1, b2⟩ := key t mt
    rw [b1, b2]
    exact ⟨⟨by decide, by decide⟩, cmp_aD s t⟩
theorem tup_aD (a : List Cell) : tupKey (aD a) = true := by
  unfold tupKey
  rw [Bool.and_eq_true]
  refine ⟨rfl, ?_⟩
  show (a.map cD).all (keyN 7) = true
  rw [List.all_eq_true]
  intro d hd
  obtain ⟨c, _, rfl⟩ := List.mem_map.mp hd
  cases c <;> rfl
theorem kG_tup (ks : List (List Cell)) : ((kG aD ks).all fun p => tupKey p.1) = true := by
  rw [List.all_eq_true]
  intro p hp
  obtain ⟨s, _, rfl⟩ := List.mem_map.mp hp
  exact tup_aD s
theorem tupFor_aD (ks : List (List Cell)) (a : List Cell) : tupFor (kG aD ks) (aD a) = true := by
  unfold tupFor
  rw [tup_aD, kG_tup]
  rfl
/-- answers, each once, in order -/
def ansS (as : List (List Cell)) : List (List Cell) := stD aD as
theorem keys_ans {n : Nat} {as : List (List Cell)} (hw : ∀ a ∈ as, a.length = n) : biD .sortedKeys [.dic (kG aD (as.foldl addG []))] = .ok (.lst ((ansS as).map aD)) := by
  have hm : ∀ a, a ∈ as.foldl addG [] ↔ a ∈ as := fun a => by rw [foldG_mem]; simp
  have hn : (as.foldl addG []).Nodup := foldG_nd as [] List.nodup_nil
  have e1 : ansS as = srtBy aD (as.foldl addG []) := by
    refine stD_uniq aD_inj (fun a _ => plN_aD 28 a) ?_ fun a => by rw [srtBy_mem, hm]
    exact weak_strict aD_inj (fun a _ => plN_aD 28 a) (srtBy_weak (n := 30) fun a _ => plN_aD 28 a) ((srtBy_perm aD _).nodup_iff.mpr hn)
  rw [e1]
  generalize as.foldl addG [] = ks at *
  have e : (kG aD ks).map (·.1) = ks.map aD := by unfold kG; rw [List.map_map]; rfl
  have so : sortD ((kG aD ks).map (·.1)) = .ok (.lst ((srtBy aD ks).map aD)) := by
    rw [e]
    unfold sortD
    rw [if_pos (sort_ans hn fun a m => hw a ((hm a).mp m)), srtBy_map]
  simp only [biD, kG_tup, if_true, so]
  split <;> rfl
def dAnswers : MP.Def := { np := 2, N := ["rows", "question", "found", "fit", "letters", "body", "by", "letter"], own := [.sh, .sh, .li, .sh, .sh, .sh, .sh, .sh], ro := .li, body := (.cons (.asg (.tp [4, 5]) (.var 1)) (.cons (.asg (.nm 2) .edic) (.cons (.loop (.nm 3) (.of (.call "fits" (.cons (.var 0) (.cons (.var 5) .nil)))) [3, 6, 7] (.cons (.asg (.nm 6) (.bi .dict (.cons (.var 3) .nil))) (.cons (.put 2 (.bi .tuple (.cons (.comp (.nm 7) (.of (.var 4)) .no (.idx (.var 6) (.var 7))) .nil)) (.bl true)) .nil))) (.cons (.ret (.bi .sortedKeys (.cons (.var 2) .nil))) .nil)))) }
def ansF (letters : List Str) (F : Fit) : List Cell := letters.map fun l => flT F (.any l)
def answersT (rows : List Row) (letters : List Str) (body : List Pat) : List (List Cell) := ansS ((fitsT rows body).map (ansF letters))
section
variable {T : Str → Option Def}
theorem answers_ok (hK : T "taken" = some dTaken) (hE : T "extended" = some dExtended) (hF : T "fits" = some dFits) (hT : T "answers" = some dAnswers) (k : Nat) (rows : List Row) (hr : rows.Nodup) (letters : List Str) (body : List Pat) (hf : Few rows body)
    (hl : letters.length ≤ 100000) (hb : ∀ l ∈ letters, ∃ p ∈ body, Term.any l ∈ p.2) :
    run T (k + 4) "answers" [.lst (rows.map rD), .tup [.lst (letters.map .str), .lst (body.map pD)]] = .ok (.lst ((answersT rows letters body).map aD)) := by
  refine run_is hT rfl ?_
  have fo := fits_ok hK hE hF k rows body hf
  have hmem := fun F => fitsT_mem hr body F
  have hfl : (fitsT rows body).length < lim := by
    have h1 := extT_len (rows := rows) body [[]]
    rw [List.length_singleton, Nat.one_mul] at h1
    unfold fitsT
    rw [srtBy_len, List.length_map]
    exact Nat.lt_of_le_of_lt h1 (hf.2.2 _ (Nat.le_refl _))
  have hN : answersT rows letters body = ansS ((fitsT rows body).map (ansF letters)) := rfl
  rw [hN]
  generalize fitsT rows body = Fs at fo hmem hfl
  have sl : seqD (.lst (letters.map .str)) = .ok (letters.map .str) := rfl
  generalize D.lst (rows.map rD) = A at fo
  generalize hQ : D.lst (letters.map .str) = L0 at sl
  generalize D.lst (body.map pD) = B at fo
  show Ev _ _ [some A, some (.tup [L0, B]), none, none, none, none, none, none] _
  refine Ev.asgT (ds := [L0, B]) (by simp only [evalE, evalEs, evalAnd, evalOr, evalO, evalC, evalI, varE, asgG, setMany, List.getElem?_cons_zero, List.getElem?_cons_succ, List.set_cons_zero, List.set_cons_succ, R.bind_ok, unbl, unint, lstOf, dicOf, iteT, iteA, iteO, Bool.and_true, Bool.or_false, Bool.and_false, Bool.or_true, Bool.true_and, Bool.false_and, Bool.true_or, Bool.false_or, if_true, Bool.false_eq_true, if_false, Bool.not_true, Bool.not_false] <;> rfl) rfl ?_
  refine Ev.asg (d := .dic []) (by simp only [evalE, evalEs, evalAnd, evalOr, evalO, evalC, evalI, varE, asgG, setMany, List.getElem?_cons_zero, List.getElem?_cons_succ, List.set_cons_zero, List.set_cons_succ, R.bind_ok, unbl, unint, lstOf, dicOf, iteT, iteA, iteO, Bool.and_true, Bool.or_false, Bool.and_false, Bool.or_true, Bool.true_and, Bool.false_and, Bool.true_or, Bool.false_or, if_true, Bool.false_eq_true, if_false, Bool.not_true, Bool.not_false] <;> rfl) ?_
  show Ev _ _ [some A, some (.tup [L0, B]), some (.dic []), none, some L0, some B, none, none] _
  refine Ev.loopQ fitD Fs (fun pre e => e = [some A, some (.tup [L0, B]), some (.dic (kG aD ((pre.map (ansF letters)).foldl addG []))), none, some L0, some B, none, none]) (by simp only [evalE, evalEs, evalAnd, evalOr, evalO, evalC, evalI, varE, asgG, setMany, List.getElem?_cons_zero, List.getElem?_cons_succ, List.set_cons_zero, List.set_cons_succ, R.bind_ok, unbl, unint, lstOf, dicOf, iteT, iteA, iteO, Bool.and_true, Bool.or_false, Bool.and_false, Bool.or_true, Bool.true_and, Bool.false_and, Bool.true_or, Bool.false_or, if_true, Bool.false_eq_true, if_false, Bool.not_true, Bool.not_false, fo, seqD] <;> rfl) rfl ?_ ?_
  · rintro pre F suf _ hs rfl
    have hFm : F ∈ Fs := by rw [hs]; simp
    have hF := (hmem F).mp hFm
    have hpl : pre.length < Fs.length := by rw [hs]; simp
    have dd := dict_fitD hF.nd
    refine ⟨[some A, some (.tup [L0, B]), some (.dic (kG aD ((pre.map (ansF letters)).foldl addG []))), some (fitD F), some L0, some B, none, none], rfl, ?_⟩
    refine Ev.asg (d := dcF F) (by simp only [evalE, evalEs, evalAnd, evalOr, evalO, evalC, evalI, varE, asgG, setMany, List.getElem?_cons_zero, List.getElem?_cons_succ, List.set_cons_zero, List.set_cons_succ, R.bind_ok, unbl, unint, lstOf, dicOf, iteT, iteA, iteO, Bool.and_true, Bool.or_false, Bool.and_false, Bool.or_true, Bool.true_and, Bool.false_and, Bool.true_or, Bool.false_or, if_true, Bool.false_eq_true, if_false, Bool.not_true, Bool.not_false, dd] <;> rfl) ?_
    show Ev _ _ [some A, some (.tup [L0, B]), some (.dic (kG aD ((pre.map (ansF letters)).foldl addG []))), some (fitD F), some L0, some B, some (dcF F), none] _
    have c := ev_compM (F := run T (k + 3)) (g := .nm 7) (it := .of (.var 4)) (e := .idx (.var 6) (.var 7)) (r := [some A, some (.tup [L0, B]), some (.dic (kG aD ((pre.map (ansF letters)).foldl addG []))), some (fitD F), some L0, some B, some (dcF F), none]) (f := D.str) (as := letters) (fun l => cD (flT F (.any l)))
      (by simp only [evalE, evalEs, evalAnd, evalOr, evalO, evalC, evalI, varE, asgG, setMany, List.getElem?_cons_zero, List.getElem?_cons_succ, List.set_cons_zero, List.set_cons_succ, R.bind_ok, unbl, unint, lstOf, dicOf, iteT, iteA, iteO, Bool.and_true, Bool.or_false, Bool.and_false, Bool.or_true, Bool.true_and, Bool.false_and, Bool.true_or, Bool.false_or, if_true, Bool.false_eq_true, if_false, Bool.not_true, Bool.not_false, sl] <;> rfl) (fun l hl => ⟨[some A, some (.tup [L0, B]), some (.dic (kG aD ((pre.map (ansF letters)).foldl addG []))), some (fitD F), some L0, some B, some (dcF F), some (.str l)], rfl, by
        have gt : idxD (dcF F) (.str l) = .ok (cD (flT F (.any l))) := by
          show (if keyFor _ _ then R.of (getKV _ _) else .bad) = _
          rw [keyFor_ok (dcF_flat F) rfl, if_pos rfl, dcF_get]
          obtain ⟨p, hp, hx⟩ := hb l hl
          have hk := hF.bound hp hx
          show _ = R.ok (cD ((lastK F l).getD _))
          rw [lastK_lookup hF.nd]
          cases h : F.lookup l with
          | some c => rfl
          | none => exact absurd hk (lookup_none.mp h)
        exact (by simp only [evalE, evalEs, evalAnd, evalOr, evalO, evalC, evalI, varE, asgG, setMany, List.getElem?_cons_zero, List.getElem?_cons_succ, List.set_cons_zero, List.set_cons_succ, R.bind_ok, unbl, unint, lstOf, dicOf, iteT, iteA, iteO, Bool.and_true, Bool.or_false, Bool.and_false, Bool.or_true, Bool.true_and, Bool.false_and, Bool.true_or, Bool.false_or, if_true, Bool.false_eq_true, if_false, Bool.not_true, Bool.not_false, gt] <;> rfl)⟩) (by show _ ≤ 16777216; omega)
    have c2 : evalE (run T (k + 3)) (.bi .tuple (.cons (.comp (.nm 7) (.of (.var 4)) .no (.idx (.var 6) (.var 7))) .nil)) [some A, some (.tup [L0, B]), some (.dic (kG aD ((pre.map (ansF letters)).foldl addG []))), some (fitD F), some L0, some B, some (dcF F), none] = .ok (aD (ansF letters F)) := by
      rw [evalE, evalEs, c, evalEs]
      show biD .tuple [.lst _] = _
      unfold aD ansF
      rw [List.map_map]
      rfl
    have kl : (kG aD ((pre.map (ansF letters)).foldl addG [])).length < lim := by
      unfold kG
      rw [List.length_map]
      have := foldG_len (pre.map (ansF letters)) []
      rw [List.length_nil, List.length_map] at this
      omega
    refine Ev.putT (vd := .bl true) (kvs := kG aD ((pre.map (ansF letters)).foldl addG [])) (kd := aD (ansF letters F)) (by simp only [evalE, evalEs, evalAnd, evalOr, evalO, evalC, evalI, varE, asgG, setMany, List.getElem?_cons_zero, List.getElem?_cons_succ, List.set_cons_zero, List.set_cons_succ, R.bind_ok, unbl, unint, lstOf, dicOf, iteT, iteA, iteO, Bool.and_true, Bool.or_false, Bool.and_false, Bool.or_true, Bool.true_and, Bool.false_and, Bool.true_or, Bool.false_or, if_true, Bool.false_eq_true, if_false, Bool.not_true, Bool.not_false] <;> rfl) rfl c2 (tupFor_aD _ _) kl (Ev.nil ?_)
    show (_ : MP.Env) = _
    rw [kG_put aD_inj, List.map_append, List.foldl_append]
    rfl
  · rintro _ rfl
    have ks := keys_ans (n := letters.length) (as := Fs.map (ansF letters)) fun a m => by
      obtain ⟨F, _, rfl⟩ := List.mem_map.mp m
      exact List.length_map ..
    exact Ev.ret (d := .lst ((ansS (Fs.map (ansF letters))).map aD)) (by simp only [evalE, evalEs, evalAnd, evalOr, evalO, evalC, evalI, varE, asgG, setMany, List.getElem?_cons_zero, List.getElem?_cons_succ, List.set_cons_zero, List.set_cons_succ, R.bind_ok, unbl, unint, lstOf, dicOf, iteT, iteA, iteO, Bool.and_true, Bool.or_false, Bool.and_false, Bool.or_true, Bool.true_and, Bool.false_and, Bool.true_or, Bool.false_or, if_true, Bool.false_eq_true, if_false, Bool.not_true, Bool.not_false, ks] <;> rfl) rfl
end
end LC
namespace K11
open PySem MP LC
def d0 : MP.Def := LC.dTaken
def d1 : MP.Def := LC.dExtended
def d2 : MP.Def := LC.dFits
def d3 : MP.Def := LC.dMix
def d4 : MP.Def := LC.dWords
def d5 : MP.Def := LC.dWorld
def d6 : MP.Def := { np := 1, N := ["_law_cell", "_law_letters_here", "_law_start", "_law_step", "_law_k"], own := [.sh, .sh, .sh, .sh, .sh], ro := .li, body := (.cons (.asg (.nm 1) (.str "ABCDEFGHIJKLMNOPQRSTUVWXYZ")) (.cons (.asg (.nm 2) (.bin .mod (.call "_law_mix" (.cons (.var 0) (.cons (.int 13) .nil))) (.int 26))) (.cons (.asg (.nm 3) (.idx (.lst (.cons (.int 1) (.cons (.int 3) (.cons (.int 5) (.cons (.int 7) (.cons (.int 9) (.cons (.int 11) .nil))))))) (.bin .mod (.call "_law_mix" (.cons (.var 0) (.cons (.int 14) .nil))) (.int 6)))) (.cons (.ret (.comp (.nm 4) (.rng1 (.int 4)) .no (.idx (.var 1) (.bin .mod (.bin .add (.var 2) (.bin .mul (.var 3) (.var 4))) (.int 26))))) .nil)))) }
def d7 : MP.Def := { np := 2, N := ["_law_world_here", "_law_number", "_law_words_here", "_law_start", "_law_step"], own := [.sh, .sh, .sh, .sh, .sh], ro := .sh, body := (.cons (.asg (.tp [2, 3, 4]) (.var 0)) (.cons (.ifs (.cmp .eq (.bin .mod (.var 1) (.int 2)) (.int 0)) (.cons (.ret (.tup (.cons (.str "blank") (.cons (.bin .add (.var 3) (.bin .mul (.var 4) (.bin .fdiv (.bin .mod (.bin .fdiv (.var 1) (.int 2)) (.int 12)) (.bin .add (.int 1) (.bin .mod (.bin .fdiv (.var 1) (.int 24)) (.int 4)))))) .nil)))) .nil) .nil) (.cons (.ret (.tup (.cons (.str "name") (.cons (.idx (.var 2) (.bin .fdiv (.bin .mod (.bin .fdiv (.var 1) (.int 2)) (.int 6)) (.bin .add (.int 1) (.bin .mod (.bin .fdiv (.var 1) (.int 12)) (.int 3))))) .nil)))) .nil))) }
def d8 : MP.Def := { np := 2, N := ["_law_world_here", "_law_cell", "_law_size", "_law_cells", "_law_k"], own := [.sh, .sh, .sh, .sh, .sh], ro := .sh, body := (.cons (.asg (.nm 2) (.bin .add (.int 1) (.bin .mod (.call "_law_mix" (.cons (.var 1) (.cons (.int 1) .nil))) (.int 3)))) (.cons (.asg (.nm 3) (.comp (.nm 4) (.rng1 (.var 2)) .no (.call "_law_cell_by" (.cons (.var 0) (.cons (.call "_law_mix" (.cons (.var 1) (.cons (.bin .add (.int 3) (.var 4)) .nil))) .nil))))) (.cons (.ret (.tup (.cons (.idx (.idx (.var 0) (.int 0)) (.bin .fdiv (.bin .mod (.call "_law_mix" (.cons (.var 1) (.cons (.int 2) .nil))) (.int 3)) (.bin .add (.int 1) (.bin .mod (.call "_law_mix" (.cons (.var 1) (.cons (.int 7) .nil))) (.int 2))))) (.cons (.bi .tuple (.cons (.var 3) .nil)) .nil)))) .nil))) }
def d9 : MP.Def := LC.dStand
def d10 : MP.Def := { np := 4, N := ["_law_world_here", "_law_letters_here", "_law_rows", "_law_cell", "_law_terms", "_law_k", "_law_table", "_law_cells", "_law_drawn"], own := [.sh, .sh, .sh, .sh, .li, .sh, .sh, .sh, .sh], ro := .sh, body := (.cons (.asg (.tp [6, 7]) (.call "_law_row" (.cons (.var 0) (.cons (.var 3) .nil)))) (.cons (.ifs (.and (.cons (.cmp .ne (.var 2) (.lst .nil)) (.cons (.cmp .gt (.bin .mod (.call "_law_mix" (.cons (.var 3) (.cons (.int 15) .nil))) (.int 8)) (.int 0)) .nil))) (.cons (.asg (.tp [6, 7]) (.idx (.var 2) (.bin .mod (.call "_law_mix" (.cons (.var 3) (.cons (.int 16) .nil))) (.bi .len (.cons (.var 2) .nil))))) .nil) .nil) (.cons (.asg (.nm 4) (.lst .nil)) (.cons (.loop (.nm 5) (.rng1 (.bi .len (.cons (.var 7) .nil))) [5, 8] (.cons (.asg (.nm 8) (.call "_law_mix" (.cons (.var 3) (.cons (.bin .add (.int 17) (.var 5)) .nil)))) (.cons (.ifs (.or (.cons (.cmp .eq (.idx (.idx (.var 7) (.var 5)) (.int 0)) (.str "blank")) (.cons (.cmp .eq (.bin .mod (.var 8) (.int 2)) (.int 1)) .nil))) (.cons (.app 4 (.tup (.cons (.str "any") (.cons (.idx (.var 1) (.bin .mod (.bin .fdiv (.var 8) (.int 2)) (.int 4))) .nil)))) .nil) (.cons (.app 4 (.idx (.var 7) (.var 5))) .nil)) .nil))) (.cons (.ifs (.cmp .eq (.bin .mod (.call "_law_mix" (.cons (.var 3) (.cons (.int 21) .nil))) (.int 8)) (.int 1)) (.cons (.app 4 (.tup (.cons (.str "any") (.cons (.idx (.var 1) (.bin .mod (.call "_law_mix" (.cons (.var 3) (.cons (.int 22) .nil))) (.int 4))) .nil)))) .nil) .nil) (.cons (.ifs (.and (.cons (.cmp .eq (.bin .mod (.call "_law_mix" (.cons (.var 3) (.cons (.int 21) .nil))) (.int 8)) (.int 2)) (.cons (.cmp .gt (.bi .len (.cons (.var 4) .nil)) (.int 1)) .nil))) (.cons (.pop 4) .nil) .nil) (.cons (.ret (.tup (.cons (.var 6) (.cons (.bi .tuple (.cons (.var 4) .nil)) .nil)))) .nil))))))) }
def d11 : MP.Def := { np := 3, N := ["_law_fit", "_law_terms", "_law_cells", "_law_found", "_law_term", "_law_cell", "_law_letter", "_law_known"], own := [.sh, .sh, .sh, .li, .sh, .sh, .sh, .sh], ro := .sh, body := (.cons (.ifs (.cmp .ne (.bi .len (.cons (.var 1) .nil)) (.bi .len (.cons (.var 2) .nil))) (.cons (.ret .non) .nil) .nil) (.cons (.asg (.nm 3) (.bi .list (.cons (.var 0) .nil))) (.cons (.loop (.tp [4, 5]) (.zip (.var 1) (.var 2)) [4, 5, 6, 7] (.cons (.ifs (.and (.cons (.cmp .eq (.idx (.var 4) (.int 0)) (.str "name")) (.cons (.cmp .ne (.var 4) (.var 5)) .nil))) (.cons (.ret .non) .nil) .nil) (.cons (.ifs (.cmp .eq (.idx (.var 4) (.int 0)) (.str "any")) (.cons (.loopV (.tp [6, 7]) 3 [6, 7] (.cons (.ifs (.and (.cons (.cmp .eq (.var 6) (.idx (.var 4) (.int 1))) (.cons (.cmp .ne (.var 7) (.var 5)) .nil))) (.cons (.ret .non) .nil) .nil) .nil)) (.cons (.ifs (.cmp .notin (.tup (.cons (.idx (.var 4) (.int 1)) (.cons (.var 5) .nil))) (.var 3)) (.cons (.app 3 (.tup (.cons (.idx (.var 4) (.int 1)) (.cons (.var 5) .nil)))) .nil) .nil) .nil)) .nil) .nil))) (.cons (.ret (.var 3)) .nil)))) }
def d12 : MP.Def := { np := 2, N := ["_law_rows", "_law_body", "_law_found", "_law_pattern_here", "_law_due_here", "_law_fit", "_law_more", "_law_row_here"], own := [.sh, .sh, .sh, .sh, .li, .sh, .li, .sh], ro := .li, body := (.cons (.asg (.nm 2) (.lst (.cons (.lst .nil) .nil))) (.cons (.loop (.nm 3) (.of (.var 1)) [3, 5, 6, 7] (.cons (.asg (.nm 6) (.lst .nil)) (.cons (.loop (.nm 7) (.of (.var 0)) [5, 7] (.cons (.loop (.nm 5) (.of (.var 2)) [5] (.cons (.ifs (.cmp .eq (.idx (.var 7) (.int 0)) (.idx (.var 3) (.int 0))) (.cons (.app 6 (.call "_law_joined" (.cons (.var 5) (.cons (.idx (.var 3) (.int 1)) (.cons (.idx (.var 7) (.int 1)) .nil))))) .nil) .nil) .nil)) .nil)) (.cons (.asg (.nm 2) (.comp (.nm 5) (.of (.var 6)) (.yes (.cmp .isnot (.var 5) .non)) (.var 5))) .nil)))) (.cons (.asg (.nm 4) (.lst .nil)) (.cons (.loop (.nm 5) (.of (.bi .sorted (.cons (.comp (.nm 5) (.of (.var 2)) .no (.bi .sorted (.cons (.var 5) .nil))) .nil))) [5] (.cons (.ifs (.or (.cons (.cmp .eq (.var 4) (.lst .nil)) (.cons (.cmp .ne (.idx (.var 4) (.bin .sub (.bi .len (.cons (.var 4) .nil)) (.int 1))) (.var 5)) .nil))) (.cons (.app 4 (.var 5)) .nil) .nil) .nil)) (.cons (.ret (.var 4)) .nil))))) }
def d13 : MP.Def := { np := 2, N := ["_law_found", "_law_due_here", "_law_fit", "_law_right", "_law_pair"], own := [.sh, .sh, .sh, .sh, .sh], ro := .sh, body := (.cons (.ifs (.or (.cons (.not (.bi .isList (.cons (.var 0) .nil))) (.cons (.cmp .ne (.bi .len (.cons (.var 0) .nil)) (.bi .len (.cons (.var 1) .nil))) .nil))) (.cons (.ret (.bl false)) .nil) .nil) (.cons (.loop (.tp [2, 3]) (.zip (.var 0) (.var 1)) [2, 3, 4] (.cons (.ifs (.or (.cons (.not (.bi .isList (.cons (.var 2) .nil))) (.cons (.cmp .ne (.var 2) (.var 3)) .nil))) (.cons (.ret (.bl false)) .nil) .nil) (.cons (.loop (.nm 4) (.of (.var 2)) [4] (.cons (.ifs (.or (.cons (.not (.bi .isTuple (.cons (.var 4) .nil))) (.cons (.not (.bi .isTuple (.cons (.idx (.var 4) (.int 1)) .nil))) (.cons (.bi .isBool (.cons (.idx (.idx (.var 4) (.int 1)) (.int 1)) .nil)) .nil)))) (.cons (.ret (.bl false)) .nil) .nil) .nil)) .nil))) (.cons (.ret (.bl true)) .nil))) }
def d14 : MP.Def := { np := 1, N := ["_law_script", "_law_total", "_law_many", "_law_cells", "_law_world_here", "_law_letters_here", "_law_rows", "_law_body", "_law_kept", "_law_due_here", "_law_found", "_law_fit", "_law_k", "_law_cell"], own := [.sh, .sh, .sh, .sh, .sh, .sh, .sh, .sh, .sh, .sh, .sh, .sh, .sh, .sh], ro := .sh, body := (.cons (.asg (.nm 1) (.bin .mod (.bi .sum (.cons (.sl (.var 0) .no (.yes (.int 63))) .nil)) (.int 1000003))) (.cons (.asg (.nm 2) (.bin .mod (.call "_law_mix" (.cons (.var 1) (.cons (.int 30) .nil))) (.int 5))) (.cons (.asg (.nm 3) (.sl (.var 0) .no (.yes (.idx (.lst (.cons (.int 40) (.cons (.int 40) (.cons (.int 40) (.cons (.int 9) (.cons (.int 5) .nil)))))) (.var 2))))) (.cons (.asg (.nm 4) (.call "_law_world" (.cons (.var 1) .nil))) (.cons (.asg (.nm 5) (.call "_law_letters" (.cons (.var 1) .nil))) (.cons (.asg (.nm 6) (.call "_law_stand" (.cons (.comp (.nm 13) (.of (.var 3)) .no (.call "_law_row" (.cons (.var 4) (.cons (.var 13) .nil)))) .nil))) (.cons (.asg (.nm 7) (.comp (.nm 12) (.rng1 (.var 2)) .no (.call "_law_pattern" (.cons (.var 4) (.cons (.var 5) (.cons (.var 6) (.cons (.bin .add (.bin .add (.bin .mul (.var 1) (.int 7)) (.bin .mul (.var 12) (.var 12))) (.var 12)) .nil))))))) (.cons (.asg (.nm 8) (.lst (.cons (.bi .list (.cons (.var 6) .nil)) (.cons (.bi .list (.cons (.var 7) .nil)) .nil)))) (.cons (.asg (.nm 9) (.call "_law_due" (.cons (.var 6) (.cons (.var 7) .nil)))) (.cons (.told 10 "fits" (.cons (.var 6) (.cons (.var 7) .nil)) (.or (.cons (.not (.call "_law_is_fits" (.cons (.var 10) (.cons (.var 9) .nil)))) (.cons (.cmp .ne (.lst (.cons (.var 6) (.cons (.var 7) .nil))) (.var 8)) .nil))) 11 (.cons (.app 11 .non) .nil)) (.cons (.ret (.and (.cons (.cmp .eq (.lst (.cons (.var 6) (.cons (.var 7) .nil))) (.var 8)) (.cons (.cmp .eq (.call "fits" (.cons (.var 6) (.cons (.var 7) .nil))) (.var 9)) (.cons (.cmp .eq (.call "fits" (.cons (.var 6) (.cons (.lst .nil) .nil))) (.lst (.cons (.lst .nil) .nil))) .nil))))) .nil))))))))))) }
def tab : List (PySem.Str × MP.Def) := [("taken", d0), ("extended", d1), ("fits", d2), ("_law_mix", d3), ("_law_words", d4), ("_law_world", d5), ("_law_letters", d6), ("_law_cell_by", d7), ("_law_row", d8), ("_law_stand", d9), ("_law_pattern", d10), ("_law_joined", d11), ("_law_due", d12), ("_law_is_fits", d13), ("law", d14)]
def T (x : PySem.Str) : Option MP.Def := tab.lookup x
theorem T_taken : T "taken" = some d0 := by rfl
theorem T_extended : T "extended" = some d1 := by rfl
theorem T_fits : T "fits" = some d2 := by rfl
theorem T_mix : T "_law_mix" = some d3 := by rfl
theorem T_words : T "_law_words" = some d4 := by rfl
theorem T_world : T "_law_world" = some d5 := by rfl
theorem T_letters : T "_law_letters" = some d6 := by rfl
theorem T_cell_by : T "_law_cell_by" = some d7 := by rfl
theorem T_row : T "_law_row" = some d8 := by rfl
theorem T_stand : T "_law_stand" = some d9 := by rfl
theorem T_pattern : T "_law_pattern" = some d10 := by rfl
theorem T_joined : T "_law_joined" = some d11 := by rfl
theorem T_due : T "_law_due" = some d12 := by rfl
theorem T_is_fits : T "_law_is_fits" = some d13 := by rfl
theorem T_law : T "law" = some d14 := by rfl
end K11
namespace K11
def topS (i : Nat) : PySem.Stmt := PySem.Challenge.pw_mustrows_k11_fits.main.body.getD i (.Pass ⟨0, 0, 0, 0⟩)
def r0 : MP.Def := d0
def r1 : MP.Def := d1
def r2 : MP.Def := d2
def r3 : MP.Def := d3
def r4 : MP.Def := { d4 with N := ["_law_cell", "_law_letters_here", "_law_size", "_law_stem", "_law_at", "_law_found", "_law_k", "_law_sign"] }
def r5 : MP.Def := d5
def r6 : MP.Def := d6
def r7 : MP.Def := d7
def r8 : MP.Def := d8
def r9 : MP.Def := d9
def r10 : MP.Def := d10
def r11 : MP.Def := d11
def r12 : MP.Def := d12
def r13 : MP.Def := d13
def r14 : MP.Def := d14
def tabR : List (PySem.Str × MP.Def) := [("taken", r0), ("extended", r1), ("fits", r2), ("_law_mix", r3), ("_law_words", r4), ("_law_world", r5), ("_law_letters", r6), ("_law_cell_by", r7), ("_law_row", r8), ("_law_stand", r9), ("_law_pattern", r10), ("_law_joined", r11), ("_law_due", r12), ("_law_is_fits", r13), ("law", r14)]
def TR (x : PySem.Str) : Option MP.Def := tabR.lookup x
theorem run_TR : MP.run TR = MP.run T := MP.run_like (tab := tabR) (tab2 := tab) ⟨rfl, rfl, rfl, rfl, ⟨rfl, rfl, rfl, rfl, ⟨rfl, rfl, rfl, rfl, ⟨rfl, rfl, rfl, rfl, ⟨rfl, rfl, rfl, rfl, ⟨rfl, rfl, rfl, rfl, ⟨rfl, rfl, rfl, rfl, ⟨rfl, rfl, rfl, rfl, ⟨rfl, rfl, rfl, rfl, ⟨rfl, rfl, rfl, rfl, ⟨rfl, rfl, rfl, rfl, ⟨rfl, rfl, rfl, rfl, ⟨rfl, rfl, rfl, rfl, ⟨rfl, rfl, rfl, rfl, ⟨rfl, rfl, rfl, rfl, trivial⟩⟩⟩⟩⟩⟩⟩⟩⟩⟩⟩⟩⟩⟩⟩
theorem ck0 : MP.ckD TR r0 (L2.defScope (topS 1)) (L2.defBody (topS 1)) = true := by decide +kernel
theorem sc0 : C8.scC r0.N ["terms", "cells", "fit"] (L2.defScope (topS 1)) = true := by decide +kernel
theorem ck1 : MP.ckD TR r1 (L2.defScope (topS 2)) (L2.defBody (topS 2)) = true := by decide +kernel
theorem sc1 : C8.scC r1.N ["rows", "patterns", "some"] (L2.defScope (topS 2)) = true := by decide +kernel
theorem ck2 : MP.ckD TR r2 (L2.defScope (topS 3)) (L2.defBody (topS 3)) = true := by decide +kernel
theorem sc2 : C8.scC r2.N ["rows", "body"] (L2.defScope (topS 3)) = true := by decide +kernel
theorem ck3 : MP.ckD TR r3 (L2.defScope (topS 5)) (L2.defBody (topS 5)) = true := by decide +kernel
theorem sc3 : C8.scC r3.N ["_law_cell", "_law_j"] (L2.defScope (topS 5)) = true := by decide +kernel
theorem ck4 : MP.ckD TR r4 (L2.defScope (topS 6)) (L2.defBody (topS 6)) = true := by decide +kernel
theorem sc4 : C8.scC r4.N ["_law_cell"] (L2.defScope (topS 6)) = true := by decide +kernel
theorem ck5 : MP.ckD TR r5 (L2.defScope (topS 7)) (L2.defBody (topS 7)) = true := by decide +kernel
theorem sc5 : C8.scC r5.N ["_law_cell"] (L2.defScope (topS 7)) = true := by decide +kernel
theorem ck6 : MP.ckD TR r6 (L2.defScope (topS 8)) (L2.defBody (topS 8)) = true := by decide +kernel
theorem sc6 : C8.scC r6.N ["_law_cell"] (L2.defScope (topS 8)) = true := by decide +kernel
theorem ck7 : MP.ckD TR r7 (L2.defScope (topS 9)) (L2.defBody (topS 9)) = true := by decide +kernel
theorem sc7 : C8.scC r7.N ["_law_world_here", "_law_number"] (L2.defScope (topS 9)) = true := by decide +kernel
theorem ck8 : MP.ckD TR r8 (L2.defScope (topS 10)) (L2.defBody (topS 10)) = true := by decide +kernel
theorem sc8 : C8.scC r8.N ["_law_world_here", "_law_cell"] (L2.defScope (topS 10)) = true := by decide +kernel
theorem ck9 : MP.ckD TR r9 (L2.defScope (topS 11)) (L2.defBody (topS 11)) = true := by decide +kernel
theorem sc9 : C8.scC r9.N ["_law_rows"] (L2.defScope (topS 11)) = true := by decide +kernel
theorem ck10 : MP.ckD TR r10 (L2.defScope (topS 12)) (L2.defBody (topS 12)) = true := by decide +kernel
theorem sc10 : C8.scC r10.N ["_law_world_here", "_law_letters_here", "_law_rows", "_law_cell"] (L2.defScope (topS 12)) = true := by decide +kernel
theorem ck11 : MP.ckD TR r11 (L2.defScope (topS 13)) (L2.defBody (topS 13)) = true := by decide +kernel
theorem sc11 : C8.scC r11.N ["_law_fit", "_law_terms", "_law_cells"] (L2.defScope (topS 13)) = true := by decide +kernel
theorem ck12 : MP.ckD TR r12 (L2.defScope (topS 14)) (L2.defBody (topS 14)) = true := by decide +kernel
theorem sc12 : C8.scC r12.N ["_law_rows", "_law_body"] (L2.defScope (topS 14)) = true := by decide +kernel
theorem ck13 : MP.ckD TR r13 (L2.defScope (topS 15)) (L2.defBody (topS 15)) = true := by decide +kernel
theorem sc13 : C8.scC r13.N ["_law_found", "_law_due_here"] (L2.defScope (topS 15)) = true := by decide +kernel
theorem ck14 : MP.ckD TR r14 (L2.defScope (topS 16)) (L2.defBody (topS 16)) = true := by decide +kernel
theorem sc14 : C8.scC r14.N ["_law_script"] (L2.defScope (topS 16)) = true := by decide +kernel
end K11
namespace K11
open PySem MP LC
variable {V : Nat → D → Prop}

abbrev tLets : Ty := .lst (.str 0 20) 4 4
abbrev tC : Ty := tyCell (.rng 0 999999) (.str 0 20)
abbrev tR : Ty := tyRow (.str 0 20) (.rng 0 999999) (.str 0 20) 1 3
abbrev sgC : Sg := ("_law_cell_by", [tWorld, tMix], tC) :: sgM
theorem letters_ty : ckT sgM d6 [.int] tLets = true := by decide +kernel
theorem cell_ty : ckT sgM d7 [tWorld, tMix] tC = true := by decide +kernel
theorem row_ty : ckT sgC d8 [tWorld, .int] tR = true := by decide +kernel
def optL : Option Fit → D
  | some F => fitD F
  | none => .non
theorem list_fit (F : Fit) : biD .list [fitD F] = .ok (fitD F) := rfl
theorem in_fit (b : Bnd) (F : Fit) : inD (fD b) (fitD F) = .ok (decide (b ∈ F)) := by
  have hall : (F.map fD).all MP.plain = true := by
    rw [List.all_eq_true]
    intro d hd
    obtain ⟨t, _, rfl⟩ := List.mem_map.mp hd
    exact plN_fD 28 t
  have h : inD (fD b) (.lst (F.map fD)) = _ := in_plain (plN_fD 28 b) hall (fun _ => .inr trivial)
  show inD (fD b) (.lst (F.map fD)) = _
  rw [h, any_map fD_inj]
theorem snoc_nd {G : Fit} (hn : (keysF G).Nodup) {l : Str} {c : Cell} (h : G.lookup l = none) : (keysF (G ++ [(l, c)])).Nodup := by
  rw [keysF_app, List.nodup_append]
  exact ⟨hn, by simp, fun a ha b hb e => lookup_none.mp h (by
    have : b = l := List.mem_singleton.mp hb
    rw [← this, ← e]; exact ha)⟩
theorem joined_ok (k : Nat) (ts : List Term) (cs : List Cell) (F : Fit) (hn : (keysF F).Nodup) (hl : F.length + ts.length ≤ 1000000) :
    run T (k + 1) "_law_joined" [fitD F, .tup (ts.map tD), .tup (cs.map cD)] = .ok (optL (takenT ts cs F)) := by
  refine run_is T_joined rfl ?_
  have l1 := len_tup tD ts
  have l2 := len_tup cD cs
  have z : zipD (.tup (ts.map tD)) (.tup (cs.map cD)) = .ok ((ts.zip cs).map fun p => .tup [tD p.1, cD p.2]) := by simp only [zipD, zip_maps]
  have dd := list_fit F
  generalize D.tup (ts.map tD) = A at l1 z
  generalize D.tup (cs.map cD) = B at l2 z
  generalize hP : fitD F = P at *
  show Ev _ _ [some P, some A, some B, none, none, none, none, none] _
  have c0 : cmpD .ne (.int ts.length) (.int cs.length) = .ok (!decide ((ts.length : Int) = cs.length)) := cmpI_ne _ _
  unfold takenT
  refine Ev.ite (p := !decide ((ts.length : Int) = cs.length)) (by simp only [evalE, evalEs, evalAnd, evalOr, evalO, evalC, evalI, varE, asgG, setMany, List.getElem?_cons_zero, List.getElem?_cons_succ, List.set_cons_zero, List.set_cons_succ, R.bind_ok, unbl, unint, lstOf, dicOf, iteT, iteA, iteO, Bool.and_true, Bool.or_false, Bool.and_false, Bool.or_true, Bool.true_and, Bool.false_and, Bool.true_or, Bool.false_or, if_true, Bool.false_eq_true, if_false, Bool.not_true, Bool.not_false, l1, l2, c0] <;> rfl) (fun h => ?_) (fun h => Ev.nil ?_)
  · have h : ¬ ts.length = cs.length := by
      intro e; rw [e] at h; simp at h
    rw [if_neg h]
    exact Ev.ret (d := .non) (by simp only [evalE, evalEs, evalAnd, evalOr, evalO, evalC, evalI, varE, asgG, setMany, List.getElem?_cons_zero, List.getElem?_cons_succ, List.set_cons_zero, List.set_cons_succ, R.bind_ok, unbl, unint, lstOf, dicOf, iteT, iteA, iteO, Bool.and_true, Bool.or_false, Bool.and_false, Bool.or_true, Bool.true_and, Bool.false_and, Bool.true_or, Bool.false_or, if_true, Bool.false_eq_true, if_false, Bool.not_true, Bool.not_false] <;> rfl) rfl
  · have h : ts.length = cs.length := by
      have : (ts.length : Int) = cs.length := by simpa using h
      omega
    rw [if_pos h]
    refine Ev.asg (d := P) (by simp only [evalE, evalEs, evalAnd, evalOr, evalO, evalC, evalI, varE, asgG, setMany, List.getElem?_cons_zero, List.getElem?_cons_succ, List.set_cons_zero, List.set_cons_succ, R.bind_ok, unbl, unint, lstOf, dicOf, iteT, iteA, iteO, Bool.and_true, Bool.or_false, Bool.and_false, Bool.or_true, Bool.true_and, Bool.false_and, Bool.true_or, Bool.false_or, if_true, Bool.false_eq_true, if_false, Bool.not_true, Bool.not_false, dd] <;> rfl) ?_
    refine Ev.loopQ (fun p : Term × Cell => D.tup [tD p.1, cD p.2]) (ts.zip cs) (fun pre e => ∃ G : Fit, e = [some P, some A, some B, some (fitD G), none, none, none, none] ∧ (keysF G).Nodup ∧ G.length ≤ F.length + pre.length ∧ takeT (ts.zip cs) F = takeT ((ts.zip cs).drop pre.length) G) (by simp only [evalE, evalEs, evalAnd, evalOr, evalO, evalC, evalI, varE, asgG, setMany, List.getElem?_cons_zero, List.getElem?_cons_succ, List.set_cons_zero, List.set_cons_succ, R.bind_ok, unbl, unint, lstOf, dicOf, iteT, iteA, iteO, Bool.and_true, Bool.or_false, Bool.and_false, Bool.or_true, Bool.true_and, Bool.false_and, Bool.true_or, Bool.false_or, if_true, Bool.false_eq_true, if_false, Bool.not_true, Bool.not_false, z] <;> rfl)
      ⟨F, by rw [hP]; rfl, hn, Nat.le_refl _, rfl⟩ ?_ ?_
    · rintro pre ⟨t, c⟩ suf _ hs ⟨G, rfl, gn, hG, ht⟩
      have hd : (ts.zip cs).drop pre.length = (t, c) :: suf := by rw [hs]; simp
      have hd2 : (ts.zip cs).drop (pre ++ [(t, c)]).length = suf := by rw [hs]; simp
      rw [hd] at ht
      have hpl : pre.length < ts.length := by
        have := congrArg List.length hs
        rw [List.length_zip, List.length_append, List.length_cons] at this
        omega
      refine ⟨[some P, some A, some B, some (fitD G), some (tD t), some (cD c), none, none], rfl, ?_⟩
      cases t with
      | nm s =>
        refine Ev.ite (p := !decide (c = .name s)) ?_ (fun q => ?_) (fun q => Ev.nil ?_)
        · simp only [evalE, evalEs, evalAnd, evalOr, evalO, evalC, evalI, varE, asgG, setMany, List.getElem?_cons_zero, List.getElem?_cons_succ, List.set_cons_zero, List.set_cons_succ, R.bind_ok, unbl, unint, lstOf, dicOf, iteT, iteA, iteO, Bool.and_true, Bool.or_false, Bool.and_false, Bool.or_true, Bool.true_and, Bool.false_and, Bool.true_or, Bool.false_or, if_true, Bool.false_eq_true, if_false, Bool.not_true, Bool.not_false, termD_0, cmpS_qnn, term_cell]
        · refine Ev.ret (d := .non) (by simp only [evalE, evalEs, evalAnd, evalOr, evalO, evalC, evalI, varE, asgG, setMany, List.getElem?_cons_zero, List.getElem?_cons_succ, List.set_cons_zero, List.set_cons_succ, R.bind_ok, unbl, unint, lstOf, dicOf, iteT, iteA, iteO, Bool.and_true, Bool.or_false, Bool.and_false, Bool.or_true, Bool.true_and, Bool.false_and, Bool.true_or, Bool.false_or, if_true, Bool.false_eq_true, if_false, Bool.not_true, Bool.not_false] <;> rfl) ?_
          show Fl.rt _ = Fl.rt _
          rw [ht]
          simp only [takeT]
          rw [if_neg (by simpa using q)]
          rfl
        · refine Ev.ff (by simp only [evalE, evalEs, evalAnd, evalOr, evalO, evalC, evalI, varE, asgG, setMany, List.getElem?_cons_zero, List.getElem?_cons_succ, List.set_cons_zero, List.set_cons_succ, R.bind_ok, unbl, unint, lstOf, dicOf, iteT, iteA, iteO, Bool.and_true, Bool.or_false, Bool.and_false, Bool.or_true, Bool.true_and, Bool.false_and, Bool.true_or, Bool.false_or, if_true, Bool.false_eq_true, if_false, Bool.not_true, Bool.not_false, termD_0, cmpS_qna] <;> rfl) (Ev.nil (Ev.nil ⟨G, rfl, gn, by simp; omega, ?_⟩))
          rw [hd2, ht]
          simp only [takeT]
          rw [if_pos (by simpa using q)]
      | any l =>
        refine Ev.ff (by simp only [evalE, evalEs, evalAnd, evalOr, evalO, evalC, evalI, varE, asgG, setMany, List.getElem?_cons_zero, List.getElem?_cons_succ, List.set_cons_zero, List.set_cons_succ, R.bind_ok, unbl, unint, lstOf, dicOf, iteT, iteA, iteO, Bool.and_true, Bool.or_false, Bool.and_false, Bool.or_true, Bool.true_and, Bool.false_and, Bool.true_or, Bool.false_or, if_true, Bool.false_eq_true, if_false, Bool.not_true, Bool.not_false, termD_0, cmpS_qan] <;> rfl) (Ev.nil ?_)
        refine Ev.tt (by simp only [evalE, evalEs, evalAnd, evalOr, evalO, evalC, evalI, varE, asgG, setMany, List.getElem?_cons_zero, List.getElem?_cons_succ, List.set_cons_zero, List.set_cons_succ, R.bind_ok, unbl, unint, lstOf, dicOf, iteT, iteA, iteO, Bool.and_true, Bool.or_false, Bool.and_false, Bool.or_true, Bool.true_and, Bool.false_and, Bool.true_or, Bool.false_or, if_true, Bool.false_eq_true, if_false, Bool.not_true, Bool.not_false, termD_0, cmpS_qaa] <;> rfl) ?_
        refine Ev.loopW fD G (fun p e => e = [some P, some A, some B, none, some (tD (.any l)), some (cD c), none, none] ∧ ∀ b ∈ p, b.1 = l → b.2 = c) rfl ⟨rfl, (fun _ m => nomatch m)⟩ ?_ ?_
        · rintro p ⟨x, y⟩ s2 _ hs2 ⟨rfl, hp⟩
          refine ⟨[some P, some A, some B, none, some (tD (.any l)), some (cD c), some (.str x), some (cD y)], rfl, ?_⟩
          have e1 := cmpS_eq x l
          have e2 : cmpD .ne (cD y) (cD c) = .ok (!decide (y = c)) := by rw [cmp_ne, eqD_cells]; rfl
          refine Ev.ite (p := decide (x = l) && !decide (y = c)) ?_ (fun q => ?_) (fun q => Ev.nil (Ev.nil ⟨rfl, fun b hb e => ?_⟩))
          · by_cases hx : x = l
            · rw [decide_eq_true hx] at e1 ⊢
              simp only [evalE, evalEs, evalAnd, evalOr, evalO, evalC, evalI, varE, asgG, setMany, List.getElem?_cons_zero, List.getElem?_cons_succ, List.set_cons_zero, List.set_cons_succ, R.bind_ok, unbl, unint, lstOf, dicOf, iteT, iteA, iteO, Bool.and_true, Bool.or_false, Bool.and_false, Bool.or_true, Bool.true_and, Bool.false_and, Bool.true_or, Bool.false_or, if_true, Bool.false_eq_true, if_false, Bool.not_true, Bool.not_false, termD_1, e1, e2]
            · rw [decide_eq_false hx] at e1 ⊢
              simp only [evalE, evalEs, evalAnd, evalOr, evalO, evalC, evalI, varE, asgG, setMany, List.getElem?_cons_zero, List.getElem?_cons_succ, List.set_cons_zero, List.set_cons_succ, R.bind_ok, unbl, unint, lstOf, dicOf, iteT, iteA, iteO, Bool.and_true, Bool.or_false, Bool.and_false, Bool.or_true, Bool.true_and, Bool.false_and, Bool.true_or, Bool.false_or, if_true, Bool.false_eq_true, if_false, Bool.not_true, Bool.not_false, termD_1, e1]
          · refine Ev.ret (d := .non) (by simp only [evalE, evalEs, evalAnd, evalOr, evalO, evalC, evalI, varE, asgG, setMany, List.getElem?_cons_zero, List.getElem?_cons_succ, List.set_cons_zero, List.set_cons_succ, R.bind_ok, unbl, unint, lstOf, dicOf, iteT, iteA, iteO, Bool.and_true, Bool.or_false, Bool.and_false, Bool.or_true, Bool.true_and, Bool.false_and, Bool.true_or, Bool.false_or, if_true, Bool.false_eq_true, if_false, Bool.not_true, Bool.not_false] <;> rfl) ?_
            show Fl.rt _ = Fl.rt _
            rw [Bool.and_eq_true] at q
            have hx : x = l := of_decide_eq_true q.1
            have hy : ¬ y = c := by simpa using q.2
            subst hx
            have hlk : G.lookup x = some y := lookup_of gn (by rw [hs2]; simp)
            rw [ht]
            simp only [takeT, hlk]
            rw [if_neg hy]
            rfl
          · rcases List.mem_append.mp hb with hb | hb
            · exact hp b hb e
            · rw [List.mem_singleton.mp hb] at e ⊢
              have e : x = l := e
              rw [decide_eq_true e, Bool.true_and] at q
              simpa using q
        · rintro _ ⟨rfl, hp⟩
          have inn := in_fit (l, c) G
          have inn : inD (.tup [.str l, cD c]) (fitD G) = .ok (decide ((l, c) ∈ G)) := inn
          show Ev _ _ [some P, some A, some B, some (fitD G), some (tD (.any l)), some (cD c), none, none] _
          cases hg : G.lookup l with
          | some c' =>
            have hm := lookup_mem hg
            have e := hp _ hm rfl
            have e : c' = c := e
            subst e
            rw [decide_eq_true hm] at inn
            refine Ev.ff (by simp only [evalE, evalEs, evalAnd, evalOr, evalO, evalC, evalI, varE, asgG, setMany, List.getElem?_cons_zero, List.getElem?_cons_succ, List.set_cons_zero, List.set_cons_succ, R.bind_ok, unbl, unint, lstOf, dicOf, iteT, iteA, iteO, Bool.and_true, Bool.or_false, Bool.and_false, Bool.or_true, Bool.true_and, Bool.false_and, Bool.true_or, Bool.false_or, if_true, Bool.false_eq_true, if_false, Bool.not_true, Bool.not_false, termD_1, cmp_notin, inn] <;> rfl) (Ev.nil (Ev.nil (Ev.nil ⟨G, rfl, gn, by simp; omega, ?_⟩)))
            rw [hd2, ht]
            simp only [takeT, hg, if_true]
          | none =>
            have hm : (l, c) ∉ G := fun m => by rw [lookup_of gn m] at hg; cases hg
            rw [decide_eq_false hm] at inn
            refine Ev.tt (by simp only [evalE, evalEs, evalAnd, evalOr, evalO, evalC, evalI, varE, asgG, setMany, List.getElem?_cons_zero, List.getElem?_cons_succ, List.set_cons_zero, List.set_cons_succ, R.bind_ok, unbl, unint, lstOf, dicOf, iteT, iteA, iteO, Bool.and_true, Bool.or_false, Bool.and_false, Bool.or_true, Bool.true_and, Bool.false_and, Bool.true_or, Bool.false_or, if_true, Bool.false_eq_true, if_false, Bool.not_true, Bool.not_false, termD_1, cmp_notin, inn] <;> rfl) ?_
            refine Ev.app (v := fD (l, c)) (xs := G.map fD) rfl (by simp only [evalE, evalEs, evalAnd, evalOr, evalO, evalC, evalI, varE, asgG, setMany, List.getElem?_cons_zero, List.getElem?_cons_succ, List.set_cons_zero, List.set_cons_succ, R.bind_ok, unbl, unint, lstOf, dicOf, iteT, iteA, iteO, Bool.and_true, Bool.or_false, Bool.and_false, Bool.or_true, Bool.true_and, Bool.false_and, Bool.true_or, Bool.false_or, if_true, Bool.false_eq_true, if_false, Bool.not_true, Bool.not_false, termD_1, fD] <;> rfl) (by rw [List.length_map]; show _ < 16777216; omega) (Ev.nil (Ev.nil (Ev.nil ⟨G ++ [(l, c)], ?_, snoc_nd gn hg, by simp; omega, ?_⟩)))
            · show ([some P, some A, some B, some (.lst (G.map fD ++ [fD (l, c)])), none, none, none, none] : MP.Env) = _
              unfold fitD
              rw [List.map_append]
              rfl
            · rw [hd2, ht]
              simp only [takeT, hg]
    · rintro _ ⟨G, rfl, _, hG, ht⟩
      rw [List.drop_length] at ht
      refine Ev.ret (d := fitD G) (by simp only [evalE, evalEs, evalAnd, evalOr, evalO, evalC, evalI, varE, asgG, setMany, List.getElem?_cons_zero, List.getElem?_cons_succ, List.set_cons_zero, List.set_cons_succ, R.bind_ok, unbl, unint, lstOf, dicOf, iteT, iteA, iteO, Bool.and_true, Bool.or_false, Bool.and_false, Bool.or_true, Bool.true_and, Bool.false_and, Bool.true_or, Bool.false_or, if_true, Bool.false_eq_true, if_false, Bool.not_true, Bool.not_false] <;> rfl) ?_
      show Fl.rt _ = Fl.rt _
      rw [ht]
      rfl
end K11
namespace K11
open PySem MP LC
variable {V : Nat → D → Prop}

/-! ### the law's own fits -/
def moreT (rows : List Row) (p : Pat) (Fs : List Fit) : List (Option Fit) := rows.flatMap fun r => if r.1 = p.1 then Fs.map (takenT p.2 r.2) else []
def lawP (rows : List Row) (p : Pat) (Fs : List Fit) : List Fit := (moreT rows p Fs).filterMap id
def lawT (rows : List Row) (ps : List Pat) (Fs : List Fit) : List Fit := ps.foldl (fun Fs p => lawP rows p Fs) Fs
theorem lawP_mem {rows : List Row} {p : Pat} {Fs : List Fit} {G : Fit} : G ∈ lawP rows p Fs ↔ ∃ r ∈ rows, r.1 = p.1 ∧ ∃ F ∈ Fs, takenT p.2 r.2 F = some G := by
  unfold lawP moreT
  rw [List.mem_filterMap]
  constructor
  · rintro ⟨o, h1, h2⟩
    obtain ⟨r, hr, h⟩ := List.mem_flatMap.mp h1
    split at h
    · rename_i e
      obtain ⟨F, hF, rfl⟩ := List.mem_map.mp h
      exact ⟨r, hr, e, F, hF, h2⟩
    · cases h
  · rintro ⟨r, hr, e, F, hF, h⟩
    exact ⟨some G, List.mem_flatMap.mpr ⟨r, hr, by rw [if_pos e]; exact List.mem_map.mpr ⟨F, hF, h⟩⟩, rfl⟩
theorem extP_mem {rows : List Row} {p : Pat} {Fs : List Fit} {G : Fit} : G ∈ extP rows p Fs ↔ ∃ r ∈ rows, r.1 = p.1 ∧ ∃ F ∈ Fs, takenT p.2 r.2 F = some G := by
  unfold extP ext1
  rw [List.mem_flatMap]
  constructor
  · rintro ⟨F, hF, h⟩
    obtain ⟨r, hr, h⟩ := List.mem_filterMap.mp h
    split at h
    · rename_i e
      exact ⟨r, hr, e, F, hF, h⟩
    · cases h
  · rintro ⟨r, hr, e, F, hF, h⟩
    exact ⟨F, hF, List.mem_filterMap.mpr ⟨r, hr, by rw [if_pos e]; exact h⟩⟩
theorem lawT_mem {rows : List Row} : ∀ (ps : List Pat) (Fs Fs' : List Fit), (∀ F, F ∈ Fs ↔ F ∈ Fs') → ∀ F, F ∈ lawT rows ps Fs ↔ F ∈ extT rows ps Fs'
  | [], Fs, Fs', h, F => h F
  | p :: ps, Fs, Fs', h, F => lawT_mem ps (lawP rows p Fs) (extP rows p Fs') (fun G => by
      rw [lawP_mem, extP_mem]
      exact exists_congr fun r => and_congr_right fun _ => and_congr_right fun _ => exists_congr fun F => and_congr_left fun _ => h F) F
theorem moreT_len {rows : List Row} {p : Pat} {Fs : List Fit} : (moreT rows p Fs).length ≤ Fs.length * rows.length := by
  have : (moreT rows p Fs).length ≤ rows.length * Fs.length := by
    unfold moreT
    exact flatMap_le fun r _ => by
      split
      · rw [List.length_map]; exact Nat.le_refl _
      · exact Nat.zero_le _
  rw [Nat.mul_comm]
  exact this
theorem lawP_len {rows : List Row} {p : Pat} {Fs : List Fit} : (lawP rows p Fs).length ≤ Fs.length * rows.length := Nat.le_trans (List.length_filterMap_le _ _) moreT_len
theorem lawT_len {rows : List Row} : ∀ (ps : List Pat) (Fs : List Fit), (lawT rows ps Fs).length ≤ Fs.length * rows.length ^ ps.length
  | [], Fs => by simp [lawT]
  | p :: ps, Fs => by
    show (lawT rows ps (lawP rows p Fs)).length ≤ _
    refine Nat.le_trans (lawT_len ps _) ?_
    rw [List.length_cons, Nat.pow_succ, Nat.mul_comm (rows.length ^ ps.length), ← Nat.mul_assoc]
    exact Nat.mul_le_mul_right _ lawP_len
theorem lawT_snoc (rows : List Row) (ps : List Pat) (p : Pat) (Fs : List Fit) : lawT rows (ps ++ [p]) Fs = lawP rows p (lawT rows ps Fs) := by
  unfold lawT
  rw [List.foldl_append]
  rfl
/-- fits whose letters stand once -/
def OkF (n : Nat) (Fs : List Fit) : Prop := ∀ F ∈ Fs, (keysF F).Nodup ∧ F.length ≤ n
theorem lawP_ok {rows : List Row} {p : Pat} {n m : Nat} (hp : p.2.length ≤ m) {Fs : List Fit} (h : OkF n Fs) : OkF (n + m) (lawP rows p Fs) := fun G hG => by
  obtain ⟨r, hr, e, F, hF, ht⟩ := lawP_mem.mp hG
  obtain ⟨h1, h2⟩ := h F hF
  have := takenT_len ht
  exact ⟨(takenT_sound ht h1).1, by omega⟩
theorem due_ok (k : Nat) (rows : List Row) (body : List Pat) (hp : ∀ p ∈ body, p.2.length ≤ 10) (hb : body.length ≤ 100) (hn : ∀ j, j ≤ body.length → rows.length ^ j ≤ 1000000) (hr : rows.length ≤ 1000) (hr0 : rows.Nodup) :
    run T (k + 2) "_law_due" [.lst (rows.map rD), .lst (body.map pD)] = .ok (.lst ((LC.fitsT rows body).map fitD)) := by
  refine run_is T_due rfl ?_
  have sr : seqD (.lst (rows.map rD)) = .ok (rows.map rD) := rfl
  have sb : seqD (.lst (body.map pD)) = .ok (body.map pD) := rfl
  generalize D.lst (rows.map rD) = A at sr
  generalize D.lst (body.map pD) = B at sb
  show Ev _ _ [some A, some B, none, none, none, none, none, none] _
  refine Ev.asg (d := .lst (([[]] : List Fit).map fitD)) (by simp only [evalE, evalEs, evalAnd, evalOr, evalO, evalC, evalI, varE, asgG, setMany, List.getElem?_cons_zero, List.getElem?_cons_succ, List.set_cons_zero, List.set_cons_succ, R.bind_ok, unbl, unint, lstOf, dicOf, iteT, iteA, iteO, Bool.and_true, Bool.or_false, Bool.and_false, Bool.or_true, Bool.true_and, Bool.false_and, Bool.true_or, Bool.false_or, if_true, Bool.false_eq_true, if_false, Bool.not_true, Bool.not_false, fitD] <;> rfl) ?_
  refine Ev.loopQ pD body (fun pre e => e = [some A, some B, some (.lst ((lawT rows pre [[]]).map fitD)), none, none, none, none, none] ∧ OkF (10 * pre.length) (lawT rows pre [[]])) (by simp only [evalE, evalEs, evalAnd, evalOr, evalO, evalC, evalI, varE, asgG, setMany, List.getElem?_cons_zero, List.getElem?_cons_succ, List.set_cons_zero, List.set_cons_succ, R.bind_ok, unbl, unint, lstOf, dicOf, iteT, iteA, iteO, Bool.and_true, Bool.or_false, Bool.and_false, Bool.or_true, Bool.true_and, Bool.false_and, Bool.true_or, Bool.false_or, if_true, Bool.false_eq_true, if_false, Bool.not_true, Bool.not_false, sb] <;> rfl) ⟨rfl, fun F m => by
      have : F = [] := List.mem_singleton.mp m
      subst this
      exact ⟨List.nodup_nil, Nat.zero_le _⟩⟩ ?_ ?_
  · rintro pre p suf _ hs ⟨rfl, hok⟩
    have hpm : p ∈ body := by rw [hs]; simp
    have hpl : pre.length < body.length := by rw [hs]; simp
    have hlen := lawT_len (rows := rows) pre [[]]
    rw [List.length_singleton, Nat.one_mul] at hlen
    have hpow := hn pre.length (Nat.le_of_lt hpl)
    have hpow2 := hn (pre.length + 1) hpl
    rw [Nat.pow_succ] at hpow2
    have hml : (lawT rows pre [[]]).length * rows.length ≤ 1000000 := Nat.le_trans (Nat.mul_le_mul_right _ hlen) hpow2
    have hsn := lawT_snoc rows pre p [[]]
    rw [hsn]
    generalize lawT rows pre [[]] = Fs at *
    have p10 := hp p hpm
    refine ⟨[some A, some B, some (.lst (Fs.map fitD)), some (pD p), none, none, none, none], rfl, ?_⟩
    have i0 : idxD (pD p) (.int 0) = .ok (.str p.1) := rfl
    have i1 : idxD (pD p) (.int 1) = .ok (.tup (p.2.map tD)) := rfl
    have sF : seqD (.lst (Fs.map fitD)) = .ok (Fs.map fitD) := rfl
    have jo := fun (r : Row) (F : Fit) (m : F ∈ Fs) => joined_ok k p.2 r.2 F (hok F m).1 (by have := (hok F m).2; omega)
    generalize pD p = P at i0 i1
    generalize hL : D.lst (Fs.map fitD) = L0 at sF
    refine Ev.asg (d := .lst []) (by simp only [evalE, evalEs, evalAnd, evalOr, evalO, evalC, evalI, varE, asgG, setMany, List.getElem?_cons_zero, List.getElem?_cons_succ, List.set_cons_zero, List.set_cons_succ, R.bind_ok, unbl, unint, lstOf, dicOf, iteT, iteA, iteO, Bool.and_true, Bool.or_false, Bool.and_false, Bool.or_true, Bool.true_and, Bool.false_and, Bool.true_or, Bool.false_or, if_true, Bool.false_eq_true, if_false, Bool.not_true, Bool.not_false] <;> rfl) ?_
    show Ev _ _ [some A, some B, some L0, some P, none, none, some (.lst []), none] _
    refine Ev.loopQ rD rows (fun q e => e = [some A, some B, some L0, some P, none, none, some (.lst ((moreT q p Fs).map optL)), none]) (by simp only [evalE, evalEs, evalAnd, evalOr, evalO, evalC, evalI, varE, asgG, setMany, List.getElem?_cons_zero, List.getElem?_cons_succ, List.set_cons_zero, List.set_cons_succ, R.bind_ok, unbl, unint, lstOf, dicOf, iteT, iteA, iteO, Bool.and_true, Bool.or_false, Bool.and_false, Bool.or_true, Bool.true_and, Bool.false_and, Bool.true_or, Bool.false_or, if_true, Bool.false_eq_true, if_false, Bool.not_true, Bool.not_false, sr] <;> rfl) rfl ?_ ?_
    · rintro q r q2 _ hq rfl
      refine ⟨[some A, some B, some L0, some P, none, none, some (.lst ((moreT q p Fs).map optL)), some (rD r)], rfl, ?_⟩
      have e1 : moreT (q ++ [r]) p Fs = moreT q p Fs ++ (if r.1 = p.1 then Fs.map (takenT p.2 r.2) else []) := by
        unfold moreT
        rw [List.flatMap_append]
        simp
      have hq1 : q.length < rows.length := by rw [hq]; simp
      have hql : (moreT q p Fs).length + Fs.length ≤ 1000000 := by
        have h1 := moreT_len (rows := q) (p := p) (Fs := Fs)
        have h2 : Fs.length * (q.length + 1) ≤ Fs.length * rows.length := Nat.mul_le_mul_left _ hq1
        rw [Nat.mul_add, Nat.mul_one] at h2
        omega
      have ce := cmpS_eq r.1 p.1
      have r0 := rowD_0 r
      have r1 := rowD_1 r
      rw [e1]
      generalize moreT q p Fs = Ms at *
      refine Ev.loopQ fitD Fs (fun a e => e = [some A, some B, some L0, some P, none, none, some (.lst ((Ms ++ (if r.1 = p.1 then a.map (takenT p.2 r.2) else [])).map optL)), some (rD r)]) (by simp only [evalE, evalEs, evalAnd, evalOr, evalO, evalC, evalI, varE, asgG, setMany, List.getElem?_cons_zero, List.getElem?_cons_succ, List.set_cons_zero, List.set_cons_succ, R.bind_ok, unbl, unint, lstOf, dicOf, iteT, iteA, iteO, Bool.and_true, Bool.or_false, Bool.and_false, Bool.or_true, Bool.true_and, Bool.false_and, Bool.true_or, Bool.false_or, if_true, Bool.false_eq_true, if_false, Bool.not_true, Bool.not_false, sF] <;> rfl) (by
          show (_ : MP.Env) = [some A, some B, some L0, some P, none, none, some (.lst ((Ms ++ (if r.1 = p.1 then [] else [])).map optL)), some (rD r)]
          rw [ite_self, List.append_nil]
          rfl) ?_ ?_
      · rintro a F a2 _ ha rfl
        have hF : F ∈ Fs := by rw [ha]; simp
        have hal : a.length < Fs.length := by rw [ha]; simp
        refine ⟨[some A, some B, some L0, some P, none, some (fitD F), some (.lst ((Ms ++ (if r.1 = p.1 then a.map (takenT p.2 r.2) else [])).map optL)), some (rD r)], rfl, ?_⟩
        refine Ev.ite (p := decide (r.1 = p.1)) (by simp only [evalE, evalEs, evalAnd, evalOr, evalO, evalC, evalI, varE, asgG, setMany, List.getElem?_cons_zero, List.getElem?_cons_succ, List.set_cons_zero, List.set_cons_succ, R.bind_ok, unbl, unint, lstOf, dicOf, iteT, iteA, iteO, Bool.and_true, Bool.or_false, Bool.and_false, Bool.or_true, Bool.true_and, Bool.false_and, Bool.true_or, Bool.false_or, if_true, Bool.false_eq_true, if_false, Bool.not_true, Bool.not_false, r0, i0, ce] <;> rfl) (fun h => ?_) (fun h => ?_)
        · have h : r.1 = p.1 := of_decide_eq_true h
          rw [if_pos h, if_pos h]
          refine Ev.app (v := optL (takenT p.2 r.2 F)) (xs := (Ms ++ a.map (takenT p.2 r.2)).map optL) rfl (by simp only [evalE, evalEs, evalAnd, evalOr, evalO, evalC, evalI, varE, asgG, setMany, List.getElem?_cons_zero, List.getElem?_cons_succ, List.set_cons_zero, List.set_cons_succ, R.bind_ok, unbl, unint, lstOf, dicOf, iteT, iteA, iteO, Bool.and_true, Bool.or_false, Bool.and_false, Bool.or_true, Bool.true_and, Bool.false_and, Bool.true_or, Bool.false_or, if_true, Bool.false_eq_true, if_false, Bool.not_true, Bool.not_false, i1, r1, jo r F hF] <;> rfl) (by rw [List.length_map, List.length_append, List.length_map]; show _ < 16777216; omega) (Ev.nil (Ev.nil ?_))
          show (_ : MP.Env) = _
          rw [List.map_append (f := takenT p.2 r.2), ← List.append_assoc, List.map_append (f := optL) (l₂ := List.map _ [F])]
          rfl
        · have h : ¬ r.1 = p.1 := of_decide_eq_false h
          rw [if_neg h, if_neg h]
          exact Ev.nil (Ev.nil rfl)
      · rintro _ rfl
        exact Ev.nil rfl
    · rintro _ rfl
      have ml := moreT_len (rows := rows) (p := p) (Fs := Fs)
      have c := ev_compF (F := run T (k + 1)) (g := .nm 5) (it := .of (.var 6)) (c := .cmp .isnot (.var 5) .non) (e := .var 5) (r := [some A, some B, some L0, some P, none, none, some (.lst ((moreT rows p Fs).map optL)), none]) (f := optL) (as := moreT rows p Fs) optL Option.isSome
        (by simp only [evalE, evalEs, evalAnd, evalOr, evalO, evalC, evalI, varE, asgG, setMany, List.getElem?_cons_zero, List.getElem?_cons_succ, List.set_cons_zero, List.set_cons_succ, R.bind_ok, unbl, unint, lstOf, dicOf, iteT, iteA, iteO, Bool.and_true, Bool.or_false, Bool.and_false, Bool.or_true, Bool.true_and, Bool.false_and, Bool.true_or, Bool.false_or, if_true, Bool.false_eq_true, if_false, Bool.not_true, Bool.not_false, seqD] <;> rfl) (fun o _ => ⟨[some A, some B, some L0, some P, none, some (optL o), some (.lst ((moreT rows p Fs).map optL)), none], rfl, by
          have : cmpD .isnot (optL o) .non = .ok o.isSome := by cases o <;> rfl
          exact (by simp only [evalE, evalEs, evalAnd, evalOr, evalO, evalC, evalI, varE, asgG, setMany, List.getElem?_cons_zero, List.getElem?_cons_succ, List.set_cons_zero, List.set_cons_succ, R.bind_ok, unbl, unint, lstOf, dicOf, iteT, iteA, iteO, Bool.and_true, Bool.or_false, Bool.and_false, Bool.or_true, Bool.true_and, Bool.false_and, Bool.true_or, Bool.false_or, if_true, Bool.false_eq_true, if_false, Bool.not_true, Bool.not_false, this] <;> rfl), fun _ => (by simp only [evalE, evalEs, evalAnd, evalOr, evalO, evalC, evalI, varE, asgG, setMany, List.getElem?_cons_zero, List.getElem?_cons_succ, List.set_cons_zero, List.set_cons_succ, R.bind_ok, unbl, unint, lstOf, dicOf, iteT, iteA, iteO, Bool.and_true, Bool.or_false, Bool.and_false, Bool.or_true, Bool.true_and, Bool.false_and, Bool.true_or, Bool.false_or, if_true, Bool.false_eq_true, if_false, Bool.not_true, Bool.not_false] <;> rfl)⟩) (by show _ ≤ 16777216; omega)
      have e2 : ((moreT rows p Fs).filter Option.isSome).map optL = (lawP rows p Fs).map fitD := by
        unfold lawP
        generalize moreT rows p Fs = os
        induction os with
        | nil => rfl
        | cons o os ih =>
          cases o with
          | none => exact ih
          | some F =>
            show optL (some F) :: _ = fitD F :: _
            rw [ih]
            rfl
      rw [e2] at c
      refine Ev.asg (d := .lst ((lawP rows p Fs).map fitD)) c (Ev.nil ⟨rfl, fun G hG => ?_⟩)
      obtain ⟨g1, g2⟩ := lawP_ok (m := 10) p10 hok G hG
      exact ⟨g1, by rw [List.length_append, List.length_singleton]; omega⟩
  rintro _ ⟨rfl, _⟩
  have hlen := lawT_len (rows := rows) body [[]]
  rw [List.length_singleton, Nat.one_mul] at hlen
  have hlen := Nat.le_trans hlen (hn _ (Nat.le_refl _))
  have hst : stD fitD ((lawT rows body [[]]).map ordF) = LC.fitsT rows body := by
    refine stD_uniq (n := 30) fitD_inj (fun F _ => plN_fitD 27 F) (fitsT_strict hr0 body) fun F => ?_
    unfold LC.fitsT
    rw [srtBy_mem, List.mem_map, List.mem_map]
    exact exists_congr fun G => and_congr_left fun _ => (lawT_mem (rows := rows) body [[]] [[]] (fun _ => Iff.rfl) G).symm
  have hst : dd [] (srtBy fitD ((lawT rows body [[]]).map ordF)) = LC.fitsT rows body := hst
  rw [← hst]
  generalize lawT rows body [[]] = Fs at *
  refine Ev.asg (d := .lst []) (by simp only [evalE, evalEs, evalAnd, evalOr, evalO, evalC, evalI, varE, asgG, setMany, List.getElem?_cons_zero, List.getElem?_cons_succ, List.set_cons_zero, List.set_cons_succ, R.bind_ok, unbl, unint, lstOf, dicOf, iteT, iteA, iteO, Bool.and_true, Bool.or_false, Bool.and_false, Bool.or_true, Bool.true_and, Bool.false_and, Bool.true_or, Bool.false_or, if_true, Bool.false_eq_true, if_false, Bool.not_true, Bool.not_false] <;> rfl) ?_
  show Ev _ _ [some A, some B, some (.lst (Fs.map fitD)), none, some (.lst []), none, none, none] _
  have sF : seqD (.lst (Fs.map fitD)) = .ok (Fs.map fitD) := rfl
  have sg : ∀ F, biD .sorted [fitD F] = .ok (fitD (ordF F)) := sorted_fit
  have c := ev_compM (F := run T (k + 1)) (g := .nm 5) (it := .of (.var 2)) (e := .bi .sorted (.cons (.var 5) .nil)) (r := [some A, some B, some (.lst (Fs.map fitD)), none, some (.lst []), none, none, none]) (f := fitD) (as := Fs) (fun F => fitD (ordF F))
    (by simp only [evalE, evalEs, evalAnd, evalOr, evalO, evalC, evalI, varE, asgG, setMany, List.getElem?_cons_zero, List.getElem?_cons_succ, List.set_cons_zero, List.set_cons_succ, R.bind_ok, unbl, unint, lstOf, dicOf, iteT, iteA, iteO, Bool.and_true, Bool.or_false, Bool.and_false, Bool.or_true, Bool.true_and, Bool.false_and, Bool.true_or, Bool.false_or, if_true, Bool.false_eq_true, if_false, Bool.not_true, Bool.not_false, sF] <;> rfl) (fun F _ => ⟨[some A, some B, some (.lst (Fs.map fitD)), none, some (.lst []), some (fitD F), none, none], rfl, (by simp only [evalE, evalEs, evalAnd, evalOr, evalO, evalC, evalI, varE, asgG, setMany, List.getElem?_cons_zero, List.getElem?_cons_succ, List.set_cons_zero, List.set_cons_succ, R.bind_ok, unbl, unint, lstOf, dicOf, iteT, iteA, iteO, Bool.and_true, Bool.or_false, Bool.and_false, Bool.or_true, Bool.true_and, Bool.false_and, Bool.true_or, Bool.false_or, if_true, Bool.false_eq_true, if_false, Bool.not_true, Bool.not_false, sg] <;> rfl)⟩) (by show _ ≤ 16777216; omega)
  have so : biD .sorted [.lst (Fs.map fun F => fitD (ordF F))] = .ok (.lst ((srtBy fitD (Fs.map ordF)).map fitD)) := by
    rw [show (Fs.map fun F => fitD (ordF F)) = (Fs.map ordF).map fitD by rw [List.map_map]; rfl]
    show sortD _ = _
    unfold sortD
    rw [if_pos (sort_fits _), srtBy_map]
  have hS : (srtBy fitD (Fs.map ordF)).length ≤ 1000000 := by rw [srtBy_len, List.length_map]; exact hlen
  generalize srtBy fitD (Fs.map ordF) = Ss at *
  generalize D.lst (Fs.map fitD) = F0 at *
  refine Ev.loopQ fitD Ss (fun pre e => ∃ acc : List Fit, e = [some A, some B, some F0, none, some (.lst (acc.map fitD)), none, none, none] ∧ acc.length ≤ pre.length ∧ dd [] Ss = dd acc (Ss.drop pre.length)) (by
      rw [evalI, evalE, evalEs, c, evalEs]
      simp only [R.bind_ok]
      rw [so]
      rfl) ⟨[], rfl, Nat.le_refl _, rfl⟩ ?_ ?_
  · rintro pre x suf _ hs ⟨acc, rfl, hl2, hd⟩
    refine ⟨[some A, some B, some F0, none, some (.lst (acc.map fitD)), some (fitD x), none, none], rfl, ?_⟩
    have hdrop : Ss.drop pre.length = x :: suf := by rw [hs]; simp
    have hdrop2 : Ss.drop (pre ++ [x]).length = suf := by rw [hs]; simp
    rw [hdrop] at hd
    have hlen : pre.length < Ss.length := by rw [hs]; simp
    have hc : evalE (run T (k + 1)) (.or (.cons (.cmp .eq (.var 4) (.lst .nil)) (.cons (.cmp .ne (.idx (.var 4) (.bin .sub (.bi .len (.cons (.var 4) .nil)) (.int 1))) (.var 5)) .nil))) [some A, some B, some F0, none, some (.lst (acc.map fitD)), some (fitD x), none, none] = .ok (.bl (!decide (acc.getLast? = some x))) := by
      have e1 : cmpD .eq (.lst (acc.map fitD)) (.lst []) = .ok (decide (acc = [])) := eqD_fitss acc []
      cases h : acc.getLast? with
      | none =>
        have : acc = [] := List.getLast?_eq_none_iff.mp h
        subst this
        simp only [evalE, evalEs, evalAnd, evalOr, evalO, evalC, evalI, varE, asgG, setMany, List.getElem?_cons_zero, List.getElem?_cons_succ, List.set_cons_zero, List.set_cons_succ, R.bind_ok, unbl, unint, lstOf, dicOf, iteT, iteA, iteO, Bool.and_true, Bool.or_false, Bool.and_false, Bool.or_true, Bool.true_and, Bool.false_and, Bool.true_or, Bool.false_or, if_true, Bool.false_eq_true, if_false, Bool.not_true, Bool.not_false, e1]
        rfl
      | some y =>
        have hne : acc ≠ [] := fun z => by subst z; cases h
        rw [decide_eq_false hne] at e1
        have e2 := last_idx fitD h
        have e3 : cmpD .ne (fitD y) (fitD x) = .ok (!decide (y = x)) := by
          show (eqD _ _).bind _ = _
          rw [eqD_fits]; rfl
        have e4 : biD .len [.lst (acc.map fitD)] = .ok (.int (acc.map fitD).length) := rfl
        have e5 : binD .sub (.int (acc.map fitD).length) (.int 1) = .ok (.int ((acc.map fitD).length - 1)) := rfl
        simp only [evalE, evalEs, evalAnd, evalOr, evalO, evalC, evalI, varE, asgG, setMany, List.getElem?_cons_zero, List.getElem?_cons_succ, List.set_cons_zero, List.set_cons_succ, R.bind_ok, unbl, unint, lstOf, dicOf, iteT, iteA, iteO, Bool.and_true, Bool.or_false, Bool.and_false, Bool.or_true, Bool.true_and, Bool.false_and, Bool.true_or, Bool.false_or, if_true, Bool.false_eq_true, if_false, Bool.not_true, Bool.not_false, e1, e4, e5, e2, e3]
        by_cases hyx : y = x <;> simp [hyx]
    refine Ev.ite hc (fun h => ?_) (fun h => ?_)
    · have hne : ¬ acc.getLast? = some x := by simpa using h
      refine Ev.app (v := fitD x) (xs := acc.map fitD) rfl (by simp only [evalE, evalEs, evalAnd, evalOr, evalO, evalC, evalI, varE, asgG, setMany, List.getElem?_cons_zero, List.getElem?_cons_succ, List.set_cons_zero, List.set_cons_succ, R.bind_ok, unbl, unint, lstOf, dicOf, iteT, iteA, iteO, Bool.and_true, Bool.or_false, Bool.and_false, Bool.or_true, Bool.true_and, Bool.false_and, Bool.true_or, Bool.false_or, if_true, Bool.false_eq_true, if_false, Bool.not_true, Bool.not_false] <;> rfl) (by rw [List.length_map]; show _ < 16777216; omega) (Ev.nil (Ev.nil ⟨acc ++ [x], ?_, by simp; omega, ?_⟩))
      · show ([some A, some B, some F0, none, some (.lst (acc.map fitD ++ [fitD x])), none, none, none] : MP.Env) = _
        rw [List.map_append]; rfl
      · rw [hdrop2, hd]
        conv => lhs; unfold dd
        rw [if_neg hne]
    · have he : acc.getLast? = some x := by simpa using h
      refine Ev.nil (Ev.nil ⟨acc, rfl, by simp; omega, ?_⟩)
      rw [hdrop2, hd]
      conv => lhs; unfold dd
      rw [if_pos he]
  · rintro _ ⟨acc, rfl, _, hd⟩
    rw [List.drop_length] at hd
    refine Ev.ret (d := .lst (acc.map fitD)) (by simp only [evalE, evalEs, evalAnd, evalOr, evalO, evalC, evalI, varE, asgG, setMany, List.getElem?_cons_zero, List.getElem?_cons_succ, List.set_cons_zero, List.set_cons_succ, R.bind_ok, unbl, unint, lstOf, dicOf, iteT, iteA, iteO, Bool.and_true, Bool.or_false, Bool.and_false, Bool.or_true, Bool.true_and, Bool.false_and, Bool.true_or, Bool.false_or, if_true, Bool.false_eq_true, if_false, Bool.not_true, Bool.not_false] <;> rfl) ?_
    rw [hd]
    rfl
end K11
namespace K11
open PySem MP LC
variable {V : Nat → D → Prop}

theorem is_fits_ok (k : Nat) (Fs : List Fit) : run T (k + 1) "_law_is_fits" [.lst (Fs.map fitD), .lst (Fs.map fitD)] = .ok (.bl true) := by
  refine run_is T_is_fits rfl ?_
  have il := isl_lst (Fs.map fitD)
  have ln := len_lst fitD Fs
  have cn : cmpD .ne (.int (Fs.length : Int)) (.int (Fs.length : Int)) = .ok false := by rw [cmpI_ne, decide_eq_true rfl]; rfl
  have z : zipD (.lst (Fs.map fitD)) (.lst (Fs.map fitD)) = .ok ((Fs.zip Fs).map fun p => .tup [fitD p.1, fitD p.2]) := by simp only [zipD, zip_maps]
  generalize D.lst (Fs.map fitD) = A at *
  show Ev _ _ [some A, some A, none, none, none] _
  refine Ev.ff (by simp only [evalE, evalEs, evalAnd, evalOr, evalO, evalC, evalI, varE, asgG, setMany, List.getElem?_cons_zero, List.getElem?_cons_succ, List.set_cons_zero, List.set_cons_succ, R.bind_ok, unbl, unint, lstOf, dicOf, iteT, iteA, iteO, Bool.and_true, Bool.or_false, Bool.and_false, Bool.or_true, Bool.true_and, Bool.false_and, Bool.true_or, Bool.false_or, if_true, Bool.false_eq_true, if_false, Bool.not_true, Bool.not_false, il, ln, cn] <;> rfl) (Ev.nil ?_)
  refine Ev.loopQ (fun p : Fit × Fit => D.tup [fitD p.1, fitD p.2]) (Fs.zip Fs) (fun _ e => e = [some A, some A, none, none, none]) (by simp only [evalE, evalEs, evalAnd, evalOr, evalO, evalC, evalI, varE, asgG, setMany, List.getElem?_cons_zero, List.getElem?_cons_succ, List.set_cons_zero, List.set_cons_succ, R.bind_ok, unbl, unint, lstOf, dicOf, iteT, iteA, iteO, Bool.and_true, Bool.or_false, Bool.and_false, Bool.or_true, Bool.true_and, Bool.false_and, Bool.true_or, Bool.false_or, if_true, Bool.false_eq_true, if_false, Bool.not_true, Bool.not_false, z] <;> rfl) rfl ?_ ?_
  · rintro pre ⟨F, G⟩ suf _ hs rfl
    have hm : (F, G) ∈ Fs.zip Fs := by rw [hs]; simp
    have e : G = F := by
      obtain ⟨i, hi, e⟩ := List.mem_iff_getElem.mp hm
      rw [List.getElem_zip] at e
      injection e with e1 e2
      rw [← e1, ← e2]
    subst e
    refine ⟨[some A, some A, some (fitD G), some (fitD G), none], rfl, ?_⟩
    have ilF : biD .isList [fitD G] = .ok (.bl true) := rfl
    have nF : cmpD .ne (fitD G) (fitD G) = .ok false := same_ne (plN_fitD 27 G)
    have sF : seqD (fitD G) = .ok (G.map fD) := rfl
    refine Ev.ff (by simp only [evalE, evalEs, evalAnd, evalOr, evalO, evalC, evalI, varE, asgG, setMany, List.getElem?_cons_zero, List.getElem?_cons_succ, List.set_cons_zero, List.set_cons_succ, R.bind_ok, unbl, unint, lstOf, dicOf, iteT, iteA, iteO, Bool.and_true, Bool.or_false, Bool.and_false, Bool.or_true, Bool.true_and, Bool.false_and, Bool.true_or, Bool.false_or, if_true, Bool.false_eq_true, if_false, Bool.not_true, Bool.not_false, ilF, nF] <;> rfl) (Ev.nil ?_)
    generalize fitD G = P at *
    refine Ev.loopQ fD G (fun _ e => e = [some A, some A, some P, some P, none]) (by simp only [evalE, evalEs, evalAnd, evalOr, evalO, evalC, evalI, varE, asgG, setMany, List.getElem?_cons_zero, List.getElem?_cons_succ, List.set_cons_zero, List.set_cons_succ, R.bind_ok, unbl, unint, lstOf, dicOf, iteT, iteA, iteO, Bool.and_true, Bool.or_false, Bool.and_false, Bool.or_true, Bool.true_and, Bool.false_and, Bool.true_or, Bool.false_or, if_true, Bool.false_eq_true, if_false, Bool.not_true, Bool.not_false, sF] <;> rfl) rfl ?_ ?_
    · rintro p2 b s2 _ _ rfl
      refine ⟨[some A, some A, some P, some P, some (fD b)], rfl, ?_⟩
      have t1 : biD .isTuple [fD b] = .ok (.bl true) := rfl
      have i1 : idxD (fD b) (.int 1) = .ok (cD b.2) := rfl
      have t2 : biD .isTuple [cD b.2] = .ok (.bl true) := by cases b.2 <;> rfl
      obtain ⟨d, i2, t3⟩ : ∃ d, idxD (cD b.2) (.int 1) = .ok d ∧ biD .isBool [d] = .ok (.bl false) := by cases b.2 <;> exact ⟨_, rfl, rfl⟩
      exact Ev.ff (by simp only [evalE, evalEs, evalAnd, evalOr, evalO, evalC, evalI, varE, asgG, setMany, List.getElem?_cons_zero, List.getElem?_cons_succ, List.set_cons_zero, List.set_cons_succ, R.bind_ok, unbl, unint, lstOf, dicOf, iteT, iteA, iteO, Bool.and_true, Bool.or_false, Bool.and_false, Bool.or_true, Bool.true_and, Bool.false_and, Bool.true_or, Bool.false_or, if_true, Bool.false_eq_true, if_false, Bool.not_true, Bool.not_false, t1, i1, t2, i2, t3] <;> rfl) (Ev.nil (Ev.nil rfl))
    · rintro _ rfl
      exact Ev.nil rfl
  · rintro _ rfl
    exact Ev.ret (d := .bl true) (by simp only [evalE, evalEs, evalAnd, evalOr, evalO, evalC, evalI, varE, asgG, setMany, List.getElem?_cons_zero, List.getElem?_cons_succ, List.set_cons_zero, List.set_cons_succ, R.bind_ok, unbl, unint, lstOf, dicOf, iteT, iteA, iteO, Bool.and_true, Bool.or_false, Bool.and_false, Bool.or_true, Bool.true_and, Bool.false_and, Bool.true_or, Bool.false_or, if_true, Bool.false_eq_true, if_false, Bool.not_true, Bool.not_false] <;> rfl) rfl
/-! ### told -/
theorem forL_same {ks : List Nat} {f : D → MP.Env → R (Fl × MP.Env)} {r0 : MP.Env} : ∀ (xs : List D) (r : MP.Env), killR ks r = r0 → (∀ y ∈ xs, ∃ r1, f y r0 = .ok (.nx, r1) ∧ killR ks r1 = r0) → forL ks f xs r = .ok (.nx, r0)
  | [], r, h, _ => by unfold forL; rw [h]
  | y :: xs, r, h, hs => by
    obtain ⟨r1, h1, h2⟩ := hs y List.mem_cons_self
    unfold forL
    rw [h, h1]
    exact forL_same xs r1 h2 fun z m => hs z (List.mem_cons_of_mem _ m)
theorem Ev.told {F : Orc} {v x : Nat} {f : Str} {es : IEs} {c : IE} {body ss : ISs} {xs : List D} {r r0 : MP.Env} {Q : Fl → MP.Env → Prop} (h1 : evalE F (.call f es) r = .ok (.lst xs)) (h2 : evalE F c (r.set v (some (.lst xs))) = .ok (.bl false)) (h3 : xs.all innL = true) (h4 : xs.length < lim) (h5 : v < r.length)
    (h6 : killR [x] (r.set v none) = r0) (h7 : ∀ y ∈ xs, ∃ r1, evalSs F body (r0.set x (some y)) = .ok (.nx, r1) ∧ killR [x] r1 = r0) (k : Ev F ss r0 Q) : Ev F (.cons (.told v f es c x body) ss) r Q := by
  refine Ev.step ?_ k
  rw [evalS, h1, R.bind_ok, h2]
  simp only [R.bind_ok, unbl, lstOf, Bool.false_eq_true, if_false]
  rw [if_pos (by rw [h3, decide_eq_true h4, decide_eq_true h5]; rfl)]
  exact forL_same xs _ h6 h7
theorem inn_fit (F : Fit) : innL (fitD F) = true := by
  show (F.map fD).all noL = true
  rw [List.all_eq_true]
  intro d hd
  obtain ⟨b, _, rfl⟩ := List.mem_map.mp hd
  obtain ⟨x, c⟩ := b
  cases c <;> rfl
end K11
namespace K11
open PySem MP LC
variable {V : Nat → D → Prop}

theorem mod_nat (m : Int) (n : Nat) (h : 0 < n) : ∃ j : Nat, j < n ∧ binD .mod (.int m) (.int (n : Int)) = .ok (.int (j : Int)) := by
  obtain ⟨j, hj, ej⟩ := fmod_nat m n h
  refine ⟨j, hj, ?_⟩
  show (if ((n : Int) = 0) then R.bad else R.ok (D.int (m.fmod n))) = _
  rw [if_neg (by omega), ej]
theorem Ev.pop {F : Orc} {x : Nat} {xs : List D} {r : MP.Env} {ss : ISs} {Q : Fl → MP.Env → Prop} (h1 : varE x r = .ok (.lst xs)) (h2 : xs ≠ []) (k : Ev F ss (r.set x (some (.lst xs.dropLast))) Q) : Ev F (.cons (.pop x) ss) r Q :=
  Ev.step (by rw [evalS, h1]; simp only [R.bind_ok, lstOf]; rw [if_neg h2]) k
theorem pat_ok (k : Nat) (w : D) (L : List Str) (hL : L.length = 4) (rows : List Row) (hn : rows.length ≤ 100000) (h4 : ∀ r ∈ rows, r.2.length ≤ 3) (c : Int) (hrow : ∃ r0 : Row, run T (k + 1) "_law_row" [w, .int c] = .ok (rD r0) ∧ r0.2.length ≤ 3) :
    ∃ p : Pat, run T (k + 2) "_law_pattern" [w, .lst (L.map .str), .lst (rows.map rD), .int c] = .ok (pD p) ∧ p.2.length ≤ 4 := by
  suffices ∃ d, run T (k + 2) "_law_pattern" [w, .lst (L.map .str), .lst (rows.map rD), .int c] = .ok d ∧ ∃ p : Pat, p.2.length ≤ 4 ∧ d = pD p by
    obtain ⟨d, h, p, h1, rfl⟩ := this
    exact ⟨p, h, h1⟩
  refine run_ev T_pattern rfl ?_
  have iL := fun (i : Int) (a : 0 ≤ i) (b : i.toNat < L.length) => idx_get D.str a b
  generalize D.lst (L.map .str) = A at iL
  -- from the drawn row on
  have tail : ∀ (B : D) (r : Row), r.2.length ≤ 3 → Ev (run T (k + 1)) (.cons (.asg (.nm 4) (.lst .nil)) (.cons (.loop (.nm 5) (.rng1 (.bi .len (.cons (.var 7) .nil))) [5, 8] (.cons (.asg (.nm 8) (.call "_law_mix" (.cons (.var 3) (.cons (.bin .add (.int 17) (.var 5)) .nil)))) (.cons (.ifs (.or (.cons (.cmp .eq (.idx (.idx (.var 7) (.var 5)) (.int 0)) (.str "blank")) (.cons (.cmp .eq (.bin .mod (.var 8) (.int 2)) (.int 1)) .nil))) (.cons (.app 4 (.tup (.cons (.str "any") (.cons (.idx (.var 1) (.bin .mod (.bin .fdiv (.var 8) (.int 2)) (.int 4))) .nil)))) .nil) (.cons (.app 4 (.idx (.var 7) (.var 5))) .nil)) .nil))) (.cons (.ifs (.cmp .eq (.bin .mod (.call "_law_mix" (.cons (.var 3) (.cons (.int 21) .nil))) (.int 8)) (.int 1)) (.cons (.app 4 (.tup (.cons (.str "any") (.cons (.idx (.var 1) (.bin .mod (.call "_law_mix" (.cons (.var 3) (.cons (.int 22) .nil))) (.int 4))) .nil)))) .nil) .nil) (.cons (.ifs (.and (.cons (.cmp .eq (.bin .mod (.call "_law_mix" (.cons (.var 3) (.cons (.int 21) .nil))) (.int 8)) (.int 2)) (.cons (.cmp .gt (.bi .len (.cons (.var 4) .nil)) (.int 1)) .nil))) (.cons (.pop 4) .nil) .nil) (.cons (.ret (.tup (.cons (.var 6) (.cons (.bi .tuple (.cons (.var 4) .nil)) .nil)))) .nil))))) [some w, some A, some B, some (.int c), none, none, some (.str r.1), some (.tup (r.2.map cD)), none] fun fl _ => ∃ v, fl = .rt v ∧ ∃ p : Pat, p.2.length ≤ 4 ∧ v = pD p := fun B r l4 => by
    refine Ev.asg (d := .lst []) (by simp only [evalE, evalEs, evalAnd, evalOr, evalO, evalC, evalI, varE, asgG, setMany, List.getElem?_cons_zero, List.getElem?_cons_succ, List.set_cons_zero, List.set_cons_succ, R.bind_ok, unbl, unint, lstOf, dicOf, iteT, iteA, iteO, Bool.and_true, Bool.or_false, Bool.and_false, Bool.or_true, Bool.true_and, Bool.false_and, Bool.true_or, Bool.false_or, if_true, Bool.false_eq_true, if_false, Bool.not_true, Bool.not_false] <;> rfl) ?_
    have lt := len_tup cD r.2
    refine Ev.loopQ (fun (i : Nat) => D.int i) (List.range r.2.length) (fun pre e => ∃ ts : List Term, ts.length = pre.length ∧ e = [some w, some A, some B, some (.int c), some (.lst (ts.map tD)), none, some (.str r.1), some (.tup (r.2.map cD)), none]) (ev_rng1 (by simp only [evalE, evalEs, evalAnd, evalOr, evalO, evalC, evalI, varE, asgG, setMany, List.getElem?_cons_zero, List.getElem?_cons_succ, List.set_cons_zero, List.set_cons_succ, R.bind_ok, unbl, unint, lstOf, dicOf, iteT, iteA, iteO, Bool.and_true, Bool.or_false, Bool.and_false, Bool.or_true, Bool.true_and, Bool.false_and, Bool.true_or, Bool.false_or, if_true, Bool.false_eq_true, if_false, Bool.not_true, Bool.not_false, lt] <;> rfl) (LC.small_of (by omega) (by omega)) (by omega)) ⟨[], rfl, rfl⟩ ?_ ?_
    · rintro pre i suf _ hs ⟨ts, hl, rfl⟩
      have hi : i < r.2.length := List.mem_range.mp (by rw [hs]; simp)
      have hpl : pre.length < r.2.length := by
        have := congrArg List.length hs
        rw [List.length_range, List.length_append, List.length_cons] at this
        omega
      refine ⟨[some w, some A, some B, some (.int c), some (.lst (ts.map tD)), some (.int i), some (.str r.1), some (.tup (r.2.map cD)), none], rfl, ?_⟩
      have mi := mix_ok (T := T) T_mix k c (17 + i) (by omega) (by omega)
      have a1 : binD .add (.int 17) (.int (i : Int)) = .ok (.int (17 + i)) := rfl
      generalize mix c (17 + i) = m at mi
      refine Ev.asg (d := .int m) (by simp only [evalE, evalEs, evalAnd, evalOr, evalO, evalC, evalI, varE, asgG, setMany, List.getElem?_cons_zero, List.getElem?_cons_succ, List.set_cons_zero, List.set_cons_succ, R.bind_ok, unbl, unint, lstOf, dicOf, iteT, iteA, iteO, Bool.and_true, Bool.or_false, Bool.and_false, Bool.or_true, Bool.true_and, Bool.false_and, Bool.true_or, Bool.false_or, if_true, Bool.false_eq_true, if_false, Bool.not_true, Bool.not_false, a1, mi] <;> rfl) ?_
      have ci := idx_getT cD (xs := r.2) (i := (i : Int)) (by omega) (by omega)
      generalize r.2[(i : Int).toNat] = cc at ci
      have b2 : binD .mod (.int m) (.int 2) = .ok (.int (m.fmod 2)) := rfl
      have b3 : binD .fdiv (.int m) (.int 2) = .ok (.int (m.fdiv 2)) := rfl
      have b4 : binD .mod (.int (m.fdiv 2)) (.int 4) = .ok (.int ((m.fdiv 2).fmod 4)) := rfl
      obtain ⟨q, hq, eq⟩ := fmod_nat (m.fdiv 2) 4 (by decide)
      have eq : (m.fdiv 2).fmod 4 = q := eq
      rw [eq] at b4
      have li := iL q (by omega) (by omega)
      generalize L[(q : Int).toNat] = l at li
      have lm : (ts.map tD).length < lim := by rw [List.length_map]; show _ < 16777216; omega
      have fin : ∀ t, ([some w, some A, some B, some (.int c), some (.lst (ts.map tD ++ [tD t])), none, some (.str r.1), some (.tup (r.2.map cD)), none] : MP.Env) = [some w, some A, some B, some (.int c), some (.lst ((ts ++ [t]).map tD)), none, some (.str r.1), some (.tup (r.2.map cD)), none] := fun t => by rw [List.map_append]; rfl
      have e2 : cmpD .eq (.int (m.fmod 2)) (.int 1) = .ok (decide (m.fmod 2 = 1)) := cmpI_eq _ _
      have done : ∀ t, (∃ ts' : List Term, ts'.length = (pre ++ [i]).length ∧ ([some w, some A, some B, some (.int c), some (.lst (ts.map tD ++ [tD t])), none, some (.str r.1), some (.tup (r.2.map cD)), none] : MP.Env) = [some w, some A, some B, some (.int c), some (.lst (ts'.map tD)), none, some (.str r.1), some (.tup (r.2.map cD)), none]) := fun t => ⟨ts ++ [t], by simp [hl], fin t⟩
      cases cc with
      | blank n =>
        refine Ev.tt (by simp only [evalE, evalEs, evalAnd, evalOr, evalO, evalC, evalI, varE, asgG, setMany, List.getElem?_cons_zero, List.getElem?_cons_succ, List.set_cons_zero, List.set_cons_succ, R.bind_ok, unbl, unint, lstOf, dicOf, iteT, iteA, iteO, Bool.and_true, Bool.or_false, Bool.and_false, Bool.or_true, Bool.true_and, Bool.false_and, Bool.true_or, Bool.false_or, if_true, Bool.false_eq_true, if_false, Bool.not_true, Bool.not_false, ci, cellD_0, cmpS_qbb] <;> rfl) ?_
        exact Ev.app (v := tD (.any l)) rfl (by simp only [evalE, evalEs, evalAnd, evalOr, evalO, evalC, evalI, varE, asgG, setMany, List.getElem?_cons_zero, List.getElem?_cons_succ, List.set_cons_zero, List.set_cons_succ, R.bind_ok, unbl, unint, lstOf, dicOf, iteT, iteA, iteO, Bool.and_true, Bool.or_false, Bool.and_false, Bool.or_true, Bool.true_and, Bool.false_and, Bool.true_or, Bool.false_or, if_true, Bool.false_eq_true, if_false, Bool.not_true, Bool.not_false, b3, b4, li, tD] <;> rfl) lm (Ev.nil (Ev.nil (done _)))
      | name s =>
        refine Ev.ite (p := decide (m.fmod 2 = 1)) ?_ (fun _ => ?_) (fun _ => ?_)
        · simp only [evalE, evalEs, evalAnd, evalOr, evalO, evalC, evalI, varE, asgG, setMany, List.getElem?_cons_zero, List.getElem?_cons_succ, List.set_cons_zero, List.set_cons_succ, R.bind_ok, unbl, unint, lstOf, dicOf, iteT, iteA, iteO, Bool.and_true, Bool.or_false, Bool.and_false, Bool.or_true, Bool.true_and, Bool.false_and, Bool.true_or, Bool.false_or, if_true, Bool.false_eq_true, if_false, Bool.not_true, Bool.not_false, ci, cellD_0, cmpS_qnb, b2, e2]
        · exact Ev.app (v := tD (.any l)) rfl (by simp only [evalE, evalEs, evalAnd, evalOr, evalO, evalC, evalI, varE, asgG, setMany, List.getElem?_cons_zero, List.getElem?_cons_succ, List.set_cons_zero, List.set_cons_succ, R.bind_ok, unbl, unint, lstOf, dicOf, iteT, iteA, iteO, Bool.and_true, Bool.or_false, Bool.and_false, Bool.or_true, Bool.true_and, Bool.false_and, Bool.true_or, Bool.false_or, if_true, Bool.false_eq_true, if_false, Bool.not_true, Bool.not_false, b3, b4, li, tD] <;> rfl) lm (Ev.nil (Ev.nil (done _)))
        · exact Ev.app (v := tD (.nm s)) rfl (by simp only [evalE, evalEs, evalAnd, evalOr, evalO, evalC, evalI, varE, asgG, setMany, List.getElem?_cons_zero, List.getElem?_cons_succ, List.set_cons_zero, List.set_cons_succ, R.bind_ok, unbl, unint, lstOf, dicOf, iteT, iteA, iteO, Bool.and_true, Bool.or_false, Bool.and_false, Bool.or_true, Bool.true_and, Bool.false_and, Bool.true_or, Bool.false_or, if_true, Bool.false_eq_true, if_false, Bool.not_true, Bool.not_false, ci, tD, cD] <;> rfl) lm (Ev.nil (Ev.nil (done _)))
    rintro _ ⟨ts, hl, rfl⟩
    rw [List.length_range] at hl
    have tp : ∀ xs, biD .tuple [.lst xs] = .ok (.tup xs) := fun _ => rfl
    have done : ∀ ts : List Term, ts.length ≤ 4 → Ev (run T (k + 1)) (.cons (.ret (.tup (.cons (.var 6) (.cons (.bi .tuple (.cons (.var 4) .nil)) .nil)))) .nil) [some w, some A, some B, some (.int c), some (.lst (ts.map tD)), none, some (.str r.1), some (.tup (r.2.map cD)), none] fun fl _ => ∃ v, fl = .rt v ∧ ∃ p : Pat, p.2.length ≤ 4 ∧ v = pD p := fun ts h => Ev.ret (d := pD (r.1, ts)) (by simp only [evalE, evalEs, evalAnd, evalOr, evalO, evalC, evalI, varE, asgG, setMany, List.getElem?_cons_zero, List.getElem?_cons_succ, List.set_cons_zero, List.set_cons_succ, R.bind_ok, unbl, unint, lstOf, dicOf, iteT, iteA, iteO, Bool.and_true, Bool.or_false, Bool.and_false, Bool.or_true, Bool.true_and, Bool.false_and, Bool.true_or, Bool.false_or, if_true, Bool.false_eq_true, if_false, Bool.not_true, Bool.not_false, tp, pD] <;> rfl) ⟨_, rfl, (r.1, ts), h, rfl⟩
    have m21 := mix_ok (T := T) T_mix k c 21 (by decide) (by decide)
    have m22 := mix_ok (T := T) T_mix k c 22 (by decide) (by decide)
    have b8 : binD .mod (.int (mix c 21)) (.int 8) = .ok (.int ((mix c 21).fmod 8)) := rfl
    generalize (mix c 21).fmod 8 = m at b8
    have e1 : cmpD .eq (.int m) (.int 1) = .ok (decide (m = 1)) := cmpI_eq _ _
    have e2 : cmpD .eq (.int m) (.int 2) = .ok (decide (m = 2)) := cmpI_eq _ _
    obtain ⟨q, hq, eq⟩ := mod_nat (mix c 22) 4 (by decide)
    have eq : binD .mod (.int (mix c 22)) (.int 4) = .ok (.int (q : Int)) := eq
    have li := iL q (by omega) (by omega)
    generalize L[(q : Int).toNat] = l at li
    refine Ev.ite (p := decide (m = 1)) (by simp only [evalE, evalEs, evalAnd, evalOr, evalO, evalC, evalI, varE, asgG, setMany, List.getElem?_cons_zero, List.getElem?_cons_succ, List.set_cons_zero, List.set_cons_succ, R.bind_ok, unbl, unint, lstOf, dicOf, iteT, iteA, iteO, Bool.and_true, Bool.or_false, Bool.and_false, Bool.or_true, Bool.true_and, Bool.false_and, Bool.true_or, Bool.false_or, if_true, Bool.false_eq_true, if_false, Bool.not_true, Bool.not_false, m21, b8, e1] <;> rfl) (fun h => ?_) (fun h => Ev.nil ?_)
    · have hm : m = 1 := of_decide_eq_true h
      rw [decide_eq_false (by omega)] at e2
      refine Ev.app (v := tD (.any l)) rfl (by simp only [evalE, evalEs, evalAnd, evalOr, evalO, evalC, evalI, varE, asgG, setMany, List.getElem?_cons_zero, List.getElem?_cons_succ, List.set_cons_zero, List.set_cons_succ, R.bind_ok, unbl, unint, lstOf, dicOf, iteT, iteA, iteO, Bool.and_true, Bool.or_false, Bool.and_false, Bool.or_true, Bool.true_and, Bool.false_and, Bool.true_or, Bool.false_or, if_true, Bool.false_eq_true, if_false, Bool.not_true, Bool.not_false, m22, eq, li, tD] <;> rfl) (by rw [List.length_map]; show _ < 16777216; omega) (Ev.nil ?_)
      have := done (ts ++ [.any l]) (by rw [List.length_append, List.length_singleton]; omega)
      rw [List.map_append] at this
      exact Ev.ff (by simp only [evalE, evalEs, evalAnd, evalOr, evalO, evalC, evalI, varE, asgG, setMany, List.getElem?_cons_zero, List.getElem?_cons_succ, List.set_cons_zero, List.set_cons_succ, R.bind_ok, unbl, unint, lstOf, dicOf, iteT, iteA, iteO, Bool.and_true, Bool.or_false, Bool.and_false, Bool.or_true, Bool.true_and, Bool.false_and, Bool.true_or, Bool.false_or, if_true, Bool.false_eq_true, if_false, Bool.not_true, Bool.not_false, m21, b8, e2] <;> rfl) (Ev.nil this)
    · have ln := len_lst tD ts
      have e3 : cmpD .gt (.int (ts.length : Int)) (.int 1) = .ok (decide (1 < ts.length)) := by
        show R.ok (decide ((1 : Int) < ts.length)) = _
        congr 1
        exact decide_eq_decide.mpr ⟨fun h => by omega, fun h => by omega⟩
      by_cases h2 : m = 2
      · rw [decide_eq_true h2] at e2
        refine Ev.ite (p := decide (1 < ts.length)) (by simp only [evalE, evalEs, evalAnd, evalOr, evalO, evalC, evalI, varE, asgG, setMany, List.getElem?_cons_zero, List.getElem?_cons_succ, List.set_cons_zero, List.set_cons_succ, R.bind_ok, unbl, unint, lstOf, dicOf, iteT, iteA, iteO, Bool.and_true, Bool.or_false, Bool.and_false, Bool.or_true, Bool.true_and, Bool.false_and, Bool.true_or, Bool.false_or, if_true, Bool.false_eq_true, if_false, Bool.not_true, Bool.not_false, m21, b8, e2, ln, e3] <;> rfl) (fun h3 => ?_) (fun _ => Ev.nil (done ts (by omega)))
        have h3 : 1 < ts.length := of_decide_eq_true h3
        refine Ev.pop (xs := ts.map tD) rfl (fun z => by
          have := congrArg List.length z
          rw [List.length_map, List.length_nil] at this
          omega) (Ev.nil ?_)
        have := done ts.dropLast (by rw [List.length_dropLast]; omega)
        rw [List.map_dropLast] at this
        exact this
      · rw [decide_eq_false h2] at e2
        exact Ev.ff (by simp only [evalE, evalEs, evalAnd, evalOr, evalO, evalC, evalI, varE, asgG, setMany, List.getElem?_cons_zero, List.getElem?_cons_succ, List.set_cons_zero, List.set_cons_succ, R.bind_ok, unbl, unint, lstOf, dicOf, iteT, iteA, iteO, Bool.and_true, Bool.or_false, Bool.and_false, Bool.or_true, Bool.true_and, Bool.false_and, Bool.true_or, Bool.false_or, if_true, Bool.false_eq_true, if_false, Bool.not_true, Bool.not_false, m21, b8, e2] <;> rfl) (Ev.nil (done ts (by omega)))
  obtain ⟨r0, h0, hl0⟩ := hrow
  have en := cmp_stands_ne rows []
  have ln := len_lst rD rows
  have i1 := fun (i : Int) (a : 0 ≤ i) (b : i.toNat < rows.length) => idx_get rD a b
  rw [List.map_nil] at en
  generalize D.lst (rows.map rD) = B at en ln i1
  show Ev _ _ [some w, some A, some B, some (.int c), none, none, none, none, none] _
  refine Ev.asgT (ds := [.str r0.1, .tup (r0.2.map cD)]) (by simp only [evalE, evalEs, evalAnd, evalOr, evalO, evalC, evalI, varE, asgG, setMany, List.getElem?_cons_zero, List.getElem?_cons_succ, List.set_cons_zero, List.set_cons_succ, R.bind_ok, unbl, unint, lstOf, dicOf, iteT, iteA, iteO, Bool.and_true, Bool.or_false, Bool.and_false, Bool.or_true, Bool.true_and, Bool.false_and, Bool.true_or, Bool.false_or, if_true, Bool.false_eq_true, if_false, Bool.not_true, Bool.not_false, h0, rD] <;> rfl) rfl ?_
  show Ev _ _ [some w, some A, some B, some (.int c), none, none, some (.str r0.1), some (.tup (r0.2.map cD)), none] _
  have m15 := mix_ok (T := T) T_mix k c 15 (by decide) (by decide)
  have b15 : binD .mod (.int (mix c 15)) (.int 8) = .ok (.int ((mix c 15).fmod 8)) := rfl
  generalize (mix c 15).fmod 8 = m' at b15
  have g15 : cmpD .gt (.int m') (.int 0) = .ok (decide (0 < m')) := rfl
  refine Ev.ite (p := !decide (rows = []) && decide (0 < m')) ?_ (fun h => ?_) (fun _ => Ev.nil (tail B r0 hl0))
  · cases hr : decide (rows = []) with
    | true =>
      rw [hr] at en
      simp only [evalE, evalEs, evalAnd, evalOr, evalO, evalC, evalI, varE, asgG, setMany, List.getElem?_cons_zero, List.getElem?_cons_succ, List.set_cons_zero, List.set_cons_succ, R.bind_ok, unbl, unint, lstOf, dicOf, iteT, iteA, iteO, Bool.and_true, Bool.or_false, Bool.and_false, Bool.or_true, Bool.true_and, Bool.false_and, Bool.true_or, Bool.false_or, if_true, Bool.false_eq_true, if_false, Bool.not_true, Bool.not_false, en]
    | false =>
      rw [hr] at en
      simp only [evalE, evalEs, evalAnd, evalOr, evalO, evalC, evalI, varE, asgG, setMany, List.getElem?_cons_zero, List.getElem?_cons_succ, List.set_cons_zero, List.set_cons_succ, R.bind_ok, unbl, unint, lstOf, dicOf, iteT, iteA, iteO, Bool.and_true, Bool.or_false, Bool.and_false, Bool.or_true, Bool.true_and, Bool.false_and, Bool.true_or, Bool.false_or, if_true, Bool.false_eq_true, if_false, Bool.not_true, Bool.not_false, en, m15, b15, g15]
  have h0 : 0 < rows.length := List.length_pos_iff.mpr (by
    rw [Bool.and_eq_true] at h
    simpa using h.1)
  have m1 := mix_ok (T := T) T_mix k c 16 (by decide) (by decide)
  have b1 : binD .mod (.int (mix c 16)) (.int (rows.length : Int)) = .ok (.int ((mix c 16).fmod rows.length)) := by
    show (if ((rows.length : Int) = 0) then R.bad else R.ok (D.int _)) = _
    rw [if_neg (by omega)]
  obtain ⟨j, hj, ej⟩ := fmod_nat (mix c 16) rows.length h0
  have ej : (mix c 16).fmod rows.length = j := ej
  rw [ej] at b1
  have i1 := i1 (j : Int) (by omega) (by omega)
  have hm : rows[(j : Int).toNat] ∈ rows := List.getElem_mem _
  generalize rows[(j : Int).toNat] = r at i1 hm
  exact Ev.asgT (ds := [.str r.1, .tup (r.2.map cD)]) (by simp only [evalE, evalEs, evalAnd, evalOr, evalO, evalC, evalI, varE, asgG, setMany, List.getElem?_cons_zero, List.getElem?_cons_succ, List.set_cons_zero, List.set_cons_succ, R.bind_ok, unbl, unint, lstOf, dicOf, iteT, iteA, iteO, Bool.and_true, Bool.or_false, Bool.and_false, Bool.or_true, Bool.true_and, Bool.false_and, Bool.true_or, Bool.false_or, if_true, Bool.false_eq_true, if_false, Bool.not_true, Bool.not_false, m1, ln, b1, i1, rD] <;> rfl) rfl (Ev.nil (tail B r (h4 r hm)))
end K11
namespace K11
open PySem MP LC
variable {V : Nat → D → Prop}

theorem scr_take (ns : List Int) (c : Nat) : ∃ ms : List Int, sliD (.scr ns) none (some (c : Int)) = .ok (.lst (ms.map .int)) ∧ ms.length ≤ c := by
  refine ⟨sliceL ns none (some (c : Int)), rfl, ?_⟩
  unfold sliceL
  rw [List.length_take]
  have : HT.sIx ns.length ns.length (some (c : Int)) = _ := HT.sIx_nat _ _ _
  rw [this]
  omega
theorem pow_le {n c q : Nat} (hn : n ≤ c) (h : (c = 40 ∧ q ≤ 2) ∨ (c = 9 ∧ q = 3) ∨ (c = 5 ∧ q = 4)) : ∀ j, j ≤ q → n ^ j ≤ 1600 := by
  intro j hj
  have h1 : n ^ j ≤ c ^ j := Nat.pow_le_pow_left hn j
  rcases h with ⟨rfl, hq⟩ | ⟨rfl, rfl⟩ | ⟨rfl, rfl⟩
  · have h2 : 40 ^ j ≤ 40 ^ 2 := Nat.pow_le_pow_right (by decide) (by omega)
    have h3 : (40 : Nat) ^ 2 = 1600 := by decide
    omega
  · have h2 : 9 ^ j ≤ 9 ^ 3 := Nat.pow_le_pow_right (by decide) (by omega)
    have h3 : (9 : Nat) ^ 3 = 729 := by decide
    omega
  · have h2 : 5 ^ j ≤ 5 ^ 4 := Nat.pow_le_pow_right (by decide) (by omega)
    have h3 : (5 : Nat) ^ 4 = 625 := by decide
    omega
theorem fits_none (rows : List Row) : LC.fitsT rows [] = [[]] := by
  have h0 : ordF [] = [] := (ordF_perm []).eq_nil
  show srtBy fitD [ordF []] = _
  rw [h0]
  exact List.perm_singleton.mp (srtBy_perm fitD [[]])
theorem law_true : ∀ ns : List Int, ns.length ≤ 63 → run T 8 "law" [.scr ns] = .ok (.bl true) := by
  intro ns hns
  refine run_is T_law rfl ?_
  obtain ⟨us, su, _⟩ := scr_take ns 63
  have su : sliD (.scr ns) none (some 63) = .ok (.lst (us.map .int)) := su
  have sc := scr_take ns
  generalize D.scr ns = S at su sc
  show Ev _ _ [some S, none, none, none, none, none, none, none, none, none, none, none, none, none] _
  have e1 : binD .mod (.int us.sum) (.int 1000003) = .ok (.int (us.sum.fmod 1000003)) := rfl
  have t1 : 0 ≤ us.sum.fmod 1000003 := Int.fmod_nonneg_of_pos _ (by omega)
  have t2 : us.sum.fmod 1000003 < 1000003 := Int.fmod_lt_of_pos _ (by omega)
  generalize us.sum.fmod 1000003 = t at e1 t1 t2
  obtain ⟨w, rw', hw⟩ := world_sg (V := V0) (T := T) T_mix T_words T_world 4 [.int t] (has1 (.int _))
  obtain ⟨lv, rl, hlv⟩ := ty_run (V := V0) (T := T) T_letters (sgM_ok T_mix 5) letters_ty (ds := [.int t]) (has1 (.int _))
  obtain ⟨L, rfl, hL4⟩ : ∃ L : List Str, lv = .lst (L.map .str) ∧ L.length = 4 := by
    cases hlv with
    | lst p q r =>
      obtain ⟨L, rfl, _⟩ := asMap (f := D.str) (P := fun _ : Str => True) fun y m => by
        obtain ⟨s, rfl⟩ := someStr rfl (p y m)
        exact ⟨s, rfl, trivial⟩
      rw [List.length_map] at q r
      exact ⟨L, rfl, by omega⟩
  have hrowK : ∀ (j : Nat) (c : Int), ∃ r0 : Row, run T (j + 3) "_law_row" [w, .int c] = .ok (rD r0) ∧ r0.2.length ≤ 3 := fun j c => by
    obtain ⟨v, rv, hv⟩ := ty_run (V := V0) (T := T) T_row (SgOk.cons (fun ds h => ty_run T_cell_by (sgM_ok T_mix j) cell_ty h) (sgM_ok T_mix (j + 1))) row_ty (ds := [w, .int c]) (.cons hw (has1 (.int _)))
    obtain ⟨r, rfl, hr⟩ := row_of hv rfl rfl rfl
    exact ⟨r, rv, hr.hi⟩
  refine Ev.asg (d := .int t) (by simp only [evalE, evalEs, evalAnd, evalOr, evalO, evalC, evalI, varE, asgG, setMany, List.getElem?_cons_zero, List.getElem?_cons_succ, List.set_cons_zero, List.set_cons_succ, R.bind_ok, unbl, unint, lstOf, dicOf, iteT, iteA, iteO, Bool.and_true, Bool.or_false, Bool.and_false, Bool.or_true, Bool.true_and, Bool.false_and, Bool.true_or, Bool.false_or, if_true, Bool.false_eq_true, if_false, Bool.not_true, Bool.not_false, su, sum_ints, e1] <;> rfl) ?_
  have m30 := mix_ok (T := T) T_mix 6 t 30 (by decide) (by decide)
  obtain ⟨q, hq, eq⟩ := mod_nat (mix t 30) 5 (by decide)
  have eq : binD .mod (.int (mix t 30)) (.int 5) = .ok (.int (q : Int)) := eq
  obtain ⟨c, ic, hc⟩ : ∃ c : Nat, idxD (.lst [.int 40, .int 40, .int 40, .int 9, .int 5]) (.int (q : Int)) = .ok (.int (c : Int)) ∧ ((c = 40 ∧ q ≤ 2) ∨ (c = 9 ∧ q = 3) ∨ (c = 5 ∧ q = 4)) := by
    rcases (by omega : q = 0 ∨ q = 1 ∨ q = 2 ∨ q = 3 ∨ q = 4) with rfl | rfl | rfl | rfl | rfl
    · exact ⟨40, rfl, .inl ⟨rfl, by decide⟩⟩
    · exact ⟨40, rfl, .inl ⟨rfl, by decide⟩⟩
    · exact ⟨40, rfl, .inl ⟨rfl, by decide⟩⟩
    · exact ⟨9, rfl, .inr (.inl ⟨rfl, rfl⟩)⟩
    · exact ⟨5, rfl, .inr (.inr ⟨rfl, rfl⟩)⟩
  obtain ⟨ms, sl, hml⟩ := sc c
  refine Ev.asg (d := .int (q : Int)) (by simp only [evalE, evalEs, evalAnd, evalOr, evalO, evalC, evalI, varE, asgG, setMany, List.getElem?_cons_zero, List.getElem?_cons_succ, List.set_cons_zero, List.set_cons_succ, R.bind_ok, unbl, unint, lstOf, dicOf, iteT, iteA, iteO, Bool.and_true, Bool.or_false, Bool.and_false, Bool.or_true, Bool.true_and, Bool.false_and, Bool.true_or, Bool.false_or, if_true, Bool.false_eq_true, if_false, Bool.not_true, Bool.not_false, m30, eq] <;> rfl) ?_
  refine Ev.asg (d := .lst (ms.map .int)) (by simp only [evalE, evalEs, evalAnd, evalOr, evalO, evalC, evalI, varE, asgG, setMany, List.getElem?_cons_zero, List.getElem?_cons_succ, List.set_cons_zero, List.set_cons_succ, R.bind_ok, unbl, unint, lstOf, dicOf, iteT, iteA, iteO, Bool.and_true, Bool.or_false, Bool.and_false, Bool.or_true, Bool.true_and, Bool.false_and, Bool.true_or, Bool.false_or, if_true, Bool.false_eq_true, if_false, Bool.not_true, Bool.not_false, ic, sl] <;> rfl) ?_
  refine Ev.asg (d := w) (by simp only [evalE, evalEs, evalAnd, evalOr, evalO, evalC, evalI, varE, asgG, setMany, List.getElem?_cons_zero, List.getElem?_cons_succ, List.set_cons_zero, List.set_cons_succ, R.bind_ok, unbl, unint, lstOf, dicOf, iteT, iteA, iteO, Bool.and_true, Bool.or_false, Bool.and_false, Bool.or_true, Bool.true_and, Bool.false_and, Bool.true_or, Bool.false_or, if_true, Bool.false_eq_true, if_false, Bool.not_true, Bool.not_false, rw'] <;> rfl) ?_
  refine Ev.asg (d := .lst (L.map .str)) (by simp only [evalE, evalEs, evalAnd, evalOr, evalO, evalC, evalI, varE, asgG, setMany, List.getElem?_cons_zero, List.getElem?_cons_succ, List.set_cons_zero, List.set_cons_succ, R.bind_ok, unbl, unint, lstOf, dicOf, iteT, iteA, iteO, Bool.and_true, Bool.or_false, Bool.and_false, Bool.or_true, Bool.true_and, Bool.false_and, Bool.true_or, Bool.false_or, if_true, Bool.false_eq_true, if_false, Bool.not_true, Bool.not_false, rl] <;> rfl) ?_
  have sm : seqD (.lst (ms.map .int)) = .ok (ms.map .int) := rfl
  generalize D.lst (ms.map .int) = M0 at sm
  have hc40 : c ≤ 40 := by omega
  have pa := fun rows (hn : rows.length ≤ 100000) (h4 : ∀ r ∈ rows, r.2.length ≤ 3) c => pat_ok 5 w L hL4 rows hn h4 c (hrowK 3 c)
  generalize D.lst (L.map .str) = L0 at pa
  show Ev _ _ [some S, some (.int t), some (.int (q : Int)), some M0, some w, some L0, none, none, none, none, none, none, none, none] _
  obtain ⟨rs, er, hrl, hrr⟩ := ev_compX (F := run T 7) (g := .nm 13) (it := .of (.var 3)) (e := .call "_law_row" (.cons (.var 4) (.cons (.var 13) .nil)))
    (r := [some S, some (.int t), some (.int (q : Int)), some M0, some w, some L0, none, none, none, none, none, none, none, none]) (f := D.int) (as := ms) rD (fun _ r => r.2.length ≤ 3)
    (by simp only [evalE, evalEs, evalAnd, evalOr, evalO, evalC, evalI, varE, asgG, setMany, List.getElem?_cons_zero, List.getElem?_cons_succ, List.set_cons_zero, List.set_cons_succ, R.bind_ok, unbl, unint, lstOf, dicOf, iteT, iteA, iteO, Bool.and_true, Bool.or_false, Bool.and_false, Bool.or_true, Bool.true_and, Bool.false_and, Bool.true_or, Bool.false_or, if_true, Bool.false_eq_true, if_false, Bool.not_true, Bool.not_false, sm] <;> rfl) (by show _ ≤ 16777216; omega) (fun a _ => by
      refine ⟨[some S, some (.int t), some (.int (q : Int)), some M0, some w, some L0, none, none, none, none, none, none, none, some (.int a)], rfl, ?_⟩
      obtain ⟨r, h1, h2⟩ := hrowK 4 a
      exact ⟨r, (by simp only [evalE, evalEs, evalAnd, evalOr, evalO, evalC, evalI, varE, asgG, setMany, List.getElem?_cons_zero, List.getElem?_cons_succ, List.set_cons_zero, List.set_cons_succ, R.bind_ok, unbl, unint, lstOf, dicOf, iteT, iteA, iteO, Bool.and_true, Bool.or_false, Bool.and_false, Bool.or_true, Bool.true_and, Bool.false_and, Bool.true_or, Bool.false_or, if_true, Bool.false_eq_true, if_false, Bool.not_true, Bool.not_false, h1] <;> rfl), h2⟩)
  have hrs := compX_mem (Q := fun r : Row => r.2.length ≤ 3) hrl hrr (fun _ _ h => h)
  have so := standL_ok (T := T) T_stand 6 rs (by show _ < 16777216; omega)
  refine Ev.asg (d := .lst ((mkS rs).map rD)) (by rw [evalE, evalEs, er, evalEs]; exact so) ?_
  have rowsC : (mkS rs).length ≤ c := Nat.le_trans (mkS_len _) (by omega)
  have rows3 : ∀ r ∈ mkS rs, r.2.length ≤ 3 := fun r m => hrs r (stD_mem.mp m)
  have rowsS := mkS_strict rs
  generalize mkS rs = rows at *
  have hr := rowsS.nodup (n := 30) plN_mem
  have pa := pa rows (by omega) rows3
  have pR : plainN 26 (.lst (rows.map rD)) = true := plN_map (plN_rD 22) rows
  have la := list_lst (rows.map rD)
  have m7 : binD .mul (.int t) (.int 7) = .ok (.int (t * 7)) := by
    show (if mulOk t 7 then R.ok (D.int (t * 7)) else .bad) = _
    rw [if_pos (mulOk_r (by omega) (by omega))]
  have arg : ∀ j : Nat, j < 9 → binD .mul (.int (j : Int)) (.int (j : Int)) = .ok (.int ((j : Int) * j)) := fun j hj => by
    show (if mulOk (j : Int) (j : Int) then R.ok (D.int ((j : Int) * j)) else .bad) = _
    rw [if_pos (mulOk_r (by omega) (by omega))]
  have ad : ∀ j : Nat, binD .add (.int (t * 7)) (.int ((j : Int) * j)) = .ok (.int (t * 7 + (j : Int) * j)) := fun _ => rfl
  have ae : ∀ j : Nat, binD .add (.int (t * 7 + (j : Int) * j)) (.int (j : Int)) = .ok (.int (t * 7 + (j : Int) * j + j)) := fun _ => rfl
  have du := fun body hp hb hn => due_ok 5 rows body hp hb hn (by omega) hr
  have fo := fun body hf => fits_ok (T := T) T_taken T_extended T_fits 4 rows body hf
  generalize D.lst (rows.map rD) = A at *
  show Ev _ _ [some S, some (.int t), some (.int (q : Int)), some M0, some w, some L0, some A, none, none, none, none, none, none, none] _
  obtain ⟨body, eb, hbl, hbb⟩ := ev_compX (F := run T 7) (g := .nm 12) (it := .rng1 (.var 2)) (e := .call "_law_pattern" (.cons (.var 4) (.cons (.var 5) (.cons (.var 6) (.cons (.bin .add (.bin .add (.bin .mul (.var 1) (.int 7)) (.bin .mul (.var 12) (.var 12))) (.var 12)) .nil)))))
    (r := [some S, some (.int t), some (.int (q : Int)), some M0, some w, some L0, some A, none, none, none, none, none, none, none]) (f := fun (j : Nat) => D.int j) (as := List.range q) pD (fun _ p => p.2.length ≤ 4)
    (ev_rng1 (n := q) (by simp only [evalE, evalEs, evalAnd, evalOr, evalO, evalC, evalI, varE, asgG, setMany, List.getElem?_cons_zero, List.getElem?_cons_succ, List.set_cons_zero, List.set_cons_succ, R.bind_ok, unbl, unint, lstOf, dicOf, iteT, iteA, iteO, Bool.and_true, Bool.or_false, Bool.and_false, Bool.or_true, Bool.true_and, Bool.false_and, Bool.true_or, Bool.false_or, if_true, Bool.false_eq_true, if_false, Bool.not_true, Bool.not_false] <;> rfl) (LC.small_of (by omega) (by omega)) (by omega)) (by rw [List.length_range]; show _ ≤ 16777216; omega) (fun j mj => by
      have hj : j < q := List.mem_range.mp mj
      obtain ⟨p, p1, p2⟩ := pa (t * 7 + (j : Int) * j + j)
      have ea : evalE (run T 7) (.bin .add (.bin .add (.bin .mul (.var 1) (.int 7)) (.bin .mul (.var 12) (.var 12))) (.var 12)) [some S, some (.int t), some (.int (q : Int)), some M0, some w, some L0, some A, none, none, none, none, none, some (.int (j : Int)), none] = .ok (.int (t * 7 + (j : Int) * j + j)) := by
        have v : ∀ (x : D) (e : MP.Env), e[12]? = some (some x) → varE 12 e = .ok x := fun x e h => by unfold varE; rw [h]
        have q1 : evalE (run T 7) (.bin .mul (.var 1) (.int 7)) [some S, some (.int t), some (.int (q : Int)), some M0, some w, some L0, some A, none, none, none, none, none, some (.int (j : Int)), none] = .ok (.int (t * 7)) := (by simp only [evalE, evalEs, evalAnd, evalOr, evalO, evalC, evalI, varE, asgG, setMany, List.getElem?_cons_zero, List.getElem?_cons_succ, List.set_cons_zero, List.set_cons_succ, R.bind_ok, unbl, unint, lstOf, dicOf, iteT, iteA, iteO, Bool.and_true, Bool.or_false, Bool.and_false, Bool.or_true, Bool.true_and, Bool.false_and, Bool.true_or, Bool.false_or, if_true, Bool.false_eq_true, if_false, Bool.not_true, Bool.not_false, m7] <;> rfl)
        have q2 : evalE (run T 7) (.bin .mul (.var 12) (.var 12)) [some S, some (.int t), some (.int (q : Int)), some M0, some w, some L0, some A, none, none, none, none, none, some (.int (j : Int)), none] = .ok (.int ((j : Int) * j)) := by
          rw [evalE, evalE, v (.int (j : Int)) _ rfl, R.bind_ok, R.bind_ok]
          exact arg j (by omega)
        have q3 : evalE (run T 7) (.bin .add (.bin .mul (.var 1) (.int 7)) (.bin .mul (.var 12) (.var 12))) [some S, some (.int t), some (.int (q : Int)), some M0, some w, some L0, some A, none, none, none, none, none, some (.int (j : Int)), none] = .ok (.int (t * 7 + (j : Int) * j)) := by
          rw [evalE, q1, q2, R.bind_ok, R.bind_ok]
          exact ad j
        rw [evalE, q3, R.bind_ok, evalE, v (.int (j : Int)) _ rfl, R.bind_ok]
        exact ae j
      exact ⟨[some S, some (.int t), some (.int (q : Int)), some M0, some w, some L0, some A, none, none, none, none, none, some (.int (j : Int)), none], rfl, p, by
        rw [evalE, evalEs, evalEs, evalEs, evalEs, ea, evalEs]
        exact p1, p2⟩)
  have hb4 := compX_mem (Q := fun p : Pat => p.2.length ≤ 4) hbl hbb (fun _ _ h => h)
  rw [List.length_range] at hbl
  refine Ev.asg (d := .lst (body.map pD)) eb ?_
  have pw := pow_le rowsC hc
  rw [← hbl] at pw
  have hbl4 : body.length ≤ 4 := by omega
  have du := du body (fun p m => Nat.le_trans (hb4 p m) (by decide)) (by omega) (fun j h => Nat.le_trans (pw j h) (by decide))
  have fo1 := fo body ⟨fun p m => Nat.le_trans (hb4 p m) (by decide), by omega, fun j h => Nat.lt_of_le_of_lt (pw j h) (by decide)⟩
  have fo2 := fo [] ⟨(fun _ m => nomatch m), by decide, fun j h => by
    have : j = 0 := Nat.le_zero.mp h
    rw [this]; show _ < 16777216; rw [Nat.pow_zero]; decide⟩
  rw [fits_none] at fo2
  have fo2 : run T 7 "fits" [A, .lst []] = .ok (.lst [.lst []]) := fo2
  have fl : (LC.fitsT rows body).length ≤ 1600 := by
    have h1 := extT_len (rows := rows) body [[]]
    rw [List.length_singleton, Nat.one_mul] at h1
    unfold LC.fitsT
    rw [srtBy_len, List.length_map]
    exact Nat.le_trans h1 (pw _ (Nat.le_refl _))
  have flen := fun F (m : F ∈ LC.fitsT rows body) => LC.fit_len hr ((fitsT_mem hr body F).mp m) (fun p m => Nat.le_trans (hb4 p m) (by decide)) (by omega)
  have is := is_fits_ok 6 (LC.fitsT rows body)
  have pF : MP.plain (.lst ((LC.fitsT rows body).map fitD)) = true := plN_map (plN_fitD 26) _
  have qF := same_eq pF
  show Ev _ _ [some S, some (.int t), some (.int (q : Int)), some M0, some w, some L0, some A, some (.lst (body.map pD)), none, none, none, none, none, none] _
  have lb := list_lst (body.map pD)
  have pB : plainN 26 (.lst (body.map pD)) = true := plN_map (plN_pD 22) body
  generalize D.lst (body.map pD) = B at *
  refine Ev.asg (d := .lst [A, B]) (by simp only [evalE, evalEs, evalAnd, evalOr, evalO, evalC, evalI, varE, asgG, setMany, List.getElem?_cons_zero, List.getElem?_cons_succ, List.set_cons_zero, List.set_cons_succ, R.bind_ok, unbl, unint, lstOf, dicOf, iteT, iteA, iteO, Bool.and_true, Bool.or_false, Bool.and_false, Bool.or_true, Bool.true_and, Bool.false_and, Bool.true_or, Bool.false_or, if_true, Bool.false_eq_true, if_false, Bool.not_true, Bool.not_false, la, lb] <;> rfl) ?_
  have pT : MP.plain (.lst [A, B]) = true := plainN_two (plainN_le (by decide) pR) (plainN_le (by decide) pB)
  have qT := same_eq pT
  have nT := same_ne pT
  generalize LC.fitsT rows body = Fs at *
  refine Ev.asg (d := .lst (Fs.map fitD)) (by simp only [evalE, evalEs, evalAnd, evalOr, evalO, evalC, evalI, varE, asgG, setMany, List.getElem?_cons_zero, List.getElem?_cons_succ, List.set_cons_zero, List.set_cons_succ, R.bind_ok, unbl, unint, lstOf, dicOf, iteT, iteA, iteO, Bool.and_true, Bool.or_false, Bool.and_false, Bool.or_true, Bool.true_and, Bool.false_and, Bool.true_or, Bool.false_or, if_true, Bool.false_eq_true, if_false, Bool.not_true, Bool.not_false, du] <;> rfl) ?_
  show Ev _ _ [some S, some (.int t), some (.int (q : Int)), some M0, some w, some L0, some A, some B, some (.lst [A, B]), some (.lst (Fs.map fitD)), none, none, none, none] _
  refine Ev.told (r0 := [some S, some (.int t), some (.int (q : Int)), some M0, some w, some L0, some A, some B, some (.lst [A, B]), some (.lst (Fs.map fitD)), none, none, none, none]) (xs := Fs.map fitD) (by simp only [evalE, evalEs, evalAnd, evalOr, evalO, evalC, evalI, varE, asgG, setMany, List.getElem?_cons_zero, List.getElem?_cons_succ, List.set_cons_zero, List.set_cons_succ, R.bind_ok, unbl, unint, lstOf, dicOf, iteT, iteA, iteO, Bool.and_true, Bool.or_false, Bool.and_false, Bool.or_true, Bool.true_and, Bool.false_and, Bool.true_or, Bool.false_or, if_true, Bool.false_eq_true, if_false, Bool.not_true, Bool.not_false, fo1] <;> rfl) (by simp only [evalE, evalEs, evalAnd, evalOr, evalO, evalC, evalI, varE, asgG, setMany, List.getElem?_cons_zero, List.getElem?_cons_succ, List.set_cons_zero, List.set_cons_succ, R.bind_ok, unbl, unint, lstOf, dicOf, iteT, iteA, iteO, Bool.and_true, Bool.or_false, Bool.and_false, Bool.or_true, Bool.true_and, Bool.false_and, Bool.true_or, Bool.false_or, if_true, Bool.false_eq_true, if_false, Bool.not_true, Bool.not_false, is, nT] <;> rfl) ?_ (by rw [List.length_map]; show _ < 16777216; omega) (by show 10 < 14; decide) rfl (fun y m => ?_) ?_
  · rw [List.all_eq_true]
    intro d hd
    obtain ⟨F, _, rfl⟩ := List.mem_map.mp hd
    exact inn_fit F
  · obtain ⟨F, hF, rfl⟩ := List.mem_map.mp m
    have hFl := flen F hF
    refine ⟨[some S, some (.int t), some (.int (q : Int)), some M0, some w, some L0, some A, some B, some (.lst [A, B]), some (.lst (Fs.map fitD)), none, some (.lst (F.map fD ++ [.non])), none, none], ?_, rfl⟩
    have e : evalS (run T 7) (.app 11 .non) [some S, some (.int t), some (.int (q : Int)), some M0, some w, some L0, some A, some B, some (.lst [A, B]), some (.lst (Fs.map fitD)), none, some (fitD F), none, none] = .ok (.nx, [some S, some (.int t), some (.int (q : Int)), some M0, some w, some L0, some A, some B, some (.lst [A, B]), some (.lst (Fs.map fitD)), none, some (.lst (F.map fD ++ [.non])), none, none]) := by
      have v11 : ∀ (d : D) (e : MP.Env), e[11]? = some (some d) → varE 11 e = .ok d := fun d e h => by unfold varE; rw [h]
      rw [evalS, v11 (fitD F) _ rfl, R.bind_ok]
      have lo : lstOf (fitD F) = .ok (F.map fD) := rfl
      rw [lo, R.bind_ok, evalE, R.bind_ok, if_pos (by rw [List.length_map]; show _ < 16777216; omega)]
      rfl
    show evalSs (run T 7) (.cons (.app 11 .non) .nil) _ = _
    rw [evalSs]
    show (evalS (run T 7) (.app 11 .non) [some S, some (.int t), some (.int (q : Int)), some M0, some w, some L0, some A, some B, some (.lst [A, B]), some (.lst (Fs.map fitD)), none, some (fitD F), none, none]).bind _ = _
    rw [e, R.bind_ok]
    show evalSs (run T 7) .nil _ = _
    rw [evalSs]
  · have q3 : cmpD .eq (.lst [.lst []]) (.lst [.lst []]) = .ok true := same_eq rfl
    exact Ev.ret (d := .bl true) (by simp only [evalE, evalEs, evalAnd, evalOr, evalO, evalC, evalI, varE, asgG, setMany, List.getElem?_cons_zero, List.getElem?_cons_succ, List.set_cons_zero, List.set_cons_succ, R.bind_ok, unbl, unint, lstOf, dicOf, iteT, iteA, iteO, Bool.and_true, Bool.or_false, Bool.and_false, Bool.or_true, Bool.true_and, Bool.false_and, Bool.true_or, Bool.false_or, if_true, Bool.false_eq_true, if_false, Bool.not_true, Bool.not_false, qT, fo1, qF, fo2, q3] <;> rfl) rfl
end K11
open PySem PySem.W PyProof.Rows
set_option maxHeartbeats 0 in
theorem PySem.Challenge.cw_mustrows_k11_fits_holds : PySem.Challenge.rw_mustrows_k11_fits.Holds := by
  w_on; o_law; k_head; (case hw => w_witness2)
  k_fill
  refine L2.walk_of (l := PySem.Challenge.rw_mustrows_k11_fits) (n := 63) (k := 8) (x := "_law_script") (CX := fun _ => L2.CX0) (sp := fun w => MP.spD PySem.Challenge.rw_mustrows_k11_fits.prog w _ (MP.run K11.TR 8) "law" K11.r14) rfl (by decide) rfl ⟨rfl, by decide, by decide⟩ (fun w h Y => PySem.W.kIn_of Y) ?F (fun w H a ns hl hO hS => MP.sp_law (n := 63) rfl rfl (by rw [K11.run_TR]; exact K11.law_true) w H a ns hl hO hS) (fun _ _ _ _ _ h => h)
  case F =>
    intro w mg fa h KX G hmg
    have D0 : MP.DefOk (L2.KOf KX) mg K11.TR "taken" K11.r0 := by
      dsimp only [L2.KOf]
      refine' MP.defAt (st := K11.topS 1) (ps := ["terms", "cells", "fit"]) KX G ?a ?l ?c ?k (fun _ _ _ _ _ _ us hl => match us, hl with | [_, _, _], _ => rfl) K11.sc0 rfl K11.ck0
      (case a => k_is); (case l => k_is); (case c => k_is); (case k => k_is)
    have D1 : MP.DefOk (L2.KOf KX) mg K11.TR "extended" K11.r1 := by
      dsimp only [L2.KOf]
      refine' MP.defAt (st := K11.topS 2) (ps := ["rows", "patterns", "some"]) KX G ?a ?l ?c ?k (fun _ _ _ _ _ _ us hl => match us, hl with | [_, _, _], _ => rfl) K11.sc1 rfl K11.ck1
      (case a => k_is); (case l => k_is); (case c => k_is); (case k => k_is)
    have D2 : MP.DefOk (L2.KOf KX) mg K11.TR "fits" K11.r2 := by
      dsimp only [L2.KOf]
      refine' MP.defAt (st := K11.topS 3) (ps := ["rows", "body"]) KX G ?a ?l ?c ?k (fun _ _ _ _ _ _ us hl => match us, hl with | [_, _], _ => rfl) K11.sc2 rfl K11.ck2
      (case a => k_is); (case l => k_is); (case c => k_is); (case k => k_is)
    have D3 : MP.DefOk (L2.KOf KX) mg K11.TR "_law_mix" K11.r3 := by
      dsimp only [L2.KOf]
      refine' MP.defAt (st := K11.topS 5) (ps := ["_law_cell", "_law_j"]) KX G ?a ?l ?c ?k (fun _ _ _ _ _ _ us hl => match us, hl with | [_, _], _ => rfl) K11.sc3 rfl K11.ck3
      (case a => k_is); (case l => k_is); (case c => k_is); (case k => k_is)
    have D4 : MP.DefOk (L2.KOf KX) mg K11.TR "_law_words" K11.r4 := by
      dsimp only [L2.KOf]
      refine' MP.defAt (st := K11.topS 6) (ps := ["_law_cell"]) KX G ?a ?l ?c ?k (fun _ _ _ _ _ _ us hl => match us, hl with | [_], _ => rfl) K11.sc4 rfl K11.ck4
      (case a => k_is); (case l => k_is); (case c => k_is); (case k => k_is)
    have D5 : MP.DefOk (L2.KOf KX) mg K11.TR "_law_world" K11.r5 := by
      dsimp only [L2.KOf]
      refine' MP.defAt (st := K11.topS 7) (ps := ["_law_cell"]) KX G ?a ?l ?c ?k (fun _ _ _ _ _ _ us hl => match us, hl with | [_], _ => rfl) K11.sc5 rfl K11.ck5
      (case a => k_is); (case l => k_is); (case c => k_is); (case k => k_is)
    have D6 : MP.DefOk (L2.KOf KX) mg K11.TR "_law_letters" K11.r6 := by
      dsimp only [L2.KOf]
      refine' MP.defAt (st := K11.topS 8) (ps := ["_law_cell"]) KX G ?a ?l ?c ?k (fun _ _ _ _ _ _ us hl => match us, hl with | [_], _ => rfl) K11.sc6 rfl K11.ck6
      (case a => k_is); (case l => k_is); (case c => k_is); (case k => k_is)
    have D7 : MP.DefOk (L2.KOf KX) mg K11.TR "_law_cell_by" K11.r7 := by
      dsimp only [L2.KOf]
      refine' MP.defAt (st := K11.topS 9) (ps := ["_law_world_here", "_law_number"]) KX G ?a ?l ?c ?k (fun _ _ _ _ _ _ us hl => match us, hl with | [_, _], _ => rfl) K11.sc7 rfl K11.ck7
      (case a => k_is); (case l => k_is); (case c => k_is); (case k => k_is)
    have D8 : MP.DefOk (L2.KOf KX) mg K11.TR "_law_row" K11.r8 := by
      dsimp only [L2.KOf]
      refine' MP.defAt (st := K11.topS 10) (ps := ["_law_world_here", "_law_cell"]) KX G ?a ?l ?c ?k (fun _ _ _ _ _ _ us hl => match us, hl with | [_, _], _ => rfl) K11.sc8 rfl K11.ck8
      (case a => k_is); (case l => k_is); (case c => k_is); (case k => k_is)
    have D9 : MP.DefOk (L2.KOf KX) mg K11.TR "_law_stand" K11.r9 := by
      dsimp only [L2.KOf]
      refine' MP.defAt (st := K11.topS 11) (ps := ["_law_rows"]) KX G ?a ?l ?c ?k (fun _ _ _ _ _ _ us hl => match us, hl with | [_], _ => rfl) K11.sc9 rfl K11.ck9
      (case a => k_is); (case l => k_is); (case c => k_is); (case k => k_is)
    have D10 : MP.DefOk (L2.KOf KX) mg K11.TR "_law_pattern" K11.r10 := by
      dsimp only [L2.KOf]
      refine' MP.defAt (st := K11.topS 12) (ps := ["_law_world_here", "_law_letters_here", "_law_rows", "_law_cell"]) KX G ?a ?l ?c ?k (fun _ _ _ _ _ _ us hl => match us, hl with | [_, _, _, _], _ => rfl) K11.sc10 rfl K11.ck10
      (case a => k_is); (case l => k_is); (case c => k_is); (case k => k_is)
    have D11 : MP.DefOk (L2.KOf KX) mg K11.TR "_law_joined" K11.r11 := by
      dsimp only [L2.KOf]
      refine' MP.defAt (st := K11.topS 13) (ps := ["_law_fit", "_law_terms", "_law_cells"]) KX G ?a ?l ?c ?k (fun _ _ _ _ _ _ us hl => match us, hl with | [_, _, _], _ => rfl) K11.sc11 rfl K11.ck11
      (case a => k_is); (case l => k_is); (case c => k_is); (case k => k_is)
    have D12 : MP.DefOk (L2.KOf KX) mg K11.TR "_law_due" K11.r12 := by
      dsimp only [L2.KOf]
      refine' MP.defAt (st := K11.topS 14) (ps := ["_law_rows", "_law_body"]) KX G ?a ?l ?c ?k (fun _ _ _ _ _ _ us hl => match us, hl with | [_, _], _ => rfl) K11.sc12 rfl K11.ck12
      (case a => k_is); (case l => k_is); (case c => k_is); (case k => k_is)
    have D13 : MP.DefOk (L2.KOf KX) mg K11.TR "_law_is_fits" K11.r13 := by
      dsimp only [L2.KOf]
      refine' MP.defAt (st := K11.topS 15) (ps := ["_law_found", "_law_due_here"]) KX G ?a ?l ?c ?k (fun _ _ _ _ _ _ us hl => match us, hl with | [_, _], _ => rfl) K11.sc13 rfl K11.ck13
      (case a => k_is); (case l => k_is); (case c => k_is); (case k => k_is)
    have D14 : MP.DefOk (L2.KOf KX) mg K11.TR "law" K11.r14 := by
      dsimp only [L2.KOf]
      refine' MP.defAt (st := K11.topS 16) (ps := ["_law_script"]) KX G ?a ?l ?c ?k (fun _ _ _ _ _ _ us hl => match us, hl with | [_], _ => rfl) K11.sc14 rfl K11.ck14
      (case a => k_is); (case l => k_is); (case c => k_is); (case k => k_is)
    have B0 : mg "len" = none := by refine' PySem.W.mg_none_of KX G ?z; (case z => k_is)
    have B1 : mg "sorted" = none := by refine' PySem.W.mg_none_of KX G ?z; (case z => k_is)
    have B2 : mg "tuple" = none := by refine' PySem.W.mg_none_of KX G ?z; (case z => k_is)
    have B3 : mg "list" = none := by refine' PySem.W.mg_none_of KX G ?z; (case z => k_is)
    have B4 : mg "str" = none := by refine' PySem.W.mg_none_of KX G ?z; (case z => k_is)
    have B5 : mg "int" = none := by refine' PySem.W.mg_none_of KX G ?z; (case z => k_is)
    have B6 : mg "sum" = none := by refine' PySem.W.mg_none_of KX G ?z; (case z => k_is)
    have B7 : mg "max" = none := by refine' PySem.W.mg_none_of KX G ?z; (case z => k_is)
    have B8 : mg "ord" = none := by refine' PySem.W.mg_none_of KX G ?z; (case z => k_is)
    have B9 : mg "all" = none := by refine' PySem.W.mg_none_of KX G ?z; (case z => k_is)
    have B10 : mg "isinstance" = none := by refine' PySem.W.mg_none_of KX G ?z; (case z => k_is)
    have B11 : mg "bool" = none := by refine' PySem.W.mg_none_of KX G ?z; (case z => k_is)
    have B12 : mg "range" = none := by refine' PySem.W.mg_none_of KX G ?z; (case z => k_is)
    have B13 : mg "enumerate" = none := by refine' PySem.W.mg_none_of KX G ?z; (case z => k_is)
    have B14 : mg "zip" = none := by refine' PySem.W.mg_none_of KX G ?z; (case z => k_is)
    have B15 : mg "dict" = none := by refine' PySem.W.mg_none_of KX G ?z; (case z => k_is)
    have B16 : mg "set" = none := by refine' PySem.W.mg_none_of KX G ?z; (case z => k_is)
    refine MP.law_ok (T := K11.TR) (d := K11.r14) (x := "_law_script") (law := "law") (fun x d hx => ?_) (fun y hy => ?_) rfl hmg rfl
    · have hm := PySem.mem_of_lookup hx
      simp only [K11.tabR, List.mem_cons, List.not_mem_nil, or_false, Prod.mk.injEq] at hm
      rcases hm with ⟨rfl, rfl⟩ | ⟨rfl, rfl⟩ | ⟨rfl, rfl⟩ | ⟨rfl, rfl⟩ | ⟨rfl, rfl⟩ | ⟨rfl, rfl⟩ | ⟨rfl, rfl⟩ | ⟨rfl, rfl⟩ | ⟨rfl, rfl⟩ | ⟨rfl, rfl⟩ | ⟨rfl, rfl⟩ | ⟨rfl, rfl⟩ | ⟨rfl, rfl⟩ | ⟨rfl, rfl⟩ | ⟨rfl, rfl⟩ <;> assumption
    · simp only [MP.bltNames, List.mem_cons, List.not_mem_nil, or_false] at hy
      rcases hy with rfl | rfl | rfl | rfl | rfl | rfl | rfl | rfl | rfl | rfl | rfl | rfl | rfl | rfl | rfl | rfl | rfl <;> assumption
