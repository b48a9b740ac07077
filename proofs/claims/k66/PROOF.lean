import PyProof.Rows.All
import Wide.All
import OpenK.AllK
import Wide.FinOn
import HandS.ForMost
import HandS.ForExc
import HandS.Wide
import HandS.IsInst
import HandS.StrMore
import HandS.TupAny
import HandS.TupMul
import HandS.TupLe
import HandS.Zip
import HandS.Replace
import HandS.Style
import HandS.Deep
import HandS.CallSlots
import HandS.SortInts
import HandS.ExcIs
import HandS.ExcField
import HandS.ExcOwn
import HandS.ExcInit
import HandS.Lambda
import KE.KExcIs
import HandS.TryMany
import HandS.Defaults
import HandS.Head0
import HandS.Head1
import HandS.Head2
import HandS.HeadEnd
import HandS.HeadHook4
import KE.DataCmp
import PyProof.ListStr
import PyProof.TupleOfStr
import HandS.Conv
import HandS.Codes
import PyProof.Rows.StrCase
import PyProof.Rows.StrLen
import HandS.ReplaceList
import KE.KRevSl
import PyProof.StrLawsTight
import PyProof.Rows.StrItems
import PyProof.StrOps2
import HandS.Ends
import KE.GoesEnum
import KE.GoesMore
import KE.GoesZip
import KE.DataMinKey
import HandS.SortKw
import KE.SortData
import PyProof.CollectStr
import PyProof.TupleOfSeq
import HandS.TryOnly
import PyProof.StrLawsRepr
import PySem.Challenge.RW_ringleast_k66_whole_rule_of_change
set_option Elab.async false
set_option linter.all false
set_option autoImplicit false
set_option maxRecDepth 100000
set_option maxHeartbeats 4000000
set_option linter.all false
/-! The core language: data D, expressions E, commands C, and what they compute (ev, ex, callF). Plain Lean; no program, no model in sight. -/
namespace RC

/-- data -/
inductive D where
  | non | bl (b : Bool) | int (i : Int) | str (s : List Nat) | tup (xs : List D) | lst (xs : List D)
  | ref (n : Nat) | exc (c : Nat) (v : D) | clo (f : Nat) (xs : List D)
  deriving Inhabited

/-- the shared lists of allI (the laws' sources of numbers) -/
abbrev Store := List (List Int)
/-- a slot: a value, or a list of this frame's own that it may change -/
inductive Sl where
  | v (d : D) | o (xs : List D) | f
abbrev Env := List (Option Sl)

inductive Res (α : Type) where
  | ok (a : α) (M : Store) | exc (c : Nat) (v : D) (M : Store) | stuck
def Res.bind {α β : Type} (r : Res α) (f : α → Store → Res β) : Res β := match r with
  | .ok a M => f a M
  | .exc c v M => .exc c v M
  | .stuck => .stuck
@[simp] theorem Res.bind_ok {α β : Type} (a : α) (M : Store) (f : α → Store → Res β) : (Res.ok a M).bind f = f a M := rfl
@[simp] theorem Res.bind_exc {α β : Type} (c : Nat) (v : D) (M : Store) (f : α → Store → Res β) : (Res.exc c v M : Res α).bind f = .exc c v M := rfl
@[simp] theorem Res.bind_stuck {α β : Type} (f : α → Store → Res β) : (Res.stuck : Res α).bind f = .stuck := rfl
/-- a pure partial result -/
def Res.of {α : Type} (M : Store) : Option α → Res α
  | some a => .ok a M
  | none => .stuck
@[simp] theorem Res.of_some {α : Type} (M : Store) (a : α) : Res.of M (some a) = .ok a M := rfl
@[simp] theorem Res.of_none {α : Type} (M : Store) : Res.of M (none : Option α) = .stuck := rfl

inductive Out where
  | next (ρ : Env) (M : Store) | ret (d : D) (M : Store) | brk (ρ : Env) (M : Store) | cont (ρ : Env) (M : Store) | exc (ρ : Env) (c : Nat) (v : D) (M : Store) | stuck

/-! ### syntax -/
inductive BO where
  | add | sub | mul | fdiv | mod | pow | shl | shr | band
  deriving DecidableEq
inductive CO where
  | eq | ne | lt | le | gt | ge | is_ | isnot | in_ | notin
  deriving DecidableEq
/-- built-ins called by name -/
inductive Bi where
  | len | abs | max2 | min2 | sum | all | any | list | tuple | max1 | min1 | sorted | repr | str_ | int_ | lenset
  deriving DecidableEq
/-- methods of texts, lists, tuples -/
inductive Mt where
  | swapcase | upper | lower | islower | join | index | count | replace | split | startswith | lindex | tindex
  deriving DecidableEq
/-- classes that isinstance asks for -/
inductive Ty where
  | int | bool | str | tuple | list | own (c : Nat)
  deriving DecidableEq
mutual
inductive Tg where
  | n (i : Nat) | t (ts : Tgs)
inductive Tgs where
  | nil | cons (a : Tg) (r : Tgs)
end
mutual
inductive E where
  | var (i : Nat) | bor (i : Nat) | cst (d : D) | glb (x : Nat)
  | bin (o : BO) (a b : E) | cmp (o : CO) (a b : E) | chain (o o' : CO) (a b c : E)
  | and (a b : E) | or (a b : E) | not (a : E) | neg (a : E) | ife (c a b : E)
  | call (f : Nat) (es : Es) | bi (b : Bi) (es : Es) | mt (m : Mt) (o : E) (es : Es) | isi (a : E) (t : Ty)
  | sub (a i : E) | slcL (a lo : E) | slcU (a hi : E) | slcB (a lo hi : E) | rev (a : E) | half (a : E)
  | tup (es : Es) | lst (es : Es)
  | lc (tg : Tg) (it : It) (cs : Es) (elt : E)
  | minK (f : Nat) (a : E) | minKD (f : Nat) (a dflt : E) | sortK (f : Nat) (a : E)
  | new (es : Es) | rpr (a : E)
  | isi2 (a : E) (t u : Ty) | isx (a : E) (c : Nat) | att (a : E) (n : Nat) | lamc (g : Nat) (a : E) | act (i : Nat)
inductive Es where
  | nil | cons (a : E) (r : Es)
/-- what is walked -/
inductive It where
  | seq (e : E) | rng (e : E) | rng2 (a b : E) | enum (e : E) | zip (a b : E)
end
mutual
inductive C where
  | set (i : Nat) (e : E) | asg (tg : Tg) (e : E) | par2 (i j : Nat) (a b : E) | par2o (i j : Nat) (fa fb : Bool) (a b : E) | par3 (i j k : Nat) (a b c : E)
  | aug (i : Nat) (o : BO) (e : E)
  | own (i : Nat) (e : E) | frz (i : Nat)
  | app (i : Nat) (e : E) | ext (i : Nat) (e : E) | pop (i : Nat) | setPop (j i : Nat) | setPopAt (j i : Nat) (e : E) | appPop (j i : Nat) (e : E) | put (i : Nat) (k e : E)
  | rput (r k e : E)
  | expr (e : E) | ret (e : E) | retN | never
  | ite (c : E) (t u : Cs) | for_ (tg : Tg) (it : It) (b : Cs) | while_ (c : E) (b : Cs)
  | pass | brk | cont
  | raise (c : Nat) (es : Es) | try_ (b : Cs) (ks : List Nat) (i j : Nat)
inductive Cs where
  | nil | cons (c : C) (r : Cs)
end

/-! ### data -/
def SZ : Nat := 16777216

mutual
/-- == -/
def eqD : D → D → Bool
  | .non, .non => true
  | .bl a, .bl b => a == b
  | .bl a, .int j => (if a then 1 else 0) == j
  | .int i, .bl b => i == (if b then 1 else 0)
  | .int i, .int j => i == j
  | .str x, .str y => x == y
  | .lst xs, .lst ys => eqAll xs ys
  | .tup xs, .tup ys => eqAll xs ys
  | _, _ => false
def eqAll : List D → List D → Bool
  | [], [] => true
  | x :: xs, y :: ys => eqD x y && eqAll xs ys
  | _, _ => false
end
mutual
/-- plain data at most n deep: nothing but None, allB, allI, texts, lists, tuples -/
def plain : Nat → D → Bool
  | _, .non => true
  | _, .bl _ => true
  | _, .int _ => true
  | _, .str s => s.all fun c => decide (c < 1114112)
  | n, .lst xs => match n with
    | 0 => false
    | n + 1 => plainAll n xs
  | n, .tup xs => match n with
    | 0 => false
    | n + 1 => plainAll n xs
  | _, _ => false
def plainAll : Nat → List D → Bool
  | _, [] => true
  | n, x :: xs => plain n x && plainAll n xs
end
/-- a plain value at most 40 deep -/
abbrev isPlain (d : D) : Bool := plain 40 d

/-! ### operators -/
def rep {α : Type} (n : Nat) (xs : List α) : List α := match n with
  | 0 => []
  | n + 1 => xs ++ rep n xs
def addF : D → D → Option D
  | .int i, .int j => some (.int (i + j))
  | .str s, .str t => if s.length + t.length ≤ SZ then some (.str (s ++ t)) else none
  | .lst s, .lst t => if s.length + t.length ≤ SZ then some (.lst (s ++ t)) else none
  | .tup s, .tup t => if s.length + t.length ≤ SZ then some (.tup (s ++ t)) else none
  | _, _ => none
def subF : D → D → Option D
  | .int i, .int j => some (.int (i - j))
  | _, _ => none
def mulF : D → D → Option D
  | .int i, .int j => if i.natAbs < 18446744073709551616 ∨ j.natAbs < 18446744073709551616 ∨ i.natAbs.log2 + j.natAbs.log2 < 1000000 then some (.int (i * j)) else none
  | .str s, .int j => if 0 ≤ j ∧ j < 100000 ∧ s.length * j.toNat ≤ SZ then some (.str (rep j.toNat s)) else none
  | .tup s, .int j => if s.length ≠ 0 ∧ 2 ≤ j ∧ j ≤ 1000 ∧ s.length ≤ 1000 then some (.tup (rep j.toNat s)) else none
  | .lst s, .int j => if 0 ≤ j ∧ j < 100000 ∧ s.length * j.toNat ≤ SZ then some (.lst (rep j.toNat s)) else none
  | _, _ => none
def fdivF : D → D → Option D
  | .int i, .int j => if 0 < j ∧ j.natAbs < 18446744073709551616 then some (.int (i / j)) else none
  | _, _ => none
def modF : D → D → Option D
  | .int i, .int j => if 0 < j then some (.int (i % j)) else none
  | _, _ => none
def powF : D → D → Option D
  | .int i, .int j => if 0 ≤ j ∧ j ≤ 1000 ∧ i.natAbs < 18446744073709551616 then some (.int (i ^ j.toNat)) else none
  | _, _ => none
def shlF : D → D → Option D
  | .int i, .int j => if 0 ≤ j ∧ j ≤ 1000 ∧ i.natAbs < 18446744073709551616 then some (.int (i * 2 ^ j.toNat)) else none
  | _, _ => none
def shrF : D → D → Option D
  | .int i, .int j => if 0 ≤ j then some (.int (i / 2 ^ j.toNat)) else none
  | _, _ => none
/-- & of numbers of at least 0 -/
def bandF : D → D → Option D
  | .int i, .int j => if 0 ≤ i ∧ 0 ≤ j then some (.int ((i.toNat &&& j.toNat : Nat) : Int)) else none
  | _, _ => none
def binF : BO → D → D → Option D
  | .add, a, b => addF a b
  | .sub, a, b => subF a b
  | .mul, a, b => mulF a b
  | .fdiv, a, b => fdivF a b
  | .mod, a, b => modF a b
  | .pow, a, b => powF a b
  | .shl, a, b => shlF a b
  | .shr, a, b => shrF a b
  | .band, a, b => bandF a b

def augF : BO → D → D → Option D
  | .add, .int i, .int j => some (.int (i + j))
  | .add, .str s, .str t => if s.length + t.length ≤ SZ then some (.str (s ++ t)) else none
  | .sub, .int i, .int j => some (.int (i - j))
  | _, _, _ => none

/-! ### comparisons -/
def ltN : List Nat → List Nat → Bool
  | _, [] => false
  | [], _ :: _ => true
  | x :: xs, y :: ys => x < y || (x == y && ltN xs ys)
mutual
/-- < of allI, texts, and lists and tuples of one shape; some b where it is told -/
def ltD : D → D → Option Bool
  | .int i, .int j => some (decide (i < j))
  | .str x, .str y => some (ltN x y)
  | .lst xs, .lst ys => ltAll xs ys
  | .tup xs, .tup ys => ltAll xs ys
  | _, _ => none
def ltAll : List D → List D → Option Bool
  | _, [] => some false
  | [], _ :: _ => some true
  | x :: xs, y :: ys => if eqD x y then ltAll xs ys else ltD x y
end
mutual
/-- the tokens by which alike data are compared -/
def ktoks : D → List (Int ⊕ List Nat)
  | .bl b => [.inl (if b = true then 1 else 0)]
  | .int n => [.inl n]
  | .str x => [.inr x]
  | .lst xs => ktoksAll xs
  | .tup xs => ktoksAll xs
  | _ => []
def ktoksAll : List D → List (Int ⊕ List Nat)
  | [] => [.inl 0]
  | x :: xs => .inl 1 :: (ktoks x ++ ktoksAll xs)
end
def ltK : Int ⊕ List Nat → Int ⊕ List Nat → Bool
  | .inl a, .inl b => decide (a < b)
  | .inl _, .inr _ => true
  | .inr _, .inl _ => false
  | .inr a, .inr b => decide (a < b)
def ltT : List (Int ⊕ List Nat) → List (Int ⊕ List Nat) → Bool
  | [], [] => false
  | [], _ :: _ => true
  | _ :: _, [] => false
  | x :: r, y :: t => ltK x y || (!ltK y x && ltT r t)
mutual
/-- data that can be compared -/
def alk : D → D → Bool
  | .bl _, .bl _ => true
  | .int _, .int _ => true
  | .str _, .str _ => true
  | .lst xs, .lst ys => alkAll xs ys
  | .tup xs, .tup ys => alkAll xs ys
  | _, _ => false
def alkAll : List D → List D → Bool
  | x :: xs, y :: ys => alk x y && alkAll xs ys
  | [], _ => true
  | _ :: _, [] => true
end
/-- x < y of data that are no ints -/
def ltF (x y : D) : Option Bool := if isPlain x && isPlain y && alk x y then some (ltT (ktoks x) (ktoks y)) else none
def inF (x y : D) : Option Bool := match y with
  | .str t => match x with
    | .str [c] => some (decide (c ∈ t))
    | _ => none
  | .lst ys => if isPlain x && isPlain (.lst ys) then some (ys.any fun z => eqD z x) else none
  | .tup ys => if isPlain x && isPlain (.tup ys) then some (ys.any fun z => eqD z x) else none
  | _ => none
def isNon : D → Bool
  | .non => true
  | _ => false
/-- == -/
def eqF : D → D → Option Bool
  | .str x, .str y => some (x == y)
  | a, b => if isPlain a && isPlain b then some (eqD a b) else none
def cmpF : CO → D → D → Option Bool
  | .eq, a, b => eqF a b
  | .ne, a, b => (eqF a b).map (!·)
  | .lt, .int i, .int j => some (decide (i < j))
  | .gt, .int i, .int j => some (decide (j < i))
  | .le, .int i, .int j => some (decide (i ≤ j))
  | .ge, .int i, .int j => some (decide (j ≤ i))
  | .lt, .lst x, .lst y => ltF (.lst x) (.lst y)
  | .lt, .tup x, .tup y => ltF (.tup x) (.tup y)
  | .lt, .str x, .str y => ltF (.str x) (.str y)
  | .gt, .str x, .str y => ltF (.str y) (.str x)
  | .le, .str x, .str y => (ltF (.str y) (.str x)).map (!·)
  | .ge, .str x, .str y => (ltF (.str x) (.str y)).map (!·)
  | .le, .lst x, .lst y => (ltF (.lst y) (.lst x)).map (!·)
  | .is_, a, .non => some (isNon a)
  | .isnot, a, .non => some (!isNon a)
  | .in_, a, b => inF a b
  | .notin, a, b => (inF a b).map (!·)
  | _, _, _ => none

/-! ### texts of ASCII -/
def isLow (c : Nat) : Bool := decide (97 ≤ c) && decide (c ≤ 122)
def isUp (c : Nat) : Bool := decide (65 ≤ c) && decide (c ≤ 90)
def upC (c : Nat) : Nat := if isLow c then c - 32 else c
def loC (c : Nat) : Nat := if isUp c then c + 32 else c
def swC (c : Nat) : Nat := if isLow c then c - 32 else if isUp c then c + 32 else c
def ascii (s : List Nat) : Bool := s.all fun c => decide (c < 128)
/-- the first place of a sign -/
def findC (c : Nat) : List Nat → Nat → Option Nat
  | [], _ => none
  | x :: xs, k => if x = c then some k else findC c xs (k + 1)
/-- the parts between signs c -/
def splitC (c : Nat) : List Nat → List (List Nat)
  | [] => [[]]
  | x :: xs => if x = c then [] :: splitC c xs else match splitC c xs with
    | [] => [[x]]
    | p :: ps => (x :: p) :: ps
def countC (c : Nat) : List Nat → Nat
  | [] => 0
  | x :: xs => if x = c then countC c xs + 1 else countC c xs
def allS : List D → Option (List (List Nat))
  | [] => some []
  | .str s :: r => (allS r).map (s :: ·)
  | _ :: _ => none
def joinS (sep : List Nat) : List (List Nat) → List Nat
  | [] => []
  | [x] => x
  | x :: y :: r => x ++ sep ++ joinS sep (y :: r)
def allI : List D → Option (List Int)
  | [] => some []
  | .int i :: r => (allI r).map (i :: ·)
  | _ :: _ => none
def allB : List D → Option (List Bool)
  | [] => some []
  | .bl i :: r => (allB r).map (i :: ·)
  | _ :: _ => none
def findD (x : D) : List D → Nat → Option Nat
  | [], _ => none
  | y :: ys, k => if eqD y x then some k else findD x ys (k + 1)
/-- the items of what is walked -/
def itemsOf : D → Option (List D)
  | .str s => some (s.map fun c => .str [c])
  | .lst xs => some xs
  | .tup xs => some xs
  | _ => none
def seqOf : D → Option (List D)
  | .lst xs => some xs
  | .tup xs => some xs
  | _ => none
def lenF : D → Option D
  | .str s => if s.length ≤ SZ then some (.int s.length) else none
  | .lst s => some (.int s.length)
  | .tup s => some (.int s.length)
  | _ => none
def sumI : List Int → Int
  | [] => 0
  | x :: xs => x + sumI xs
def maxI : Int → List Int → Int
  | m, [] => m
  | m, x :: xs => maxI (if x > m then x else m) xs
def minI : Int → List Int → Int
  | m, [] => m
  | m, x :: xs => minI (if x < m then x else m) xs
/-- the first least one -/
def bestD : D → List D → D
  | b, [] => b
  | b, d :: r => if ltT (ktoks d) (ktoks b) then bestD d r else bestD b r
def minD : List D → Option D
  | [] => none
  | d :: r => if (d :: r).all isPlain && (d :: r).all (fun x => (d :: r).all (alk x ·)) then some (bestD d r) else none
/-- in order, equal ones in their turns -/
def sortK (xs : List D) : List D := xs.mergeSort fun a b => !ltT (ktoks b) (ktoks a)
def tupB : D → Bool
  | .tup (_ :: _) => true
  | _ => false
def noTupB : D → Bool
  | .tup _ => false
  | _ => true
/-- data that can be sorted -/
def sortOk (xs : List D) : Bool := xs.all isPlain && (xs.all fun x => xs.all (alk x ·)) && (xs.all tupB || xs.all noTupB)
def biF : Bi → List D → Option D
  | .len, [d] => lenF d
  | .abs, [.int i] => some (.int (if i < 0 then -i else i))
  | .max2, [.int i, .int j] => some (.int (if j > i then j else i))
  | .min2, [.int i, .int j] => some (.int (if j < i then j else i))
  | .sum, [.lst xs] => (allI xs).map fun ns => .int (sumI ns)
  | .all, [.lst xs] => (allB xs).map fun bs => .bl (bs.all id)
  | .any, [.lst xs] => (allB xs).map fun bs => .bl (bs.any id)
  | .list, [d] => match d with
    | .str s => if s.length ≤ SZ then some (.lst (s.map fun c => .str [c])) else none
    | .lst xs => some (.lst xs)
    | .tup xs => some (.lst xs)
    | _ => none
  | .tuple, [d] => match d with
    | .str s => if s.length ≤ SZ then some (.tup (s.map fun c => .str [c])) else none
    | .lst xs => some (.tup xs)
    | .tup xs => some (.tup xs)
    | _ => none
  | .str_, [.int i] => if 0 ≤ i ∧ i < 1000000 then some (.str ((Nat.toDigits 10 i.toNat).map Char.toNat)) else none
  | .int_, [.bl b] => some (.int (if b then 1 else 0))
  | .int_, [.int i] => some (.int i)
  | .max1, [.lst xs] => match allI xs with
    | some (m :: ns) => some (.int (maxI m ns))
    | _ => none
  | .min1, [.lst xs] => match allI xs with
    | some (m :: ns) => some (.int (minI m ns))
    | some [] => none
    | none => minD xs
  | .sorted, [d] => match itemsOf d with
    | some xs => if sortOk xs ∧ xs.length ≤ SZ then some (.lst (sortK xs)) else none
    | none => none
  | _, _ => none
def mtF : Mt → D → List D → Option D
  | .swapcase, .str s, [] => if ascii s ∧ s.length ≤ 5000000 then some (.str (s.map swC)) else none
  | .upper, .str s, [] => if ascii s ∧ s.length ≤ 5000000 then some (.str (s.map upC)) else none
  | .lower, .str s, [] => if ascii s ∧ s.length ≤ 5000000 then some (.str (s.map loC)) else none
  | .islower, .str s, [] => if ascii s then some (.bl (s.any isLow && !s.any isUp)) else none
  | .join, .str s, [d] => match seqOf d with
    | some ds => match allS ds with
      | some ys => if (ys.map List.length).sum + ys.length * s.length ≤ SZ then some (.str (joinS s ys)) else none
      | none => none
    | none => none
  | .index, .str s, [.str [c]] => (findC c s 0).map fun k => .int k
  | .count, .str s, [.str [c]] => some (.int (countC c s))
  | .split, .str s, [.str [c]] => if s.length ≤ 1000000 then some (.lst ((splitC c s).map .str)) else none
  | .startswith, .str s, [.str t] => some (.bl (decide (s.take t.length = t)))
  | .replace, .str s, [.str [a], .str [b]] => if s.length ≤ 5000000 then some (.str (s.map fun c => if c = a then b else c)) else none
  | .lindex, .lst s, [t] => if isPlain t && isPlain (.lst s) then (findD t s 0).map fun k => .int k else none
  | .tindex, .tup s, [t] => if isPlain t && isPlain (.tup s) then (findD t s 0).map fun k => .int k else none
  | _, _, _ => none
/-- isinstance -/
def tyB : Ty → Bool
  | .int => true
  | .bool => true
  | _ => false
def tyI : Ty → Bool
  | .int => true
  | _ => false
def tyS : Ty → Bool
  | .str => true
  | _ => false
def tyT : Ty → Bool
  | .tuple => true
  | _ => false
def tyL : Ty → Bool
  | .list => true
  | _ => false
def isiF (isa : Nat → Nat → Bool) : D → Ty → Option Bool
  | .non, _ => some false
  | .bl _, t => some (tyB t)
  | .int _, t => some (tyI t)
  | .str _, t => some (tyS t)
  | .tup _, t => some (tyT t)
  | .lst _, t => some (tyL t)
  | .clo _ _, .int => some false
  | .clo _ _, .bool => some false
  | .clo _ _, .str => some false
  | .clo _ _, .tuple => some false
  | .clo _ _, .list => some false
  | _, _ => none
/-- the errors' classes: 0 RingError, 1 LimitError, 2 MissingError, 3 to 12 below 0, 13 and 14 below 1, 15 and 16 below 2; 17 ValueError, 18 ArithmeticError, 19 LookupError -/
def upC_ (k : Nat) : List Nat := if k ≤ 12 then (if 3 ≤ k then [0, 17] else if k = 0 then [17] else if k = 1 then [18] else [19]) else if k ≤ 14 then [1, 18] else if k ≤ 16 then [2, 19] else []
def isaC (k t : Nat) : Bool := decide (k = t) || (upC_ k).any fun u => decide (u = t)
/-- the field that an error's class keeps: 0 none, 1 index, 2 line, 3 limit, 4 move -/
def fldC (k : Nat) : Nat := if k = 8 then 1 else if k = 12 then 2 else if k = 13 then 3 else if k = 14 then 3 else if k = 16 then 4 else 0
/-- isinstance of an error, or of None -/
def isxF (isa : Nat → Nat → Bool) : D → Nat → Option Bool
  | .non, _ => some false
  | .exc k _, t => some (isa k t)
  | _, _ => none
/-- isinstance of one of two -/
def isi2F (isa : Nat → Nat → Bool) (x : D) (t u : Ty) : Option Bool := match isiF isa x t with
  | some a => (isiF isa x u).map (a || ·)
  | none => none
/-- an error's field -/
def attF (fld : Nat → Nat) : D → Nat → Option D
  | .exc k v, n => if n ≠ 0 ∧ fld k = n then some v else none
  | _, _ => none
/-- an index: of any sign -/
def ixN (n : Nat) (i : Int) : Option Nat := if 0 ≤ i then (if i < n then some i.toNat else none) else (if -(n : Int) ≤ i then some (i + n).toNat else none)
def atF {α : Type} (xs : List α) (i : Int) : Option α := match ixN xs.length i with
  | some k => xs[k]?
  | none => none
def subF2 : D → D → Option D
  | .str s, .int i => if s.length ≤ SZ then (atF s i).map fun c => .str [c] else none
  | .lst s, .int i => atF s i
  | .tup s, .int i => atF s i
  | _, _ => none
/-- a slice's bound -/
def clip (n : Nat) (i : Int) : Nat := if i < 0 then (i + (n : Int)).toNat else min i.toNat n
def cutL {α : Type} (xs : List α) (lo hi : Nat) : List α := (xs.drop lo).take (hi - lo)
def clipO (n d : Nat) : Option Int → Nat
  | none => d
  | some i => clip n i
def slcL {α : Type} (s : List α) (lo hi : Option Int) : List α := cutL s (clipO s.length 0 lo) (clipO s.length s.length hi)
def slcF : D → Option Int → Option Int → Option D
  | .str s, lo, hi => if s.length ≤ SZ then some (.str (slcL s lo hi)) else none
  | .lst s, lo, hi => some (.lst (slcL s lo hi))
  | .tup s, lo, hi => some (.tup (slcL s lo hi))
  | _, _, _ => none
def revF : D → Option D
  | .str s => if s.length ≤ SZ then some (.str s.reverse) else none
  | .lst s => some (.lst s.reverse)
  | .tup s => some (.tup s.reverse)
  | _ => none
/-- every second item -/
def halfL {α : Type} : List α → List α
  | [] => []
  | [x] => [x]
  | x :: _ :: r => x :: halfL r
def halfF : D → Option D
  | .str s => if s.length ≤ SZ then some (.str (halfL s)) else none
  | _ => none

/-! ### slots -/
def getV (ρ : Env) (i : Nat) : Option D := match ρ[i]? with
  | some (some (.v d)) => some d
  | _ => none
def getO (ρ : Env) (i : Nat) : Option (List D) := match ρ[i]? with
  | some (some (.o xs)) => some xs
  | _ => none
/-- a slot is given a value; one that does not exist stops -/
def setV (ρ : Env) (i : Nat) (d : D) : Env := ρ.set i (some (.v d))
def setO (ρ : Env) (i : Nat) (xs : List D) : Env := ρ.set i (some (.o xs))
mutual
def bindT : Tg → D → Env → Option Env
  | .n i, d, ρ => some (setV ρ i d)
  | .t ts, d, ρ => match d with
    | .tup xs => bindTs ts xs ρ
    | .lst xs => bindTs ts xs ρ
    | _ => none
def bindTs : Tgs → List D → Env → Option Env
  | .nil, [], ρ => some ρ
  | .cons a r, x :: xs, ρ => (bindT a x ρ).bind fun ρ1 => bindTs r xs ρ1
  | _, _, _ => none
end
mutual
/-- the slots that a target stores -/
def tgSlots : Tg → List Nat
  | .n i => [i]
  | .t ts => tgsSlots ts
def tgsSlots : Tgs → List Nat
  | .nil => []
  | .cons a r => tgSlots a ++ tgsSlots r
end
def wipeE (ρ : Env) : List Nat → Env
  | [] => ρ
  | v :: vs => (wipeE ρ vs).set v none
def zipD : List D → List D → List D
  | x :: xs, y :: ys => .tup [x, y] :: zipD xs ys
  | _, _ => []
def enumD : Nat → List D → List D
  | _, [] => []
  | k, x :: xs => .tup [.int k, x] :: enumD (k + 1) xs
def rngD (lo : Int) : Nat → List D
  | 0 => []
  | n + 1 => .int lo :: rngD (lo + 1) n

/-! ### what a run leans on -/
structure Cfg where
  call : Nat → List D → Store → Res D
  /-- .. two calls deeper: in a lambda -/
  call2 : Nat → List D → Store → Res D
  /-- a def whose parameter is called -/
  lam : Nat → (Store → Res D) → Store → Res D
  /-- what a call of the parameter does -/
  act : Store → Res D
  G : Nat → Option D
  /-- whether the class c is k or stands below it -/
  isa : Nat → Nat → Bool
  /-- whether an error's class keeps what it is made with -/
  fld : Nat → Nat
  /-- what repr shows -/
  rp : D → Option (List Nat)
  lf : Nat

/-- whether a slot holds a function -/
def getF (ρ : Env) (i : Nat) : Bool := match ρ[i]? with
  | some (some .f) => true
  | _ => false
def Cfg.low (c : Cfg) : Cfg := { c with call := c.call2, lam := fun _ _ _ => .stuck, act := fun _ => .stuck }
def truth {α : Type} (r : Res D) (f : Bool → Store → Res α) : Res α := r.bind fun d M => match d with
  | .bl b => f b M
  | _ => .stuck
/-- an error that leaves a comprehension stops -/
def Res.quiet {α : Type} : Res α → Res α
  | .exc _ _ _ => .stuck
  | r => r
def consO : Option D → List D → List D
  | some y, r => y :: r
  | none, r => r
def lcLoop (step : D → Store → Res (Option D)) : List D → Store → Res (List D)
  | [], M => .ok [] M
  | d :: ds, M => (step d M).bind fun o M1 => (lcLoop step ds M1).bind fun r M2 => .ok (consO o r) M2
/-- a text's key: f of it, run apart -/
def keyOf (c : Cfg) (f : Nat) (d : D) : Option D := match d with
  | .str _ => match c.call f [d] [] with
    | .ok k [] => if isPlain k then some k else none
    | _ => none
  | _ => none
def keyAll (g : D → Option D) : List D → Option (List (D × D))
  | [] => some []
  | d :: ds => (g d).bind fun k => (keyAll g ds).map ((k, d) :: ·)
/-- the first item with the least key -/
def bestK : D → D → List (D × D) → D
  | _, b, [] => b
  | kb, b, (k, d) :: r => if ltT (ktoks k) (ktoks kb) then bestK k d r else bestK kb b r
/-- every two can be compared -/
def alkEach (ks : List (D × D)) : Bool := ks.all fun p => ks.all fun q => alk p.1 q.1
def minF (g : D → Option D) (x : D) : Option D := match x with
  | .lst ds => match keyAll g ds with
    | some ((k, d) :: r) => if alkEach ((k, d) :: r) then some (bestK k d r) else none
    | _ => none
  | _ => none
def minFD (g : D → Option D) (x z : D) : Option D := match x with
  | .lst [] => some z
  | _ => minF g x
mutual
def ev : Cfg → E → Env → Store → Res D
  | c, .var i, ρ, M => Res.of M (getV ρ i)
  | c, .bor i, ρ, M => Res.of M ((getO ρ i).map .lst)
  | c, .cst d, _, M => .ok d M
  | c, .glb x, _, M => Res.of M (c.G x)
  | c, .bin o a b, ρ, M => (ev c a ρ M).bind fun x M1 => (ev c b ρ M1).bind fun y M2 => Res.of M2 (binF o x y)
  | c, .cmp o a b, ρ, M => (ev c a ρ M).bind fun x M1 => (ev c b ρ M1).bind fun y M2 => Res.of M2 ((cmpF o x y).map .bl)
  | c, .chain o o' a b d, ρ, M => (ev c a ρ M).bind fun x M1 => (ev c b ρ M1).bind fun y M2 => match cmpF o x y with
    | some true => (ev c d ρ M2).bind fun z M3 => Res.of M3 ((cmpF o' y z).map .bl)
    | some false => .ok (.bl false) M2
    | none => .stuck
  | c, .and a b, ρ, M => truth (ev c a ρ M) fun x M1 => if x then ev c b ρ M1 else .ok (.bl false) M1
  | c, .or a b, ρ, M => truth (ev c a ρ M) fun x M1 => if x then .ok (.bl true) M1 else ev c b ρ M1
  | c, .not a, ρ, M => truth (ev c a ρ M) fun x M1 => .ok (.bl (!x)) M1
  | c, .neg a, ρ, M => (ev c a ρ M).bind fun x M1 => match x with
    | .int i => .ok (.int (-i)) M1
    | _ => .stuck
  | c, .ife t a b, ρ, M => truth (ev c t ρ M) fun x M1 => if x then ev c a ρ M1 else ev c b ρ M1
  | c, .call f es, ρ, M => (evs c es ρ M).bind fun xs M1 => c.call f xs M1
  | c, .bi b es, ρ, M => (evs c es ρ M).bind fun xs M1 => Res.of M1 (biF b xs)
  | c, .mt m o es, ρ, M => (ev c o ρ M).bind fun x M1 => match x with
    | .str s => (evs c es ρ M1).bind fun xs M2 => Res.of M2 (mtF m (.str s) xs)
    | _ => .stuck
  | c, .isi a t, ρ, M => (ev c a ρ M).bind fun x M1 => Res.of M1 ((isiF c.isa x t).map .bl)
  | c, .sub a i, ρ, M => (ev c a ρ M).bind fun x M1 => (ev c i ρ M1).bind fun y M2 => match x with
    | .ref n => match y with
      | .int j => match M2[n]? with
        | some ns => Res.of M2 ((atF ns j).map .int)
        | none => .stuck
      | _ => .stuck
    | _ => Res.of M2 (subF2 x y)
  | c, .slcL a lo, ρ, M => (ev c a ρ M).bind fun x M1 => (ev c lo ρ M1).bind fun y M2 => match y with
    | .int i => Res.of M2 (slcF x (some i) none)
    | _ => .stuck
  | c, .slcU a hi, ρ, M => (ev c a ρ M).bind fun x M1 => (ev c hi ρ M1).bind fun y M2 => match y with
    | .int i => Res.of M2 (slcF x none (some i))
    | _ => .stuck
  | c, .slcB a lo hi, ρ, M => (ev c a ρ M).bind fun x M1 => (ev c lo ρ M1).bind fun y M2 => match y with
    | .int i => (ev c hi ρ M2).bind fun z M3 => match z with
      | .int j => Res.of M3 (slcF x (some i) (some j))
      | _ => .stuck
    | _ => .stuck
  | c, .rev a, ρ, M => (ev c a ρ M).bind fun x M1 => Res.of M1 (revF x)
  | c, .half a, ρ, M => (ev c a ρ M).bind fun x M1 => Res.of M1 (halfF x)
  | c, .tup es, ρ, M => (evs c es ρ M).bind fun xs M1 => .ok (.tup xs) M1
  | c, .lst es, ρ, M => (evs c es ρ M).bind fun xs M1 => .ok (.lst xs) M1
  | c, .lc tg it cs elt, ρ, M => (evi c it ρ M).bind fun ds M1 => if ds.length ≤ SZ then
      (lcLoop (fun d M2 => match bindT tg d (wipeE ρ (tgSlots tg)) with
        | none => .stuck
        | some ρ' => (evc c cs ρ' M2).bind fun b M3 => if b then (ev c elt ρ' M3).bind fun y M4 => .ok (some y) M4 else .ok none M3) ds M1).quiet.bind fun ys M2 => .ok (.lst ys) M2
    else .stuck
  | c, .minK f a, ρ, M => (ev c a ρ M).bind fun x M1 => Res.of M1 (minF (keyOf c f) x)
  | c, .minKD f a e, ρ, M => (ev c a ρ M).bind fun x M1 => (ev c e ρ M1).bind fun z M2 => Res.of M2 (minFD (keyOf c f) x z)
  | c, .sortK _ _, _, _ => .stuck
  | c, .new es, ρ, M => (evs c es ρ M).bind fun xs M1 => match allI xs with
    | some ns => .ok (.ref M1.length) (M1 ++ [ns])
    | none => .stuck
  | c, .rpr a, ρ, M => (ev c a ρ M).bind fun x M1 => Res.of M1 ((c.rp x).map .str)
  | c, .isi2 a t u, ρ, M => (ev c a ρ M).bind fun x M1 => Res.of M1 ((isi2F c.isa x t u).map .bl)
  | c, .isx a t, ρ, M => (ev c a ρ M).bind fun x M1 => Res.of M1 ((isxF c.isa x t).map .bl)
  | c, .att a n, ρ, M => (ev c a ρ M).bind fun x M1 => Res.of M1 (attF c.fld x n)
  | c, .lamc g a, ρ, M => (c.lam g (fun M' => ev c.low a ρ M') M).quiet
  | c, .act i, ρ, M => if getF ρ i then c.act M else .stuck
def evs : Cfg → Es → Env → Store → Res (List D)
  | c, .nil, _, M => .ok [] M
  | c, .cons a r, ρ, M => (ev c a ρ M).bind fun x M1 => (evs c r ρ M1).bind fun xs M2 => .ok (x :: xs) M2
/-- tests, one after another -/
def evc : Cfg → Es → Env → Store → Res Bool
  | c, .nil, _, M => .ok true M
  | c, .cons a r, ρ, M => truth (ev c a ρ M) fun x M1 => if x then evc c r ρ M1 else .ok false M1
def evi : Cfg → It → Env → Store → Res (List D)
  | c, .seq e, ρ, M => (ev c e ρ M).bind fun x M1 => Res.of M1 (itemsOf x)
  | c, .rng e, ρ, M => (ev c e ρ M).bind fun x M1 => match x with
    | .int j => if -1000000 ≤ j ∧ j ≤ 1000000 then .ok (rngD 0 j.toNat) M1 else .stuck
    | _ => .stuck
  | c, .rng2 a b, ρ, M => (ev c a ρ M).bind fun x M1 => (ev c b ρ M1).bind fun y M2 => match x with
    | .int i => match y with
      | .int j => if -1000000 ≤ i ∧ i ≤ 1000000 ∧ -1000000 ≤ j ∧ j ≤ 1000000 then .ok (rngD i (j - i).toNat) M2 else .stuck
      | _ => .stuck
    | _ => .stuck
  | c, .enum e, ρ, M => (ev c e ρ M).bind fun x M1 => match itemsOf x with
    | some xs => .ok (enumD 0 xs) M1
    | none => .stuck
  | c, .zip a b, ρ, M => (ev c a ρ M).bind fun x M1 => (ev c b ρ M1).bind fun y M2 => match itemsOf x with
    | some xs => match itemsOf y with
      | some ys => .ok (zipD xs ys) M2
      | none => .stuck
    | none => .stuck
end
/-- an expression's end in a command -/
def Res.then_ {α : Type} (r : Res α) (ρ : Env) (f : α → Store → Out) : Out := match r with
  | .ok a M => f a M
  | .exc c v M => .exc ρ c v M
  | .stuck => .stuck
@[simp] theorem Res.then_ok {α : Type} (a : α) (M : Store) (ρ : Env) (f : α → Store → Out) : (Res.ok a M).then_ ρ f = f a M := rfl
@[simp] theorem Res.then_exc {α : Type} (c : Nat) (v : D) (M : Store) (ρ : Env) (f : α → Store → Out) : (Res.exc c v M : Res α).then_ ρ f = .exc ρ c v M := rfl
@[simp] theorem Res.then_stuck {α : Type} (ρ : Env) (f : α → Store → Out) : (Res.stuck : Res α).then_ ρ f = .stuck := rfl
def orStuck (o : Option Env) (M : Store) : Out := match o with
  | some ρ => .next ρ M
  | none => .stuck
def forLoop (body : D → Env → Store → Out) : List D → Env → Store → Out
  | [], ρ, M => .next ρ M
  | d :: ds, ρ, M => match body d ρ M with
    | .next ρ1 M1 => forLoop body ds ρ1 M1
    | .cont ρ1 M1 => forLoop body ds ρ1 M1
    | .brk ρ1 M1 => .next ρ1 M1
    | o => o
def whileLoop (test : Env → Store → Res D) (body : Env → Store → Out) : Nat → Env → Store → Out
  | 0, _, _ => .stuck
  | n + 1, ρ, M => (test ρ M).then_ ρ fun d M1 => match d with
    | .bl true => match body ρ M1 with
      | .next ρ1 M2 => whileLoop test body n ρ1 M2
      | .cont ρ1 M2 => whileLoop test body n ρ1 M2
      | .brk ρ1 M2 => .next ρ1 M2
      | o => o
    | .bl false => .next ρ M1
    | _ => .stuck
def okF (f : Bool) (d : D) : Bool := match d with
  | .lst _ => true
  | _ => !f
/-- a value is stored; f: a new list, the frame's own -/
def putF (f : Bool) (ρ : Env) (i : Nat) (d : D) : Option Env := if f = true then (match d with
    | .lst xs => some (setO ρ i xs)
    | _ => none) else some (setV ρ i d)
mutual
def ex (c : Cfg) : C → Env → Store → Out
  | .set i e, ρ, M => (ev c e ρ M).then_ ρ fun d M1 => .next (setV ρ i d) M1
  | .asg tg e, ρ, M => (ev c e ρ M).then_ ρ fun d M1 => orStuck (bindT tg d ρ) M1
  | .par2 i j a b, ρ, M => (ev c a ρ M).then_ ρ fun x M1 => (ev c b ρ M1).then_ ρ fun y M2 => .next (setV (setV ρ i x) j y) M2
  | .par2o i j fa fb a b, ρ, M => (ev c a ρ M).then_ ρ fun x M1 => if okF fa x = true then (ev c b ρ M1).then_ ρ fun y M2 => orStuck ((putF fa ρ i x).bind fun ρ1 => putF fb ρ1 j y) M2 else .stuck
  | .par3 i j k a b d, ρ, M => (ev c a ρ M).then_ ρ fun x M1 => (ev c b ρ M1).then_ ρ fun y M2 => (ev c d ρ M2).then_ ρ fun z M3 => .next (setV (setV (setV ρ i x) j y) k z) M3
  | .aug i o e, ρ, M => match getV ρ i with
    | some x => (ev c e ρ M).then_ ρ fun y M1 => match augF o x y with
      | some d => .next (setV ρ i d) M1
      | none => .stuck
    | none => .stuck
  | .own i e, ρ, M => (ev c e ρ M).then_ ρ fun d M1 => match d with
    | .lst xs => .next (setO ρ i xs) M1
    | _ => .stuck
  | .frz i, ρ, M => match getO ρ i with
    | some xs => .next (setV ρ i (.lst xs)) M
    | none => .stuck
  | .app i e, ρ, M => match getO ρ i with
    | some xs => (ev c e ρ M).then_ ρ fun d M1 => if xs.length < SZ then .next (setO ρ i (xs ++ [d])) M1 else .stuck
    | none => .stuck
  | .ext i e, ρ, M => match getO ρ i with
    | some xs => (ev c e ρ M).then_ ρ fun d M1 => match d with
      | .lst ys => if xs.length + ys.length ≤ SZ then .next (setO ρ i (xs ++ ys)) M1 else .stuck
      | _ => .stuck
    | none => .stuck
  | .pop i, ρ, M => match getO ρ i with
    | some xs => match xs.getLast? with
      | some _ => .next (setO ρ i xs.dropLast) M
      | none => .stuck
    | none => .stuck
  | .setPop j i, ρ, M => match getO ρ i with
    | some xs => match xs.getLast? with
      | some d => .next (setV (setO ρ i xs.dropLast) j d) M
      | none => .stuck
    | none => .stuck
  | .setPopAt j i e, ρ, M => match getO ρ i with
    | some xs => (ev c e ρ M).then_ ρ fun k M1 => match k with
      | .int n => match ixN xs.length n with
        | some m => match xs[m]? with
          | some d => .next (setV (setO ρ i (xs.eraseIdx m)) j d) M1
          | none => .stuck
        | none => .stuck
      | _ => .stuck
    | none => .stuck
  | .appPop j i e, ρ, M => match getO ρ j with
    | some ys => match getO ρ i with
      | some xs => (ev c e ρ M).then_ ρ fun k M1 => match k with
        | .int n => match ixN xs.length n with
          | some m => match xs[m]? with
            | some d => if i = j then .stuck else if ys.length < SZ then .next (setO (setO ρ i (xs.eraseIdx m)) j (ys ++ [d])) M1 else .stuck
            | none => .stuck
          | none => .stuck
        | _ => .stuck
      | none => .stuck
    | none => .stuck
  | .put i k e, ρ, M => (ev c e ρ M).then_ ρ fun d M1 => match getO ρ i with
    | some xs => (ev c k ρ M1).then_ ρ fun n M2 => match n with
      | .int n => match ixN xs.length n with
        | some m => .next (setO ρ i (xs.set m d)) M2
        | none => .stuck
      | _ => .stuck
    | none => .stuck
  | .rput r k e, ρ, M => (ev c e ρ M).then_ ρ fun d M1 => (ev c r ρ M1).then_ ρ fun x M2 => (ev c k ρ M2).then_ ρ fun n M3 => match x with
    | .ref p => match M3[p]? with
      | some ns => match n with
        | .int n => match d with
          | .int z => match ixN ns.length n with
            | some m => .next ρ (M3.set p (ns.set m z))
            | none => .stuck
          | _ => .stuck
        | _ => .stuck
      | none => .stuck
    | _ => .stuck
  | .expr e, ρ, M => (ev c e ρ M).then_ ρ fun _ M1 => .next ρ M1
  | .ret e, ρ, M => (ev c e ρ M).then_ ρ fun d M1 => .ret d M1
  | .retN, _, M => .ret .non M
  | .never, _, _ => .stuck
  | .ite t a b, ρ, M => (ev c t ρ M).then_ ρ fun d M1 => match d with
    | .bl true => exs c a ρ M1
    | .bl false => exs c b ρ M1
    | _ => .stuck
  | .for_ tg it b, ρ, M => (evi c it ρ M).then_ ρ fun ds M1 => forLoop (fun d ρ M => match bindT tg d ρ with
    | some ρ' => exs c b ρ' M
    | none => .stuck) ds ρ M1
  | .while_ t b, ρ, M => whileLoop (fun ρ M => ev c t ρ M) (fun ρ M => exs c b ρ M) c.lf ρ M
  | .pass, ρ, M => .next ρ M
  | .brk, ρ, M => .brk ρ M
  | .cont, ρ, M => .cont ρ M
  | .raise k es, ρ, M => (evs c es ρ M).then_ ρ fun xs M1 => match xs with
    | [d] => .exc ρ k (if c.fld k = 0 then .non else d) M1
    | _ => .stuck
  | .try_ b ks i j, ρ, M => match exs c b ρ M with
    | .exc ρ1 k v M1 => if ks.any (c.isa k) then .next ((setV (setV ρ1 i (.exc k v)) j (.exc k v)).set i none) M1 else .exc ρ1 k v M1
    | o => o
def exs (c : Cfg) : Cs → Env → Store → Out
  | .nil, ρ, M => .next ρ M
  | .cons a r, ρ, M => match ex c a ρ M with
    | .next ρ1 M1 => exs c r ρ1 M1
    | o => o
end
/-! ### defs -/
structure Fn where
  np : Nat
  ns : Nat
  body : Cs
abbrev Tab := Nat → Option Fn
structure Prg where
  T : Tab
  G : Nat → Option D
  isa : Nat → Nat → Bool
  fld : Nat → Nat
  rp : D → Option (List Nat)
  lf : Nat
def start (fn : Fn) (args : List D) : Env := args.map (fun d => some (Sl.v d)) ++ List.replicate (fn.ns - fn.np) none
def Out.end_ : Out → Res D
  | .ret d M => .ok d M
  | .next _ M => .ok .non M
  | .exc _ c v M => .exc c v M
  | _ => .stuck
def startF (fn : Fn) : Env := some Sl.f :: List.replicate (fn.ns - 1) none
/-- calls, at a depth -/
structure Lv where
  call : Nat → List D → Store → Res D
  call1 : Nat → List D → Store → Res D
  call2 : Nat → List D → Store → Res D
  lam : Nat → (Store → Res D) → Store → Res D
def Lv.cfg (l : Lv) (P : Prg) (F : Store → Res D) : Cfg := ⟨l.call, l.call2, l.lam, F, P.G, P.isa, P.fld, P.rp, P.lf⟩
def tower (P : Prg) : Nat → Lv
  | 0 => ⟨fun _ _ _ => .stuck, fun _ _ _ => .stuck, fun _ _ _ => .stuck, fun _ _ _ => .stuck⟩
  | k + 1 => ⟨fun f args M => match P.T f with
      | some fn => if args.length = fn.np then (exs ((tower P k).cfg P fun _ => .stuck) fn.body (start fn args) M).end_ else .stuck
      | none => .stuck, (tower P k).call, (tower P k).call1, fun g F M => match k with
        | 0 => .stuck
        | _ + 1 => match P.T g with
          | some fn => if fn.np = 1 then (exs ((tower P k).cfg P F) fn.body (startF fn) M).end_ else .stuck
          | none => .stuck⟩
def callF (P : Prg) (k : Nat) : Nat → List D → Store → Res D := (tower P k).call
def lamF (P : Prg) (k : Nat) : Nat → (Store → Res D) → Store → Res D := (tower P k).lam
/-- in a def whose parameter is called -/
def Prg.cfgA (P : Prg) (k : Nat) (F : Store → Res D) : Cfg := (tower P k).cfg P F
def Prg.cfg (P : Prg) (k : Nat) : Cfg := P.cfgA k fun _ => .stuck
theorem callF_zero {P : Prg} {f : Nat} {args : List D} {M : Store} : callF P 0 f args M = .stuck := rfl
theorem lamF_zero {P : Prg} {g : Nat} {F : Store → Res D} {M : Store} : lamF P 0 g F M = .stuck := rfl
theorem lamF_one {P : Prg} {g : Nat} {F : Store → Res D} {M : Store} : lamF P 1 g F M = .stuck := rfl
theorem lamF_succ {P : Prg} {k g : Nat} {fn : Fn} {F : Store → Res D} {M : Store} (h : P.T g = some fn) (hl : fn.np = 1) : lamF P (k + 2) g F M = (exs (P.cfgA (k + 1) F) fn.body (startF fn) M).end_ := by
  show (match P.T g with
    | some fn => if fn.np = 1 then (exs (P.cfgA (k + 1) F) fn.body (startF fn) M).end_ else .stuck
    | none => .stuck) = _
  rw [h]
  exact if_pos hl
theorem callF_any {P : Prg} {k f : Nat} {args : List D} {M : Store} : callF P (k + 1) f args M = (match P.T f with
    | some fn => if args.length = fn.np then (exs (P.cfg k) fn.body (start fn args) M).end_ else .stuck
    | none => .stuck) := rfl
theorem callF_succ {P : Prg} {k : Nat} {f : Nat} {fn : Fn} {args : List D} {M : Store} (h : P.T f = some fn) (hl : args.length = fn.np) : callF P (k + 1) f args M = (exs (P.cfg k) fn.body (start fn args) M).end_ := by
  rw [callF_any, h]
  exact if_pos hl
end RC

set_option Elab.async false
set_option linter.all false
set_option maxRecDepth 100000
set_option maxHeartbeats 1000000
/-! How data of the core stands in the abstract heap. -/
namespace RC
open PySem PySem.Spec PyProof.Rows L2

abbrev OSet := Addr → Prop
/-- the tables of code objects that may grow, with the names of the code objects in them -/
class LX where
  tabs : List (Addr × Str)
  /-- the function that a parameter holds: its object, its code object, the code object's name -/
  cur : Option (Addr × Addr × Str)
  /-- the state in which the parameter's def was called -/
  anc : Hp × List Addr × OSet
/-- no table -/
def NT (o : HO) : Prop := ∀ ps, o ≠ .tbl ps
theorem nt_lst (xs : List V) : NT (.lst xs) := fun _ z => by cases z
theorem nt_tup (xs : List V) : NT (.tup xs) := fun _ z => by cases z
theorem nt_dK (xs : List (Key × V)) : NT (.dK xs) := fun _ z => by cases z
theorem nt_xd (xs : List (Str × V)) : NT (.xd xs) := fun _ z => by cases z
theorem nt_frz (o : Obj) (u : HO) : NT (.frz o u) := fun _ z => by cases z
theorem nt_ext (φ : Heap → Prop) : NT (.ext φ) := fun _ z => by cases z
/-- nothing stands at a but a table, perhaps -/
def Nn (H : Hp) (a : Addr) : Prop := ∀ o, NT o → H a ≠ some o
theorem nn_none {H : Hp} {a : Addr} (h : H a = none) : Nn H a := fun o _ e => by rw [h] at e; cases e
/-- the text as a value -/
def sV (s : List Nat) : V := .str ⟨s.toArray⟩

/-- a tuple that nobody changes -/
def TupAt (K : PySem.W.Frag) (H : Hp) (O : OSet) (θ : List Addr) (a : Addr) (vs : List V) : Prop :=
  (Rd H a (.tup vs) ∧ ¬ O a ∧ a ∉ θ) ∨ ∃ (o : Obj) (its : Array Value) (n : Nat), K.lookup a = some o ∧ o.cls = .type "tuple" ∧ o.data = .seq its n ∧ its.size ≤ sizeLine ∧ Vals vs its.toList
/-- a list that nobody changes any more -/
def LstAt (H : Hp) (O : OSet) (θ : List Addr) (a : Addr) (vs : List V) : Prop := Rd H a (.lst vs) ∧ ¬ O a ∧ a ∉ θ
/-- an empty dict that nobody changes -/
def DctAt (H : Hp) (O : OSet) (θ : List Addr) (a : Addr) : Prop := Rd H a (.dK []) ∧ ¬ O a ∧ a ∉ θ
/-- an error that is held at a -/
def ErO (cls : Value) (d : Option Addr) (a : Addr) : HO := .ext fun h => ∃ (oe : Obj) (vs : Array Value), h.get? a = some oe ∧ Zc cls d oe ∧ oe.data = .fields vs
def cname : Nat → Str
  | 0 => "RingError" | 1 => "LimitError" | 2 => "MissingError" | 3 => "BadRank" | 4 => "BadLetter" | 5 => "BadWord" | 6 => "BadRow" | 7 => "BadSubstitution" | 8 => "BadStep" | 9 => "BadTables"
  | 10 => "BadPair" | 11 => "BadSize" | 12 => "BadText" | 13 => "TooLong" | 14 => "TooLarge" | 15 => "NotInvertible" | 16 => "NotMinimal" | 17 => "ValueError" | 18 => "ArithmeticError" | _ => "LookupError"
def fname : Nat → Str
  | 1 => "index" | 2 => "line" | 3 => "limit" | _ => "move"
/-- the class with the number c -/
def clV (K : PySem.W.Frag) (c : Nat) : Value := if c = 17 then .type "ValueError" else if c = 18 then .type "ArithmeticError" else if c = 19 then .type "LookupError" else match PySem.W.nsIn K mainGlobals (cname c) with
  | some (some u) => u
  | _ => .none
/-- what the module says of a class whose errors are held -/
def clsB (K : PySem.W.Frag) (c : Nat) : Bool := match clV K c with
  | .ref C => xfB K C && decide (PySem.W.findIn K (.ref C) "__class__" = some (some (.builtin "object.__class__"))) && decide (PySem.W.specialIn K (.builtin "object.__class__") "__get__" = some (some (.builtin "getset_descriptor.__get__")))
      && decide (PySem.W.takesIn K (.builtin "object.__class__") = some true) && decide (PySem.W.mroIn K C (.type "object") = some true) && (decide (fldC c = 0) || decide (PySem.W.findIn K (.ref C) (fname (fldC c)) = some none))
      && (List.range 20).all fun t => decide (clV K t = .none) || (decide (PySem.W.kitOne K (.ref C) (clV K t) = some (isaC c t)) && decide (PySem.W.exmOne K (.ref C) (clV K t) = some (isaC c t)))
  | _ => false
mutual
def Rep (K : PySem.W.Frag) (H : Hp) (O : OSet) (θ : List Addr) : D → V → Prop
  | .non, v => v = .non
  | .bl b, v => v = .bl b
  | .int i, v => v = .int i
  | .str s, v => v = sV s
  | .tup ds, v => ∃ a vs, v = .ref a ∧ TupAt K H O θ a vs ∧ Reps K H O θ ds vs
  | .lst ds, v => ∃ a vs, v = .ref a ∧ LstAt H O θ a vs ∧ Reps K H O θ ds vs
  | .ref n, v => ∃ a, θ[n]? = some a ∧ v = .ref a
  | .exc c x, v => clsB K c = true ∧ ∃ a da, v = .ref a ∧ (H a = some (ErO (clV K c) da a) ∧ ¬ O a ∧ a ∉ θ) ∧
      ((fldC c = 0 ∧ da = none) ∨ (fldC c ≠ 0 ∧ ∃ d w, da = some d ∧ (H d = some (.xd [(fname (fldC c), w)]) ∧ ¬ O d ∧ d ∉ θ) ∧ Rep K H O θ x w))
  | .clo f ds, v => f = 0 ∧ ds = [] ∧ ∃ a, v = .ref a ∧ DctAt H O θ a
def Reps (K : PySem.W.Frag) (H : Hp) (O : OSet) (θ : List Addr) : List D → List V → Prop
  | [], vs => vs = []
  | d :: ds, vs => ∃ v r, vs = v :: r ∧ Rep K H O θ d v ∧ Reps K H O θ ds r
end
/-- from one state to a later one: what is not shared stays -/
structure Ext (θ θ' : List Addr) (H H' : Hp) : Prop where
  pre : θ <+: θ'
  keep : ∀ a o, NT o → a ∉ θ → H a = some o → H' a = some o
  fresh : ∀ a, a ∈ θ' → a ∉ θ → Nn H a
/-- the shared lists -/
structure RM [LX] (H : Hp) (O : OSet) (θ : List Addr) (M : Store) : Prop where
  len : θ.length = M.length
  nd : θ.Nodup
  at_ : ∀ (n : Nat) (a : Addr) (ns : List Int), θ[n]? = some a → M[n]? = some ns → H a = some (.lst (ns.map V.int))
  noO : ∀ a, a ∈ θ → ¬ O a
  otr : ∀ a, O a → ∃ xs, H a = some (.lst xs)
  tab : LamX.Tabs LX.tabs H

theorem Ext.refl (θ : List Addr) (H : Hp) : Ext θ θ H H := ⟨List.prefix_refl _, fun _ _ _ _ h => h, fun _ h n => absurd h n⟩
theorem Ext.trans {θ θ1 θ2 : List Addr} {H H1 H2 : Hp} (a : Ext θ θ1 H H1) (b : Ext θ1 θ2 H1 H2) : Ext θ θ2 H H2 where
  pre := a.pre.trans b.pre
  keep := fun p o t n h => by
    by_cases q : p ∈ θ1
    · exact absurd h (a.fresh p q n o t)
    · exact b.keep p o t q (a.keep p o t n h)
  fresh := fun p q n => by
    by_cases z : p ∈ θ1
    · exact a.fresh p z n
    · exact fun o t e => b.fresh p q z o t (a.keep p o t n e)
/-- a new object -/
theorem Ext.upd {θ : List Addr} {H : Hp} {p : Addr} {o : HO} (h : H p = none) : Ext θ θ H (upd H p o) :=
  ⟨List.prefix_refl _, fun a u _ _ e => by rw [upd_ne (ne_of_none e h)]; exact e, fun _ h n => absurd h n⟩
theorem Ext.notIn {θ θ' : List Addr} {H H' : Hp} (x : Ext θ θ' H H') {a : Addr} {o : HO} (t : NT o) (e : H a = some o) (n : a ∉ θ) : a ∉ θ' := fun q => x.fresh a q n o t e
theorem Ext.rd {θ θ' : List Addr} {H H' : Hp} (x : Ext θ θ' H H') {a : Addr} {u : HO} (t : NT u) (r : Rd H a u) (n : a ∉ θ) : Rd H' a u ∧ a ∉ θ' := by
  rcases r with e | ⟨o, e⟩
  · exact ⟨.inl (x.keep a _ t n e), x.notIn t e n⟩
  · exact ⟨.inr ⟨o, x.keep a _ (nt_frz _ _) n e⟩, x.notIn (nt_frz _ _) e n⟩
theorem pre_get {α : Type} {l l' : List α} (h : l <+: l') {n : Nat} {a : α} (e : l[n]? = some a) : l'[n]? = some a := by
  obtain ⟨r, rfl⟩ := h
  have := (List.getElem?_eq_some_iff.mp e).1
  rw [List.getElem?_append_left this]; exact e
theorem TupAt.ext {K : PySem.W.Frag} {O : OSet} {θ θ' : List Addr} {H H' : Hp} {a : Addr} {vs : List V} (x : Ext θ θ' H H') (h : TupAt K H O θ a vs) : TupAt K H' O θ' a vs := by
  rcases h with ⟨r, o, n⟩ | h
  · obtain ⟨r', n'⟩ := x.rd (nt_tup _) r n
    exact .inl ⟨r', o, n'⟩
  · exact .inr h
theorem LstAt.ext {O : OSet} {θ θ' : List Addr} {H H' : Hp} {a : Addr} {vs : List V} (x : Ext θ θ' H H') (h : LstAt H O θ a vs) : LstAt H' O θ' a vs := by
  obtain ⟨r, o, n⟩ := h
  obtain ⟨r', n'⟩ := x.rd (nt_lst _) r n
  exact ⟨r', o, n'⟩
theorem DctAt.ext {O : OSet} {θ θ' : List Addr} {H H' : Hp} {a : Addr} (x : Ext θ θ' H H') (h : DctAt H O θ a) : DctAt H' O θ' a := by
  obtain ⟨r, o, n⟩ := h
  obtain ⟨r', n'⟩ := x.rd (nt_dK _) r n
  exact ⟨r', o, n'⟩
theorem DctAt.mono {O O' : OSet} {θ : List Addr} {H : Hp} {a : Addr} (x : ∀ a, O' a → O a) (h : DctAt H O θ a) : DctAt H O' θ a := ⟨h.1, fun q => h.2.1 (x _ q), h.2.2⟩
theorem TupAt.mono {K : PySem.W.Frag} {O O' : OSet} {θ : List Addr} {H : Hp} {a : Addr} {vs : List V} (x : ∀ a, O' a → O a) (h : TupAt K H O θ a vs) : TupAt K H O' θ a vs := by
  rcases h with ⟨r, o, n⟩ | h
  · exact .inl ⟨r, fun q => o (x _ q), n⟩
  · exact .inr h
theorem LstAt.mono {O O' : OSet} {θ : List Addr} {H : Hp} {a : Addr} {vs : List V} (x : ∀ a, O' a → O a) (h : LstAt H O θ a vs) : LstAt H O' θ a vs := ⟨h.1, fun q => h.2.1 (x _ q), h.2.2⟩
/-- any step under which frozen things stay frozen -/
structure Stays (K : PySem.W.Frag) (H H' : Hp) (O O' : OSet) (θ θ' : List Addr) : Prop where
  tup : ∀ a vs, TupAt K H O θ a vs → TupAt K H' O' θ' a vs
  lst : ∀ a vs, LstAt H O θ a vs → LstAt H' O' θ' a vs
  dct : ∀ a, DctAt H O θ a → DctAt H' O' θ' a
  obj : ∀ a o, NT o → (H a = some o ∧ ¬ O a ∧ a ∉ θ) → (H' a = some o ∧ ¬ O' a ∧ a ∉ θ')
  pre : θ <+: θ'
mutual
theorem Rep.stays {K : PySem.W.Frag} {H H' : Hp} {O O' : OSet} {θ θ' : List Addr} (x : Stays K H H' O O' θ θ') : ∀ (d : D) (v : V), Rep K H O θ d v → Rep K H' O' θ' d v
  | .non, _, h => h
  | .bl _, _, h => h
  | .int _, _, h => h
  | .str _, _, h => h
  | .tup ds, _, h => by
    obtain ⟨a, vs, e, t, r⟩ := h
    exact ⟨a, vs, e, x.tup a vs t, Reps.stays x ds vs r⟩
  | .lst ds, _, h => by
    obtain ⟨a, vs, e, t, r⟩ := h
    exact ⟨a, vs, e, x.lst a vs t, Reps.stays x ds vs r⟩
  | .ref n, _, h => by
    obtain ⟨a, e, q⟩ := h
    exact ⟨a, pre_get x.pre e, q⟩
  | .exc c y, _, h => by
    obtain ⟨h0, a, da, e, t, z⟩ := h
    refine ⟨h0, a, da, e, x.obj _ _ (nt_ext _) t, ?_⟩
    rcases z with z | ⟨z, d, w, z1, z2, z3⟩
    · exact .inl z
    · exact .inr ⟨z, d, w, z1, x.obj _ _ (nt_xd _) z2, Rep.stays x y w z3⟩
  | .clo _ _, _, h => ⟨h.1, h.2.1, h.2.2.elim fun a q => ⟨a, q.1, x.dct a q.2⟩⟩
theorem Reps.stays {K : PySem.W.Frag} {H H' : Hp} {O O' : OSet} {θ θ' : List Addr} (x : Stays K H H' O O' θ θ') : ∀ (ds : List D) (vs : List V), Reps K H O θ ds vs → Reps K H' O' θ' ds vs
  | [], _, h => h
  | d :: ds, _, h => by
    obtain ⟨v, r, e, h1, h2⟩ := h
    exact ⟨v, r, e, Rep.stays x d v h1, Reps.stays x ds r h2⟩
end
theorem Ext.stays {K : PySem.W.Frag} {O : OSet} {θ θ' : List Addr} {H H' : Hp} (x : Ext θ θ' H H') : Stays K H H' O O θ θ' := ⟨fun _ _ h => h.ext x, fun _ _ h => h.ext x, fun _ h => h.ext x, fun a o t h => ⟨x.keep a o t h.2.2 h.1, h.2.1, x.notIn t h.1 h.2.2⟩, x.pre⟩
theorem stays_mono {K : PySem.W.Frag} {O O' : OSet} {θ : List Addr} {H : Hp} (x : ∀ a, O' a → O a) : Stays K H H O O' θ θ := ⟨fun _ _ h => h.mono x, fun _ _ h => h.mono x, fun _ h => h.mono x, fun _ _ _ h => ⟨h.1, fun q => h.2.1 (x _ q), h.2.2⟩, List.prefix_refl _⟩
theorem Rep.ext {K : PySem.W.Frag} {O : OSet} {θ θ' : List Addr} {H H' : Hp} {d : D} {v : V} (h : Rep K H O θ d v) (x : Ext θ θ' H H') : Rep K H' O θ' d v := Rep.stays x.stays d v h
theorem Reps.ext {K : PySem.W.Frag} {O : OSet} {θ θ' : List Addr} {H H' : Hp} {d : List D} {v : List V} (h : Reps K H O θ d v) (x : Ext θ θ' H H') : Reps K H' O θ' d v := Reps.stays x.stays d v h
theorem Rep.mono {K : PySem.W.Frag} {O O' : OSet} {θ : List Addr} {H : Hp} {d : D} {v : V} (h : Rep K H O θ d v) (x : ∀ a, O' a → O a) : Rep K H O' θ d v := Rep.stays (stays_mono x) d v h
theorem Reps.mono {K : PySem.W.Frag} {O O' : OSet} {θ : List Addr} {H : Hp} {d : List D} {v : List V} (h : Reps K H O θ d v) (x : ∀ a, O' a → O a) : Reps K H O' θ d v := Reps.stays (stays_mono x) d v h
/-- an object that is new against a state is not among its frozen ones -/
theorem stays_new {K : PySem.W.Frag} {O : OSet} {θ θ' : List Addr} {H H' : Hp} {p : Addr} (x : Ext θ θ' H H') (h : Nn H p) : Stays K H H' O (fun a => O a ∨ a = p) θ θ' := by
  have no : ∀ {a : Addr} {u : HO}, NT u → Rd H a u → ¬ O a → ¬ (O a ∨ a = p) := fun {a u} t r o z => by
    rcases z with z | z
    · exact o z
    · subst z
      rcases r with e | ⟨_, e⟩
      · exact h _ t e
      · exact h _ (nt_frz _ _) e
  refine ⟨fun a vs t => ?_, fun a vs t => ?_, fun a t => ?_, fun a o t q => ?_, x.pre⟩
  · rcases t with ⟨r, o, n⟩ | t
    · obtain ⟨r', n'⟩ := x.rd (nt_tup _) r n
      exact .inl ⟨r', no (nt_tup _) r o, n'⟩
    · exact .inr t
  · obtain ⟨r, o, n⟩ := t
    obtain ⟨r', n'⟩ := x.rd (nt_lst _) r n
    exact ⟨r', no (nt_lst _) r o, n'⟩
  · obtain ⟨r, o, n⟩ := t
    obtain ⟨r', n'⟩ := x.rd (nt_dK _) r n
    exact ⟨r', no (nt_dK _) r o, n'⟩
  · exact ⟨x.keep a o t q.2.2 q.1, no t (.inl q.1) q.2.1, x.notIn t q.1 q.2.2⟩
theorem TupAt.sq {K : PySem.W.Frag} {O : OSet} {θ : List Addr} {H : Hp} {a : Addr} {vs : List V} (h : TupAt K H O θ a vs) : SqT K H a vs := by
  rcases h with ⟨r, _, _⟩ | h
  · exact .inl r
  · exact .inr h
theorem LstAt.sq {K : PySem.W.Frag} {O : OSet} {θ : List Addr} {H : Hp} {a : Addr} {vs : List V} (h : LstAt H O θ a vs) : SqL K H a vs := .inl h.1
theorem Reps.length {K : PySem.W.Frag} {O : OSet} {θ : List Addr} {H : Hp} : ∀ {ds : List D} {vs : List V}, Reps K H O θ ds vs → ds.length = vs.length
  | [], _, h => by have : _ = [] := h; subst this; rfl
  | d :: ds, _, h => by
    obtain ⟨v, r, e, _, h2⟩ := h
    subst e
    rw [List.length_cons, List.length_cons, Reps.length h2]
theorem Reps.get {K : PySem.W.Frag} {O : OSet} {θ : List Addr} {H : Hp} : ∀ {ds : List D} {vs : List V} {i : Nat} {d : D}, Reps K H O θ ds vs → ds[i]? = some d → ∃ v, vs[i]? = some v ∧ Rep K H O θ d v
  | [], _, _, _, _, e => by simp at e
  | x :: ds, _, 0, d, h, e => by
    obtain ⟨v, r, ev, h1, h2⟩ := h
    subst ev
    have : x = d := by simpa using e
    subst this
    exact ⟨v, rfl, h1⟩
  | x :: ds, _, i + 1, d, h, e => by
    obtain ⟨v, r, ev, h1, h2⟩ := h
    subst ev
    have e' : ds[i]? = some d := by simpa using e
    exact Reps.get (i := i) h2 e'
theorem Reps.append {K : PySem.W.Frag} {O : OSet} {θ : List Addr} {H : Hp} : ∀ {ds es : List D} {vs us : List V}, Reps K H O θ ds vs → Reps K H O θ es us → Reps K H O θ (ds ++ es) (vs ++ us)
  | [], _, _, _, h, h' => by have : _ = [] := h; subst this; exact h'
  | d :: ds, es, _, us, h, h' => by
    obtain ⟨v, r, e, h1, h2⟩ := h
    subst e
    exact ⟨v, r ++ us, rfl, h1, Reps.append h2 h'⟩
theorem Reps.one {K : PySem.W.Frag} {O : OSet} {θ : List Addr} {H : Hp} {d : D} {v : V} (h : Rep K H O θ d v) : Reps K H O θ [d] [v] := ⟨v, [], rfl, h, rfl⟩
theorem Reps.take {K : PySem.W.Frag} {O : OSet} {θ : List Addr} {H : Hp} : ∀ {ds : List D} {vs : List V} (n : Nat), Reps K H O θ ds vs → Reps K H O θ (ds.take n) (vs.take n)
  | _, _, 0, _ => by simp [Reps]
  | [], _, n + 1, h => by have : _ = [] := h; subst this; simp [Reps]
  | d :: ds, _, n + 1, h => by
    obtain ⟨v, r, e, h1, h2⟩ := h
    subst e
    exact ⟨v, r.take n, rfl, h1, Reps.take n h2⟩
theorem Reps.drop {K : PySem.W.Frag} {O : OSet} {θ : List Addr} {H : Hp} : ∀ {ds : List D} {vs : List V} (n : Nat), Reps K H O θ ds vs → Reps K H O θ (ds.drop n) (vs.drop n)
  | _, _, 0, h => h
  | [], _, n + 1, h => by have : _ = [] := h; subst this; simp [Reps]
  | d :: ds, _, n + 1, h => by
    obtain ⟨v, r, e, h1, h2⟩ := h
    subst e
    exact Reps.drop n h2
theorem Reps.set {K : PySem.W.Frag} {O : OSet} {θ : List Addr} {H : Hp} {d : D} {v : V} (hd : Rep K H O θ d v) : ∀ {ds : List D} {vs : List V} (n : Nat), Reps K H O θ ds vs → Reps K H O θ (ds.set n d) (vs.set n v)
  | [], _, _, h => by have : _ = [] := h; subst this; exact rfl
  | x :: ds, _, 0, h => by
    obtain ⟨w, r, e, h1, h2⟩ := h
    subst e
    exact ⟨v, r, rfl, hd, h2⟩
  | x :: ds, _, n + 1, h => by
    obtain ⟨w, r, e, h1, h2⟩ := h
    subst e
    exact ⟨w, r.set n v, rfl, h1, Reps.set hd n h2⟩
theorem Reps.erase {K : PySem.W.Frag} {O : OSet} {θ : List Addr} {H : Hp} : ∀ {ds : List D} {vs : List V} (n : Nat), Reps K H O θ ds vs → Reps K H O θ (ds.eraseIdx n) (vs.eraseIdx n)
  | [], _, _, h => by have : _ = [] := h; subst this; simp [Reps]
  | x :: ds, _, 0, h => by
    obtain ⟨w, r, e, h1, h2⟩ := h
    subst e
    simpa using h2
  | x :: ds, _, n + 1, h => by
    obtain ⟨w, r, e, h1, h2⟩ := h
    subst e
    exact ⟨w, r.eraseIdx n, rfl, h1, Reps.erase n h2⟩
theorem Reps.dropLast {K : PySem.W.Frag} {O : OSet} {θ : List Addr} {H : Hp} {ds : List D} {vs : List V} (h : Reps K H O θ ds vs) : Reps K H O θ ds.dropLast vs.dropLast := by
  rw [List.dropLast_eq_take, List.dropLast_eq_take, ← h.length]
  exact h.take _
theorem Reps.reverse {K : PySem.W.Frag} {O : OSet} {θ : List Addr} {H : Hp} : ∀ {ds : List D} {vs : List V}, Reps K H O θ ds vs → Reps K H O θ ds.reverse vs.reverse
  | [], _, h => by have : _ = [] := h; subst this; simp [Reps]
  | x :: ds, _, h => by
    obtain ⟨w, r, e, h1, h2⟩ := h
    subst e
    rw [List.reverse_cons, List.reverse_cons]
    exact (Reps.reverse h2).append (Reps.one h1)
theorem RM.ext_of [LX] {H H' : Hp} {O : OSet} {θ θ' : List Addr} {M M' : Store} (m : RM H O θ M) (x : Ext θ θ' H H') {a : Addr} {o : HO} (t : NT o) (h : O a) (e : H a = some o) : H' a = some o := x.keep a o t (fun z => m.noO a z h) e
theorem RM.mono [LX] {H : Hp} {O O' : OSet} {θ : List Addr} {M : Store} (m : RM H O θ M) (x : ∀ a, O' a → O a) : RM H O' θ M := ⟨m.len, m.nd, m.at_, fun a h q => m.noO a h (x a q), fun a h => m.otr a (x a h), m.tab⟩
end RC

set_option Elab.async false
set_option linter.all false
set_option autoImplicit false
set_option maxRecDepth 100000
set_option maxHeartbeats 1000000
/-! The table of a law's text and what its head is asked. -/
namespace RC
open PySem PySem.Spec PyProof.Rows L2
def bltNames : List Str := ["len", "abs", "max", "min", "sum", "all", "any", "list", "tuple", "isinstance", "int", "bool", "str", "range", "enumerate", "zip", "sorted", "repr", "set", "ValueError"]
def bsC (c : Nat) : String := if isaC c 17 then "ValueError" else if isaC c 18 then "ArithmeticError" else "LookupError"
def bsL (c : Nat) : List Value := [.type (bsC c), .type "Exception", .type "BaseException", .type "object"]
def nwC (c : Nat) : String := if isaC c 17 then "ValueError.__new__" else if isaC c 18 then "ArithmeticError.__new__" else "LookupError.__new__"
/-- what the module says of a class whose errors are raised -/
def rzB (K : PySem.W.Frag) (c : Nat) : Bool := match clV K c with
  | .ref C => PySem.W.keepIn K (.ref C) && decide (PySem.W.subIn K (.ref C) (.type "BaseException") = some true) && decide (PySem.W.typeIn K (.ref C) = some (.type "type")) && decide (PySem.W.kitOne K (.type "NoneType") (.ref C) = some false)
      && (bif fldC c == 0 then PySem.W.excIn K C (bsL c) (nwC c) else PySem.W.excInitIn K C (bsL c) (nwC c) && PySem.W.excOver K C (bsL c) && decide (PySem.W.findIn K (.ref C) "__setattr__" = some (some (.builtin "object.__setattr__"))))
  | _ => false
/-- one def of the text; kd: 0 plain, 1 it makes lambdas, 2 its parameter is called, 3 it may be a key -/
structure Ent where
  x : Str
  pa : Arguments
  body : List Stmt
  sc : Scope
  N : List Str
  ps : List Str
  kd : Nat
/-- the name of a lambda's code object -/
def lamQ (e : Ent) : Str := (envOfC e.x e.sc 0 0 .none).qual ++ "<lambda>"
mutual
/-- data among the module's objects -/
def datB (K : PySem.W.Frag) : D → Value → Bool
  | .non, u => match u with
    | .none => true
    | _ => false
  | .bl b, u => match u with
    | .bool c => b == c
    | _ => false
  | .int i, u => match u with
    | .int j _ => decide (i = j)
    | _ => false
  | .str s, u => match u with
    | .str x _ => decide (x = ⟨s.toArray⟩)
    | _ => false
  | .tup ds, u => match u with
    | .ref a => match K.lookup a with
      | some o => decide (o.cls = .type "tuple") && (match o.data with
        | .seq its _ => decide (its.size ≤ sizeLine) && datAll K ds its.toList
        | _ => false)
      | none => false
    | _ => false
  | _, _ => false
def datAll (K : PySem.W.Frag) : List D → List Value → Bool
  | [], us => us.isEmpty
  | d :: ds, us => match us with
    | u :: us' => datB K d u && datAll K ds us'
    | [] => false
end
/-- no list among the module's objects -/
def noList (K : PySem.W.Frag) : Bool := K.all fun p => !decide (p.2.cls = .type "list")
/-- one def: its number, the name it is called by, its text, its core -/
structure Row where
  i : Nat
  x : Str
  e : Ent
  f : Fn
/-- a constant: its number, name, value -/
structure Gv where
  i : Nat
  x : Str
  d : D
/-- a class of errors: its number, its own __init__ -/
structure CRow where
  c : Nat
  e : Option Ent
/-- a program's text with its core -/
structure Tb where
  rows : List Row
  gvs : List Gv
  cls : List CRow
/-- the defs that make lambdas; their code objects and tables -/
def Tb.mks (t : Tb) : List Row := t.rows.filter fun r => r.e.kd == 1
def dfn (r : Row) : He.Defn := (r.x, none)
def Tb.tf (t : Tb) : List He.Defn := t.mks.map dfn
def Tb.tabs (t : Tb) (K : PySem.W.Frag) : List (Addr × Str) := t.mks.map fun r => ((He.cT K (dfn r)).2, lamQ r.e)
def uniB (l : List (Addr × Str)) : Bool := l.all fun p => l.all fun q => !decide (q.1 = p.1) || decide (q.2 = p.2)
def mkIni (r : CRow) : Option He.DefD := r.e.map fun e => ⟨(cname r.c, some "__init__"), "__init__", e.x, e.pa, e.body, e.sc, [], []⟩
def iniA (K : PySem.W.Frag) (c : Nat) : Addr := He.fAd K (cname c, some "__init__")
def clB (K : PySem.W.Frag) (r : CRow) : Bool := clsB K r.c && rzB K r.c && (match r.e with
  | none => true
  | some _ => decide (PySem.W.findIn K (clV K r.c) "__init__" = some (some (.ref (iniA K r.c)))) && decide (PySem.W.typeIn K (.ref (iniA K r.c)) = some (.type "function")))
def Tb.fa (t : Tb) : List He.Fa := bltNames.map He.Fa.free ++ t.rows.map fun r => He.Fa.glo r.x
def mkDef (r : Row) : He.DefD := ⟨(r.x, none), r.e.x, r.e.x, r.e.pa, r.e.body, r.e.sc, [], []⟩
def Tb.fn (t : Tb) : List He.DefD := t.rows.map mkDef ++ t.cls.filterMap mkIni
def glB (K : PySem.W.Frag) (g : Gv) : Bool := match PySem.W.nsIn K mainGlobals g.x with
  | some (some u) => datB K g.d u
  | _ => false
def Tb.ex (t : Tb) (K : PySem.W.Frag) : Bool := noList K && (t.gvs.all (glB K) && t.cls.all (clB K)) && uniB (t.tabs K)
/-- a run looked at in four ways -/
theorem opt_all {α β γ δ ε : Type} {o : Option α} {f : α → β} {g : α → γ} {h : α → δ × ε} {a : β} {b : γ} {v : δ × ε} (h1 : o.map f = some a) (h2 : o.map g = some b) (h3 : o.map (fun s => (h s).1) = some v.1) (h4 : o.map (fun s => (h s).2) = some v.2) : o.map (fun s => (f s, g s, h s)) = some (a, b, v) := by
  cases o with
  | none => cases h1
  | some x =>
    have e1 : f x = a := Option.some.inj h1
    have e2 : g x = b := Option.some.inj h2
    have e3 : (h x).1 = v.1 := Option.some.inj h3
    have e4 : (h x).2 = v.2 := Option.some.inj h4
    show some (f x, g x, h x) = some (a, b, v)
    rw [e1, e2, Prod.ext e3 e4]
end RC

set_option Elab.async false
set_option linter.all false
set_option autoImplicit false
set_option maxRecDepth 100000
set_option maxHeartbeats 4000000
namespace RC
/- 0: is_integer (thing) -/
def b0 : Cs :=
  (.cons (.ret (.and (.isi (.var 0) .int) (.not (.isi (.var 0) .bool))))
  .nil)
def fn0 : Fn := ⟨1, 1, b0⟩
/- 1: need_rank (rank) -/
def b1 : Cs :=
  (.cons (.ite (.or (.not (.call 0 (.cons (.var 0) .nil))) (.not (.chain .le .le (.cst (.int 2)) (.var 0) (.glb 0)))) (.cons (.raise 3 (.cons (.cst .non) .nil))
  .nil) .nil)
  .nil)
def fn1 : Fn := ⟨1, 1, b1⟩
/- 2: letters_of (rank) -/
def b2 : Cs :=
  (.cons (.ret (.slcU (.glb 1) (.bin .mul (.cst (.int 2)) (.var 0))))
  .nil)
def fn2 : Fn := ⟨1, 1, b2⟩
/- 3: inverse_of (text) -/
def b3 : Cs :=
  (.cons (.ret (.mt .swapcase (.rev (.var 0)) .nil))
  .nil)
def fn3 : Fn := ⟨1, 1, b3⟩
/- 4: is_text (rank, thing, letter) -/
def L4_0 : E :=
  (.lc (.n 2) (.seq (.var 1)) .nil (.cmp .in_ (.var 2) (.call 2 (.cons (.var 0) .nil))))
def b4 : Cs :=
  (.cons (.ret (.and (.isi (.var 1) .str) (.bi .all (.cons L4_0 .nil))))
  .nil)
def fn4 : Fn := ⟨2, 3, b4⟩
/- 5: is_word_of (rank, thing, letter, following) -/
def L5_0 : E :=
  (.lc (.t (.cons (.n 2) (.cons (.n 3) .nil))) (.zip (.var 1) (.slcL (.var 1) (.cst (.int 1)))) .nil (.cmp .ne (.var 2) (.mt .swapcase (.var 3) .nil)))
def b5 : Cs :=
  (.cons (.ite (.or (.not (.call 4 (.cons (.var 0) (.cons (.var 1) .nil)))) (.cmp .gt (.bi .len (.cons (.var 1) .nil)) (.glb 2))) (.cons (.ret (.cst (.bl false)))
  .nil) .nil)
  (.cons (.ret (.bi .all (.cons L5_0 .nil)))
  .nil))
def fn5 : Fn := ⟨2, 4, b5⟩
/- 10: joined (one, other, back, size) -/
def T10_0 : E :=
  (.and (.cmp .lt (.var 3) (.bi .len (.cons (.var 2) .nil))) (.and (.cmp .lt (.var 3) (.bi .len (.cons (.var 1) .nil))) (.cmp .eq (.sub (.var 2) (.var 3)) (.sub (.var 1) (.var 3)))))
def W10_0 : Cs :=
  (.cons (.aug 3 .add (.cst (.int 1)))
  .nil)
def b10 : Cs :=
  (.cons (.par2 2 3 (.call 3 (.cons (.var 0) .nil)) (.cst (.int 0)))
  (.cons (.while_ T10_0 W10_0)
  (.cons (.ret (.bin .add (.slcU (.var 0) (.bin .sub (.bi .len (.cons (.var 0) .nil)) (.var 3))) (.slcL (.var 1) (.var 3))))
  .nil)))
def fn10 : Fn := ⟨2, 4, b10⟩
/- 11: image_of (images, word, found, letter) -/
def F11_0 : Cs :=
  (.cons (.ite (.cmp .in_ (.var 3) (.glb 3)) (.cons (.set 2 (.call 10 (.cons (.var 2) (.cons (.sub (.var 0) (.mt .index (.glb 3) (.cons (.var 3) .nil))) .nil))))
  .nil) (.cons (.set 2 (.call 10 (.cons (.var 2) (.cons (.call 3 (.cons (.sub (.var 0) (.mt .index (.glb 3) (.cons (.call 3 (.cons (.var 3) .nil)) .nil))) .nil)) .nil))))
  .nil))
  .nil)
def b11 : Cs :=
  (.cons (.set 2 (.cst (.str [])))
  (.cons (.for_ (.n 3) (.seq (.var 1)) F11_0)
  (.cons (.ret (.var 2))
  .nil)))
def fn11 : Fn := ⟨2, 4, b11⟩
/- 25: _law_source (script, k, cell) -/
def b25 : Cs :=
  (.cons (.set 2 (.ife (.cmp .ne (.var 0) (.lst .nil)) (.sub (.var 0) (.bin .mod (.var 1) (.bi .len (.cons (.var 0) .nil)))) (.cst (.int 1))))
  (.cons (.ret (.new (.cons (.var 2) (.cons (.bin .mul (.cst (.int 3)) (.var 1)) (.cons (.ife (.cmp .ge (.var 2) (.bin .pow (.cst (.int 10)) (.cst (.int 18)))) (.bin .fdiv (.var 2) (.bin .pow (.cst (.int 10)) (.cst (.int 18)))) (.cst (.int 0))) .nil)))))
  .nil))
def fn25 : Fn := ⟨2, 3, b25⟩
/- 26: _law_next (source, many, found, primes, prime) -/
def b26 : Cs :=
  (.cons (.ite (.cmp .gt (.sub (.var 0) (.cst (.int 2))) (.cst (.int 0))) (.cons (.set 2 (.bin .mod (.sub (.var 0) (.cst (.int 2))) (.var 1)))
  (.cons (.rput (.var 0) (.cst (.int 2)) (.bin .fdiv (.sub (.var 0) (.cst (.int 2))) (.var 1)))
  (.cons (.ret (.var 2))
  .nil))) .nil)
  (.cons (.rput (.var 0) (.cst (.int 1)) (.bin .add (.sub (.var 0) (.cst (.int 1))) (.cst (.int 1))))
  (.cons (.set 3 (.lst (.cons (.cst (.int 2147483647)) (.cons (.cst (.int 2147483629)) (.cons (.cst (.int 2147483587)) (.cons (.cst (.int 2147483579)) (.cons (.cst (.int 2147483563)) (.cons (.cst (.int 2147483549)) (.cons (.cst (.int 2147483543)) (.cons (.cst (.int 2147483497)) .nil))))))))))
  (.cons (.set 4 (.sub (.bin .add (.var 3) (.lst (.cons (.cst (.int 2147483489)) (.cons (.cst (.int 2147483477)) (.cons (.cst (.int 2147483423)) .nil))))) (.bin .mod (.sub (.var 0) (.cst (.int 1))) (.cst (.int 11)))))
  (.cons (.ret (.bin .mod (.bin .fdiv (.bin .mod (.bin .pow (.bin .add (.bin .add (.bin .mod (.sub (.var 0) (.cst (.int 0))) (.var 4)) (.bin .mul (.cst (.int 7919)) (.sub (.var 0) (.cst (.int 1))))) (.cst (.int 1))) (.cst (.int 5))) (.var 4)) (.cst (.int 13))) (.var 1)))
  .nil)))))
def fn26 : Fn := ⟨2, 5, b26⟩
/- 27: _law_alphabet (rank) -/
def b27 : Cs :=
  (.cons (.ret (.slcU (.cst (.str [97, 65, 98, 66, 99, 67, 100, 68])) (.bin .mul (.cst (.int 2)) (.var 0))))
  .nil)
def fn27 : Fn := ⟨1, 1, b27⟩
/- 28: _law_other (letter) -/
def b28 : Cs :=
  (.cons (.ret (.ife (.mt .islower (.var 0) .nil) (.mt .upper (.var 0) .nil) (.mt .lower (.var 0) .nil)))
  .nil)
def fn28 : Fn := ⟨1, 1, b28⟩
/- 29: _law_text (source, rank, size, found, k, some, letter) -/
def L29_0 : E :=
  (.lc (.n 6) (.seq (.call 27 (.cons (.var 1) .nil))) (.cons (.or (.cmp .eq (.var 3) (.cst (.str []))) (.cmp .ne (.var 6) (.call 28 (.cons (.sub (.var 3) (.neg (.cst (.int 1)))) .nil)))) .nil) (.var 6))
def F29_0 : Cs :=
  (.cons (.set 5 L29_0)
  (.cons (.set 3 (.bin .add (.var 3) (.sub (.var 5) (.call 26 (.cons (.var 0) (.cons (.bi .len (.cons (.var 5) .nil)) .nil))))))
  .nil))
def b29 : Cs :=
  (.cons (.set 3 (.cst (.str [])))
  (.cons (.for_ (.n 4) (.rng (.var 2)) F29_0)
  (.cons (.ret (.var 3))
  .nil)))
def fn29 : Fn := ⟨3, 7, b29⟩
/- 35: reduced (text, kept, letter) -/
def F35_0 : Cs :=
  (.cons (.ite (.and (.cmp .ne (.bor 1) (.lst .nil)) (.cmp .eq (.sub (.bor 1) (.neg (.cst (.int 1)))) (.mt .swapcase (.var 2) .nil))) (.cons (.pop 1)
  .nil) (.cons (.app 1 (.var 2))
  .nil))
  .nil)
def b35 : Cs :=
  (.cons (.own 1 (.lst .nil))
  (.cons (.for_ (.n 2) (.seq (.var 0)) F35_0)
  (.cons (.ret (.mt .join (.cst (.str [])) (.cons (.bor 1) .nil)))
  .nil)))
def fn35 : Fn := ⟨1, 3, b35⟩
/- 38: _law_short (text, kept, letter) -/
def F38_0 : Cs :=
  (.cons (.ite (.and (.cmp .ne (.bor 1) (.lst .nil)) (.cmp .eq (.sub (.bor 1) (.neg (.cst (.int 1)))) (.call 28 (.cons (.var 2) .nil)))) (.cons (.pop 1)
  .nil) (.cons (.app 1 (.var 2))
  .nil))
  .nil)
def b38 : Cs :=
  (.cons (.own 1 (.lst .nil))
  (.cons (.for_ (.n 2) (.seq (.var 0)) F38_0)
  (.cons (.ret (.mt .join (.cst (.str [])) (.cons (.bor 1) .nil)))
  .nil)))
def fn38 : Fn := ⟨1, 3, b38⟩
/- 39: _law_key (text, letter) -/
def L39_0 : E :=
  (.lc (.n 1) (.seq (.var 0)) .nil (.mt .index (.cst (.str [97, 65, 98, 66, 99, 67, 100, 68])) (.cons (.var 1) .nil)))
def b39 : Cs :=
  (.cons (.ret L39_0)
  .nil)
def fn39 : Fn := ⟨1, 2, b39⟩
/- 40: _law_round (text, turns, k) -/
def T40_0 : E :=
  (.and (.cmp .gt (.bi .len (.cons (.var 0) .nil)) (.cst (.int 1))) (.cmp .eq (.sub (.var 0) (.cst (.int 0))) (.call 28 (.cons (.sub (.var 0) (.neg (.cst (.int 1)))) .nil))))
def W40_0 : Cs :=
  (.cons (.set 0 (.slcB (.var 0) (.cst (.int 1)) (.neg (.cst (.int 1)))))
  .nil)
def L40_0 : E :=
  (.lc (.n 2) (.rng (.bi .len (.cons (.var 0) .nil))) .nil (.bin .add (.slcL (.var 0) (.var 2)) (.slcU (.var 0) (.var 2))))
def b40 : Cs :=
  (.cons (.set 0 (.call 38 (.cons (.var 0) .nil)))
  (.cons (.while_ T40_0 W40_0)
  (.cons (.set 1 L40_0)
  (.cons (.ret (.ife (.cmp .ne (.var 1) (.lst .nil)) (.minK 39 (.var 1)) (.cst (.str []))))
  .nil))))
def fn40 : Fn := ⟨1, 3, b40⟩
/- 42: word_key (word, letter) -/
def L42_0 : E :=
  (.lc (.n 1) (.seq (.var 0)) .nil (.mt .index (.glb 1) (.cons (.var 1) .nil)))
def b42 : Cs :=
  (.cons (.ret (.tup (.cons (.bi .len (.cons (.var 0) .nil)) (.cons L42_0 .nil))))
  .nil)
def fn42 : Fn := ⟨1, 2, b42⟩
/- 43: least_turn (text, k) -/
def L43_0 : E :=
  (.lc (.n 1) (.rng (.bi .len (.cons (.var 0) .nil))) .nil (.bin .add (.slcL (.var 0) (.var 1)) (.slcU (.var 0) (.var 1))))
def b43 : Cs :=
  (.cons (.ret (.minKD 42 L43_0 (.cst (.str []))))
  .nil)
def fn43 : Fn := ⟨1, 2, b43⟩
/- 44: ring_of_text (text, word, first, last) -/
def T44_0 : E :=
  (.and (.cmp .gt (.bin .sub (.var 3) (.var 2)) (.cst (.int 1))) (.cmp .eq (.sub (.var 1) (.var 2)) (.mt .swapcase (.sub (.var 1) (.bin .sub (.var 3) (.cst (.int 1)))) .nil)))
def W44_0 : Cs :=
  (.cons (.par2 2 3 (.bin .add (.var 2) (.cst (.int 1))) (.bin .sub (.var 3) (.cst (.int 1))))
  .nil)
def b44 : Cs :=
  (.cons (.set 1 (.call 35 (.cons (.var 0) .nil)))
  (.cons (.par2 2 3 (.cst (.int 0)) (.bi .len (.cons (.var 1) .nil)))
  (.cons (.while_ T44_0 W44_0)
  (.cons (.ret (.call 43 (.cons (.slcB (.var 1) (.var 2) (.var 3)) .nil)))
  .nil))))
def fn44 : Fn := ⟨1, 4, b44⟩
/- 45: is_ring_of (rank, thing) -/
def b45 : Cs :=
  (.cons (.ite (.or (.not (.call 5 (.cons (.var 0) (.cons (.var 1) .nil)))) (.cmp .eq (.var 1) (.cst (.str [])))) (.cons (.ret (.cst (.bl false)))
  .nil) .nil)
  (.cons (.ite (.and (.cmp .gt (.bi .len (.cons (.var 1) .nil)) (.cst (.int 1))) (.cmp .eq (.sub (.var 1) (.cst (.int 0))) (.mt .swapcase (.sub (.var 1) (.neg (.cst (.int 1)))) .nil))) (.cons (.ret (.cst (.bl false)))
  .nil) .nil)
  (.cons (.ret (.cmp .eq (.var 1) (.call 43 (.cons (.var 1) .nil))))
  .nil)))
def fn45 : Fn := ⟨2, 2, b45⟩
/- 50: is_letter (rank, thing) -/
def b50 : Cs :=
  (.cons (.ret (.and (.isi (.var 1) .str) (.and (.cmp .eq (.bi .len (.cons (.var 1) .nil)) (.cst (.int 1))) (.cmp .in_ (.var 1) (.call 2 (.cons (.var 0) .nil))))))
  .nil)
def fn50 : Fn := ⟨2, 2, b50⟩
/- 51: need_letter (rank, letter) -/
def b51 : Cs :=
  (.cons (.ite (.not (.call 50 (.cons (.var 0) (.cons (.var 1) .nil)))) (.cons (.raise 4 (.cons (.cst .non) .nil))
  .nil) .nil)
  .nil)
def fn51 : Fn := ⟨2, 2, b51⟩
/- 52: row_length (row, ring) -/
def L52_0 : E :=
  (.lc (.n 1) (.seq (.var 0)) .nil (.bi .len (.cons (.var 1) .nil)))
def b52 : Cs :=
  (.cons (.ret (.bi .sum (.cons L52_0 .nil)))
  .nil)
def fn52 : Fn := ⟨1, 2, b52⟩
/- 53: is_row_of (rank, thing, ring) -/
def L53_0 : E :=
  (.lc (.n 2) (.seq (.var 1)) .nil (.call 45 (.cons (.var 0) (.cons (.var 2) .nil))))
def b53 : Cs :=
  (.cons (.ite (.or (.not (.isi (.var 1) .tuple)) (.not (.chain .le .le (.cst (.int 1)) (.bi .len (.cons (.var 1) .nil)) (.glb 5)))) (.cons (.ret (.cst (.bl false)))
  .nil) .nil)
  (.cons (.ret (.and (.bi .all (.cons L53_0 .nil)) (.cmp .le (.call 52 (.cons (.var 1) .nil)) (.glb 6))))
  .nil))
def fn53 : Fn := ⟨2, 3, b53⟩
/- 54: need_row (rank, row) -/
def b54 : Cs :=
  (.cons (.ite (.not (.call 53 (.cons (.var 0) (.cons (.var 1) .nil)))) (.cons (.raise 6 (.cons (.cst .non) .nil))
  .nil) .nil)
  .nil)
def fn54 : Fn := ⟨2, 2, b54⟩
/- 55: edge_list (row, found, index, ring, place, letter) -/
def F55_1 : Cs :=
  (.cons (.app 1 (.tup (.cons (.tup (.cons (.var 2) (.cons (.var 4) .nil))) (.cons (.var 5) (.cons (.mt .swapcase (.sub (.var 3) (.bin .mod (.bin .add (.var 4) (.cst (.int 1))) (.bi .len (.cons (.var 3) .nil)))) .nil) .nil)))))
  .nil)
def F55_0 : Cs :=
  (.cons (.for_ (.t (.cons (.n 4) (.cons (.n 5) .nil))) (.enum (.var 3)) F55_1)
  .nil)
def b55 : Cs :=
  (.cons (.own 1 (.lst .nil))
  (.cons (.for_ (.t (.cons (.n 2) (.cons (.n 3) .nil))) (.enum (.var 0)) F55_0)
  (.cons (.frz 1)
  (.cons (.ret (.var 1))
  .nil))))
def fn55 : Fn := ⟨1, 6, b55⟩
/- 56: degree_of (row, letter, edge, x, z) -/
def L56_0 : E :=
  (.lc (.t (.cons (.n 2) (.cons (.n 3) (.cons (.n 4) .nil)))) (.seq (.call 55 (.cons (.var 0) .nil))) (.cons (.cmp .in_ (.var 1) (.tup (.cons (.var 3) (.cons (.var 4) .nil)))) .nil) (.var 2))
def b56 : Cs :=
  (.cons (.ret (.bi .len (.cons L56_0 .nil)))
  .nil)
def fn56 : Fn := ⟨2, 5, b56⟩
/- 58: degree (rank, row, letter) -/
def b58 : Cs :=
  (.cons (.expr (.call 1 (.cons (.var 0) .nil)))
  (.cons (.expr (.call 54 (.cons (.var 0) (.cons (.var 1) .nil))))
  (.cons (.expr (.call 51 (.cons (.var 0) (.cons (.var 2) .nil))))
  (.cons (.ret (.call 56 (.cons (.var 1) (.cons (.var 2) .nil))))
  .nil))))
def fn58 : Fn := ⟨3, 3, b58⟩
/- 59: _law_rings (source, rank, many, most, found, k, ring) -/
def F59_0 : Cs :=
  (.cons (.set 6 (.call 40 (.cons (.call 29 (.cons (.var 0) (.cons (.var 1) (.cons (.bin .add (.cst (.int 1)) (.call 26 (.cons (.var 0) (.cons (.var 3) .nil)))) .nil)))) .nil)))
  (.cons (.app 4 (.ife (.cmp .ne (.var 6) (.cst (.str []))) (.var 6) (.cst (.str [97]))))
  .nil))
def b59 : Cs :=
  (.cons (.own 4 (.lst .nil))
  (.cons (.for_ (.n 5) (.rng (.var 2)) F59_0)
  (.cons (.ret (.bi .tuple (.cons (.bor 4) .nil)))
  .nil)))
def fn59 : Fn := ⟨4, 7, b59⟩
/- 60: _law_small_row (source, rank, most) -/
def b60 : Cs :=
  (.cons (.ret (.call 59 (.cons (.var 0) (.cons (.var 1) (.cons (.bin .add (.cst (.int 1)) (.call 26 (.cons (.var 0) (.cons (.cst (.int 3)) .nil)))) (.cons (.var 2) .nil))))))
  .nil)
def fn60 : Fn := ⟨3, 3, b60⟩
/- 70: _law_back (text, letter) -/
def L70_0 : E :=
  (.lc (.n 1) (.seq (.rev (.var 0))) .nil (.call 28 (.cons (.var 1) .nil)))
def b70 : Cs :=
  (.cons (.ret (.mt .join (.cst (.str [])) (.cons L70_0 .nil)))
  .nil)
def fn70 : Fn := ⟨1, 2, b70⟩
/- 78: _law_mapped (images, text, found, letter, part) -/
def F78_0 : Cs :=
  (.cons (.set 4 (.sub (.var 0) (.mt .index (.cst (.str [97, 98, 99, 100])) (.cons (.mt .lower (.var 3) .nil) .nil))))
  (.cons (.set 2 (.call 38 (.cons (.bin .add (.var 2) (.ife (.cmp .in_ (.var 3) (.cst (.str [97, 98, 99, 100]))) (.var 4) (.call 70 (.cons (.var 4) .nil)))) .nil)))
  .nil))
def b78 : Cs :=
  (.cons (.set 2 (.cst (.str [])))
  (.cons (.for_ (.n 3) (.seq (.var 1)) F78_0)
  (.cons (.ret (.var 2))
  .nil)))
def fn78 : Fn := ⟨2, 5, b78⟩
/- 117: are_letters (words, word) -/
def L117_0 : E :=
  (.lc (.n 1) (.seq (.var 0)) .nil (.cmp .eq (.bi .len (.cons (.var 1) .nil)) (.cst (.int 1))))
def L117_1 : E :=
  (.lc (.n 1) (.seq (.var 0)) .nil (.ife (.cmp .in_ (.var 1) (.glb 3)) (.var 1) (.call 3 (.cons (.var 1) .nil))))
def b117 : Cs :=
  (.cons (.ite (.not (.bi .all (.cons L117_0 .nil))) (.cons (.ret (.cst (.bl false)))
  .nil) .nil)
  (.cons (.ret (.cmp .eq (.bi .sorted (.cons L117_1 .nil)) (.bi .list (.cons (.slcU (.glb 3) (.bi .len (.cons (.var 0) .nil))) .nil))))
  .nil))
def fn117 : Fn := ⟨1, 2, b117⟩
/- 118: in_order (rank, some, letter) -/
def L118_0 : E :=
  (.lc (.n 2) (.seq (.call 2 (.cons (.var 0) .nil))) (.cons (.cmp .in_ (.var 2) (.var 1)) .nil) (.var 2))
def b118 : Cs :=
  (.cons (.ret (.mt .join (.cst (.str [])) (.cons L118_0 .nil)))
  .nil)
def fn118 : Fn := ⟨2, 3, b118⟩
/- 119: is_move (rank, thing, s, side) -/
def b119 : Cs :=
  (.cons (.asg (.t (.cons (.n 2) (.cons (.n 3) .nil))) (.slcL (.var 1) (.cst (.int 1))))
  (.cons (.ite (.or (.not (.isi (.var 2) .str)) (.or (.not (.isi (.var 3) .str)) (.or (.cmp .ne (.bi .len (.cons (.var 2) .nil)) (.cst (.int 1))) (.cmp .notin (.var 2) (.call 2 (.cons (.var 0) .nil)))))) (.cons (.ret (.cst (.bl false)))
  .nil) .nil)
  (.cons (.ret (.and (.cmp .eq (.var 3) (.call 118 (.cons (.var 0) (.cons (.var 3) .nil)))) (.and (.cmp .in_ (.var 2) (.var 3)) (.cmp .notin (.call 3 (.cons (.var 2) .nil)) (.var 3)))))
  .nil)))
def fn119 : Fn := ⟨2, 4, b119⟩
/- 120: is_relabeling (rank, thing, names, name) -/
def L120_0 : E :=
  (.lc (.n 3) (.seq (.var 2)) .nil (.cmp .in_ (.var 3) (.call 2 (.cons (.var 0) .nil))))
def b120 : Cs :=
  (.cons (.set 2 (.sub (.var 1) (.cst (.int 1))))
  (.cons (.ite (.or (.not (.isi (.var 2) .str)) (.or (.cmp .ne (.bi .len (.cons (.var 2) .nil)) (.var 0)) (.not (.bi .all (.cons L120_0 .nil))))) (.cons (.ret (.cst (.bl false)))
  .nil) .nil)
  (.cons (.ret (.call 117 (.cons (.var 2) .nil)))
  .nil)))
def fn120 : Fn := ⟨2, 4, b120⟩
/- 121: is_step_of (rank, thing) -/
def b121 : Cs :=
  (.cons (.ite (.or (.not (.isi (.var 1) .tuple)) (.or (.cmp .eq (.var 1) (.tup .nil)) (.not (.isi (.sub (.var 1) (.cst (.int 0))) .str)))) (.cons (.ret (.cst (.bl false)))
  .nil) .nil)
  (.cons (.ite (.cmp .eq (.sub (.var 1) (.cst (.int 0))) (.cst (.str [109, 111, 118, 101]))) (.cons (.ret (.and (.cmp .eq (.bi .len (.cons (.var 1) .nil)) (.cst (.int 3))) (.call 119 (.cons (.var 0) (.cons (.var 1) .nil)))))
  .nil) .nil)
  (.cons (.ret (.and (.cmp .eq (.sub (.var 1) (.cst (.int 0))) (.cst (.str [114, 101, 108, 97, 98, 101, 108]))) (.and (.cmp .eq (.bi .len (.cons (.var 1) .nil)) (.cst (.int 2))) (.call 120 (.cons (.var 0) (.cons (.var 1) .nil))))))
  .nil)))
def fn121 : Fn := ⟨2, 2, b121⟩
/- 129: _law_images (rank, step, word, s, side, found, x, before, behind) -/
def F129_0 : Cs :=
  (.cons (.set 7 (.ife (.cmp .in_ (.mt .upper (.var 6) .nil) (.var 4)) (.call 28 (.cons (.var 3) .nil)) (.cst (.str []))))
  (.cons (.set 8 (.ife (.cmp .in_ (.var 6) (.var 4)) (.var 3) (.cst (.str []))))
  (.cons (.app 5 (.ife (.cmp .eq (.var 6) (.mt .lower (.var 3) .nil)) (.var 6) (.bin .add (.bin .add (.var 7) (.var 6)) (.var 8))))
  .nil)))
def b129 : Cs :=
  (.cons (.ite (.cmp .eq (.sub (.var 1) (.cst (.int 0))) (.cst (.str [114, 101, 108, 97, 98, 101, 108]))) (.cons (.ret (.bi .tuple (.cons (.sub (.var 1) (.cst (.int 1))) .nil)))
  .nil) .nil)
  (.cons (.asg (.t (.cons (.n 2) (.cons (.n 3) (.cons (.n 4) .nil)))) (.var 1))
  (.cons (.own 5 (.lst .nil))
  (.cons (.for_ (.n 6) (.seq (.slcU (.cst (.str [97, 98, 99, 100])) (.var 0))) F129_0)
  (.cons (.ret (.bi .tuple (.cons (.bor 5) .nil)))
  .nil)))))
def fn129 : Fn := ⟨2, 9, b129⟩
/- 130: _law_row_mapped (images, row, ring) -/
def L130_0 : E :=
  (.lc (.n 2) (.seq (.var 1)) .nil (.call 40 (.cons (.call 78 (.cons (.var 0) (.cons (.var 2) .nil))) .nil)))
def b130 : Cs :=
  (.cons (.ret (.bi .tuple (.cons L130_0 .nil)))
  .nil)
def fn130 : Fn := ⟨2, 3, b130⟩
/- 138: need_step (rank, step) -/
def b138 : Cs :=
  (.cons (.ite (.not (.call 121 (.cons (.var 0) (.cons (.var 1) .nil)))) (.cons (.raise 8 (.cons (.cst .non) .nil))
  .nil) .nil)
  .nil)
def fn138 : Fn := ⟨2, 2, b138⟩
/- 139: images_of (rank, step, s, side, found, name, before, behind) -/
def F139_0 : Cs :=
  (.cons (.ite (.cmp .in_ (.var 5) (.tup (.cons (.var 2) (.cons (.call 3 (.cons (.var 2) .nil)) .nil)))) (.cons (.app 4 (.var 5))
  .nil) (.cons (.par2 6 7 (.ife (.cmp .in_ (.call 3 (.cons (.var 5) .nil)) (.var 3)) (.call 3 (.cons (.var 2) .nil)) (.cst (.str []))) (.ife (.cmp .in_ (.var 5) (.var 3)) (.var 2) (.cst (.str []))))
  (.cons (.app 4 (.bin .add (.bin .add (.var 6) (.var 5)) (.var 7)))
  .nil)))
  .nil)
def b139 : Cs :=
  (.cons (.ite (.cmp .eq (.sub (.var 1) (.cst (.int 0))) (.cst (.str [114, 101, 108, 97, 98, 101, 108]))) (.cons (.ret (.bi .tuple (.cons (.sub (.var 1) (.cst (.int 1))) .nil)))
  .nil) .nil)
  (.cons (.asg (.t (.cons (.n 2) (.cons (.n 3) .nil))) (.slcL (.var 1) (.cst (.int 1))))
  (.cons (.own 4 (.lst .nil))
  (.cons (.for_ (.n 5) (.seq (.slcU (.glb 3) (.var 0))) F139_0)
  (.cons (.ret (.bi .tuple (.cons (.bor 4) .nil)))
  .nil)))))
def fn139 : Fn := ⟨2, 8, b139⟩
/- 141: _law_mixed (source, items, rest, found) -/
def T141_0 : E :=
  (.cmp .ne (.bor 2) (.lst .nil))
def W141_0 : Cs :=
  (.cons (.appPop 3 2 (.call 26 (.cons (.var 0) (.cons (.bi .len (.cons (.bor 2) .nil)) .nil))))
  .nil)
def b141 : Cs :=
  (.cons (.par2o 2 3 true true (.bi .list (.cons (.var 1) .nil)) (.lst .nil))
  (.cons (.while_ T141_0 W141_0)
  (.cons (.frz 3)
  (.cons (.ret (.var 3))
  .nil))))
def fn141 : Fn := ⟨2, 4, b141⟩
/- 152: step_row_of (rank, row, step, images, ring) -/
def L152_0 : E :=
  (.lc (.n 4) (.seq (.var 1)) .nil (.call 44 (.cons (.call 11 (.cons (.var 3) (.cons (.var 4) .nil))) .nil)))
def b152 : Cs :=
  (.cons (.set 3 (.call 139 (.cons (.var 0) (.cons (.var 2) .nil))))
  (.cons (.ret (.bi .tuple (.cons L152_0 .nil)))
  .nil))
def fn152 : Fn := ⟨3, 5, b152⟩
/- 153: need_row_length (row) -/
def b153 : Cs :=
  (.cons (.ite (.cmp .gt (.call 52 (.cons (.var 0) .nil)) (.glb 6)) (.cons (.raise 13 (.cons (.glb 6) .nil))
  .nil) .nil)
  .nil)
def fn153 : Fn := ⟨1, 1, b153⟩
/- 154: step_row (rank, row, step, found) -/
def b154 : Cs :=
  (.cons (.expr (.call 1 (.cons (.var 0) .nil)))
  (.cons (.expr (.call 54 (.cons (.var 0) (.cons (.var 1) .nil))))
  (.cons (.expr (.call 138 (.cons (.var 0) (.cons (.var 2) .nil))))
  (.cons (.set 3 (.call 152 (.cons (.var 0) (.cons (.var 1) (.cons (.var 2) .nil)))))
  (.cons (.expr (.call 153 (.cons (.var 3) .nil)))
  (.cons (.ret (.var 3))
  .nil))))))
def fn154 : Fn := ⟨3, 4, b154⟩
/- 155: cut_of (row, side, edge, x, z) -/
def L155_0 : E :=
  (.lc (.t (.cons (.n 2) (.cons (.n 3) (.cons (.n 4) .nil)))) (.seq (.call 55 (.cons (.var 0) .nil))) (.cons (.cmp .ne (.cmp .in_ (.var 3) (.var 1)) (.cmp .in_ (.var 4) (.var 1))) .nil) (.var 2))
def b155 : Cs :=
  (.cons (.ret (.bi .len (.cons L155_0 .nil)))
  .nil)
def fn155 : Fn := ⟨2, 5, b155⟩
/- 156: change_of (row, step) -/
def b156 : Cs :=
  (.cons (.ite (.cmp .eq (.sub (.var 1) (.cst (.int 0))) (.cst (.str [114, 101, 108, 97, 98, 101, 108]))) (.cons (.ret (.cst (.int 0)))
  .nil) .nil)
  (.cons (.ret (.bin .sub (.call 155 (.cons (.var 0) (.cons (.sub (.var 1) (.cst (.int 2))) .nil))) (.call 56 (.cons (.var 0) (.cons (.sub (.var 1) (.cst (.int 1))) .nil)))))
  .nil))
def fn156 : Fn := ⟨2, 2, b156⟩
/- 157: need_side (rank, side, letter) -/
def L157_0 : E :=
  (.lc (.n 2) (.seq (.call 2 (.cons (.var 0) .nil))) (.cons (.cmp .in_ (.var 2) (.var 1)) .nil) (.var 2))
def b157 : Cs :=
  (.cons (.ite (.not (.isi (.var 1) .str)) (.cons (.raise 4 (.cons (.cst .non) .nil))
  .nil) .nil)
  (.cons (.ite (.cmp .ne (.var 1) (.mt .join (.cst (.str [])) (.cons L157_0 .nil))) (.cons (.raise 4 (.cons (.cst .non) .nil))
  .nil) .nil)
  .nil))
def fn157 : Fn := ⟨2, 3, b157⟩
/- 158: cut (rank, row, side) -/
def b158 : Cs :=
  (.cons (.expr (.call 1 (.cons (.var 0) .nil)))
  (.cons (.expr (.call 54 (.cons (.var 0) (.cons (.var 1) .nil))))
  (.cons (.expr (.call 157 (.cons (.var 0) (.cons (.var 2) .nil))))
  (.cons (.ret (.call 155 (.cons (.var 1) (.cons (.var 2) .nil))))
  .nil))))
def fn158 : Fn := ⟨3, 3, b158⟩
/- 159: change (rank, row, step) -/
def b159 : Cs :=
  (.cons (.expr (.call 1 (.cons (.var 0) .nil)))
  (.cons (.expr (.call 54 (.cons (.var 0) (.cons (.var 1) .nil))))
  (.cons (.expr (.call 138 (.cons (.var 0) (.cons (.var 2) .nil))))
  (.cons (.ret (.call 156 (.cons (.var 1) (.cons (.var 2) .nil))))
  .nil))))
def fn159 : Fn := ⟨3, 3, b159⟩
/- 160: _law_sides (letters_here, found, x, some) -/
def L160_0 : E :=
  (.lc (.n 3) (.seq (.var 1)) .nil (.bin .add (.var 3) (.var 2)))
def F160_0 : Cs :=
  (.cons (.set 1 (.bin .add (.var 1) L160_0))
  .nil)
def b160 : Cs :=
  (.cons (.set 1 (.lst (.cons (.cst (.str [])) .nil)))
  (.cons (.for_ (.n 2) (.seq (.var 0)) F160_0)
  (.cons (.ret (.var 1))
  .nil)))
def fn160 : Fn := ⟨1, 4, b160⟩
/- 161: _law_every_move (rank, found, alphabet, s, some, rest, y) -/
def L161_0 : E :=
  (.lc (.n 6) (.seq (.var 2)) (.cons (.cmp .notin (.var 6) (.tup (.cons (.var 3) (.cons (.call 28 (.cons (.var 3) .nil)) .nil)))) .nil) (.var 6))
def L161_1 : E :=
  (.lc (.n 6) (.seq (.var 2)) (.cons (.or (.cmp .eq (.var 6) (.var 3)) (.cmp .in_ (.var 6) (.var 5))) .nil) (.var 6))
def F161_1 : Cs :=
  (.cons (.app 1 (.tup (.cons (.cst (.str [109, 111, 118, 101])) (.cons (.var 3) (.cons (.mt .join (.cst (.str [])) (.cons L161_1 .nil)) .nil)))))
  .nil)
def F161_0 : Cs :=
  (.cons (.set 4 L161_0)
  (.cons (.for_ (.n 5) (.seq (.call 160 (.cons (.var 4) .nil))) F161_1)
  .nil))
def b161 : Cs :=
  (.cons (.par2o 1 2 true false (.lst .nil) (.call 27 (.cons (.var 0) .nil)))
  (.cons (.for_ (.n 3) (.seq (.var 2)) F161_0)
  (.cons (.frz 1)
  (.cons (.ret (.var 1))
  .nil))))
def fn161 : Fn := ⟨1, 7, b161⟩
/- 162: _law_move_right (rank, row, one, word, s, side_here, there, due, rest, x) -/
def L162_0 : E :=
  (.lc (.n 9) (.seq (.call 27 (.cons (.var 0) .nil))) (.cons (.cmp .notin (.var 9) (.var 5)) .nil) (.var 9))
def b162 : Cs :=
  (.cons (.asg (.t (.cons (.n 3) (.cons (.n 4) (.cons (.n 5) .nil)))) (.var 2))
  (.cons (.set 6 (.call 130 (.cons (.call 129 (.cons (.var 0) (.cons (.var 2) .nil))) (.cons (.var 1) .nil))))
  (.cons (.set 7 (.bin .sub (.bi .len (.cons (.mt .join (.cst (.str [])) (.cons (.var 6) .nil)) .nil)) (.bi .len (.cons (.mt .join (.cst (.str [])) (.cons (.var 1) .nil)) .nil))))
  (.cons (.ite (.or (.cmp .ne (.call 159 (.cons (.var 0) (.cons (.var 1) (.cons (.var 2) .nil)))) (.var 7)) (.cmp .ne (.bin .sub (.call 158 (.cons (.var 0) (.cons (.var 1) (.cons (.var 5) .nil)))) (.call 58 (.cons (.var 0) (.cons (.var 1) (.cons (.var 4) .nil))))) (.var 7))) (.cons (.ret (.cst (.bl false)))
  .nil) .nil)
  (.cons (.ite (.cmp .ne (.rpr (.call 154 (.cons (.var 0) (.cons (.var 1) (.cons (.var 2) .nil))))) (.rpr (.var 6))) (.cons (.ret (.cst (.bl false)))
  .nil) .nil)
  (.cons (.set 8 (.mt .join (.cst (.str [])) (.cons L162_0 .nil)))
  (.cons (.ret (.cmp .eq (.call 154 (.cons (.var 0) (.cons (.var 1) (.cons (.tup (.cons (.cst (.str [109, 111, 118, 101])) (.cons (.call 28 (.cons (.var 4) .nil)) (.cons (.var 8) .nil)))) .nil)))) (.var 6)))
  .nil)))))))
def fn162 : Fn := ⟨3, 10, b162⟩
/- 163: law (script, source, rank, row, some, one) -/
def L163_0 : E :=
  (.lc (.n 5) (.seq (.var 4)) (.cons (.not (.call 162 (.cons (.var 2) (.cons (.var 3) (.cons (.var 5) .nil))))) .nil) (.var 5))
def b163 : Cs :=
  (.cons (.set 1 (.call 25 (.cons (.var 0) (.cons (.cst (.int 0)) .nil))))
  (.cons (.set 2 (.bin .add (.cst (.int 2)) (.call 26 (.cons (.var 1) (.cons (.cst (.int 2)) .nil)))))
  (.cons (.set 3 (.call 60 (.cons (.var 1) (.cons (.var 2) (.cons (.cst (.int 4)) .nil)))))
  (.cons (.set 4 (.slcU (.call 141 (.cons (.var 1) (.cons (.call 161 (.cons (.var 2) .nil)) .nil))) (.cst (.int 40))))
  (.cons (.ret (.cmp .eq L163_0 (.lst .nil)))
  .nil)))))
def fn163 : Fn := ⟨1, 6, b163⟩
end RC

set_option Elab.async false
set_option linter.all false
set_option autoImplicit false
set_option maxRecDepth 100000
set_option maxHeartbeats 4000000
namespace KL
open PySem PySem.Spec PyProof.Rows L2 RC
abbrev pw : Program := PySem.Challenge.pw_ringleast_k66_whole_rule_of_change
def top (i : Nat) : Stmt := pw.main.body.getD i (.Pass ⟨0, 0, 0, 0⟩)
def e0 : Ent := ⟨"is_integer", defArgs (top 14), defBody (top 14), defScope (top 14), ["thing"], ["thing"], 0⟩
def r0 : RC.Row := ⟨0, "is_integer", e0, fn0⟩
def e1 : Ent := ⟨"need_rank", defArgs (top 15), defBody (top 15), defScope (top 15), ["rank"], ["rank"], 0⟩
def r1 : RC.Row := ⟨1, "need_rank", e1, fn1⟩
def e2 : Ent := ⟨"letters_of", defArgs (top 16), defBody (top 16), defScope (top 16), ["rank"], ["rank"], 0⟩
def r2 : RC.Row := ⟨2, "letters_of", e2, fn2⟩
def e3 : Ent := ⟨"inverse_of", defArgs (top 20), defBody (top 20), defScope (top 20), ["text"], ["text"], 0⟩
def r3 : RC.Row := ⟨3, "inverse_of", e3, fn3⟩
def e4 : Ent := ⟨"is_text", defArgs (top 22), defBody (top 22), defScope (top 22), ["rank", "thing", "letter"], ["rank", "thing"], 0⟩
def r4 : RC.Row := ⟨4, "is_text", e4, fn4⟩
def e5 : Ent := ⟨"is_word_of", defArgs (top 23), defBody (top 23), defScope (top 23), ["rank", "thing", "letter", "following"], ["rank", "thing"], 0⟩
def r5 : RC.Row := ⟨5, "is_word_of", e5, fn5⟩
def e10 : Ent := ⟨"joined", defArgs (top 33), defBody (top 33), defScope (top 33), ["one", "other", "back", "size"], ["one", "other"], 0⟩
def r10 : RC.Row := ⟨10, "joined", e10, fn10⟩
def e11 : Ent := ⟨"image_of", defArgs (top 34), defBody (top 34), defScope (top 34), ["images", "word", "found", "letter"], ["images", "word"], 0⟩
def r11 : RC.Row := ⟨11, "image_of", e11, fn11⟩
def e25 : Ent := ⟨"_law_source", defArgs (top 56), defBody (top 56), defScope (top 56), ["script", "k", "cell"], ["script", "k"], 0⟩
def r25 : RC.Row := ⟨25, "_law_source", e25, fn25⟩
def e26 : Ent := ⟨"_law_next", defArgs (top 57), defBody (top 57), defScope (top 57), ["source", "many", "found", "primes", "prime"], ["source", "many"], 0⟩
def r26 : RC.Row := ⟨26, "_law_next", e26, fn26⟩
def e27 : Ent := ⟨"_law_alphabet", defArgs (top 59), defBody (top 59), defScope (top 59), ["rank"], ["rank"], 0⟩
def r27 : RC.Row := ⟨27, "_law_alphabet", e27, fn27⟩
def e28 : Ent := ⟨"_law_other", defArgs (top 60), defBody (top 60), defScope (top 60), ["letter"], ["letter"], 0⟩
def r28 : RC.Row := ⟨28, "_law_other", e28, fn28⟩
def e29 : Ent := ⟨"_law_text", defArgs (top 65), defBody (top 65), defScope (top 65), ["source", "rank", "size", "found", "k", "some", "letter"], ["source", "rank", "size"], 0⟩
def r29 : RC.Row := ⟨29, "_law_text", e29, fn29⟩
def e35 : Ent := ⟨"reduced", defArgs (top 19), defBody (top 19), defScope (top 19), ["text", "kept", "letter"], ["text"], 0⟩
def r35 : RC.Row := ⟨35, "reduced", e35, fn35⟩
def e38 : Ent := ⟨"_law_short", defArgs (top 62), defBody (top 62), defScope (top 62), ["text", "kept", "letter"], ["text"], 0⟩
def r38 : RC.Row := ⟨38, "_law_short", e38, fn38⟩
def e39 : Ent := ⟨"_law_key", defArgs (top 63), defBody (top 63), defScope (top 63), ["text", "letter"], ["text"], 3⟩
def r39 : RC.Row := ⟨39, "_law_key", e39, fn39⟩
def e40 : Ent := ⟨"_law_round", defArgs (top 64), defBody (top 64), defScope (top 64), ["text", "turns", "k"], ["text"], 0⟩
def r40 : RC.Row := ⟨40, "_law_round", e40, fn40⟩
def e42 : Ent := ⟨"word_key", defArgs (top 21), defBody (top 21), defScope (top 21), ["word", "letter"], ["word"], 3⟩
def r42 : RC.Row := ⟨42, "word_key", e42, fn42⟩
def e43 : Ent := ⟨"least_turn", defArgs (top 25), defBody (top 25), defScope (top 25), ["text", "k"], ["text"], 0⟩
def r43 : RC.Row := ⟨43, "least_turn", e43, fn43⟩
def e44 : Ent := ⟨"ring_of_text", defArgs (top 26), defBody (top 26), defScope (top 26), ["text", "word", "first", "last"], ["text"], 0⟩
def r44 : RC.Row := ⟨44, "ring_of_text", e44, fn44⟩
def e45 : Ent := ⟨"is_ring_of", defArgs (top 27), defBody (top 27), defScope (top 27), ["rank", "thing"], ["rank", "thing"], 0⟩
def r45 : RC.Row := ⟨45, "is_ring_of", e45, fn45⟩
def e50 : Ent := ⟨"is_letter", defArgs (top 17), defBody (top 17), defScope (top 17), ["rank", "thing"], ["rank", "thing"], 0⟩
def r50 : RC.Row := ⟨50, "is_letter", e50, fn50⟩
def e51 : Ent := ⟨"need_letter", defArgs (top 18), defBody (top 18), defScope (top 18), ["rank", "letter"], ["rank", "letter"], 0⟩
def r51 : RC.Row := ⟨51, "need_letter", e51, fn51⟩
def e52 : Ent := ⟨"row_length", defArgs (top 28), defBody (top 28), defScope (top 28), ["row", "ring"], ["row"], 0⟩
def r52 : RC.Row := ⟨52, "row_length", e52, fn52⟩
def e53 : Ent := ⟨"is_row_of", defArgs (top 29), defBody (top 29), defScope (top 29), ["rank", "thing", "ring"], ["rank", "thing"], 0⟩
def r53 : RC.Row := ⟨53, "is_row_of", e53, fn53⟩
def e54 : Ent := ⟨"need_row", defArgs (top 30), defBody (top 30), defScope (top 30), ["rank", "row"], ["rank", "row"], 0⟩
def r54 : RC.Row := ⟨54, "need_row", e54, fn54⟩
def e55 : Ent := ⟨"edge_list", defArgs (top 47), defBody (top 47), defScope (top 47), ["row", "found", "index", "ring", "place", "letter"], ["row"], 0⟩
def r55 : RC.Row := ⟨55, "edge_list", e55, fn55⟩
def e56 : Ent := ⟨"degree_of", defArgs (top 48), defBody (top 48), defScope (top 48), ["row", "letter", "edge", "x", "z"], ["row", "letter"], 0⟩
def r56 : RC.Row := ⟨56, "degree_of", e56, fn56⟩
def e58 : Ent := ⟨"degree", defArgs (top 52), defBody (top 52), defScope (top 52), ["rank", "row", "letter"], ["rank", "row", "letter"], 0⟩
def r58 : RC.Row := ⟨58, "degree", e58, fn58⟩
def e59 : Ent := ⟨"_law_rings", defArgs (top 66), defBody (top 66), defScope (top 66), ["source", "rank", "many", "most", "found", "k", "ring"], ["source", "rank", "many", "most"], 0⟩
def r59 : RC.Row := ⟨59, "_law_rings", e59, fn59⟩
def e60 : Ent := ⟨"_law_small_row", defArgs (top 70), defBody (top 70), defScope (top 70), ["source", "rank", "most"], ["source", "rank", "most"], 0⟩
def r60 : RC.Row := ⟨60, "_law_small_row", e60, fn60⟩
def e70 : Ent := ⟨"_law_back", defArgs (top 61), defBody (top 61), defScope (top 61), ["text", "letter"], ["text"], 0⟩
def r70 : RC.Row := ⟨70, "_law_back", e70, fn70⟩
def e78 : Ent := ⟨"_law_mapped", defArgs (top 67), defBody (top 67), defScope (top 67), ["images", "text", "found", "letter", "part"], ["images", "text"], 0⟩
def r78 : RC.Row := ⟨78, "_law_mapped", e78, fn78⟩
def e117 : Ent := ⟨"are_letters", defArgs (top 35), defBody (top 35), defScope (top 35), ["words", "word"], ["words"], 0⟩
def r117 : RC.Row := ⟨117, "are_letters", e117, fn117⟩
def e118 : Ent := ⟨"in_order", defArgs (top 37), defBody (top 37), defScope (top 37), ["rank", "some", "letter"], ["rank", "some"], 0⟩
def r118 : RC.Row := ⟨118, "in_order", e118, fn118⟩
def e119 : Ent := ⟨"is_move", defArgs (top 38), defBody (top 38), defScope (top 38), ["rank", "thing", "s", "side"], ["rank", "thing"], 0⟩
def r119 : RC.Row := ⟨119, "is_move", e119, fn119⟩
def e120 : Ent := ⟨"is_relabeling", defArgs (top 39), defBody (top 39), defScope (top 39), ["rank", "thing", "names", "name"], ["rank", "thing"], 0⟩
def r120 : RC.Row := ⟨120, "is_relabeling", e120, fn120⟩
def e121 : Ent := ⟨"is_step_of", defArgs (top 40), defBody (top 40), defScope (top 40), ["rank", "thing"], ["rank", "thing"], 0⟩
def r121 : RC.Row := ⟨121, "is_step_of", e121, fn121⟩
def e129 : Ent := ⟨"_law_images", defArgs (top 68), defBody (top 68), defScope (top 68), ["rank", "step", "word", "s", "side", "found", "x", "before", "behind"], ["rank", "step"], 0⟩
def r129 : RC.Row := ⟨129, "_law_images", e129, fn129⟩
def e130 : Ent := ⟨"_law_row_mapped", defArgs (top 69), defBody (top 69), defScope (top 69), ["images", "row", "ring"], ["images", "row"], 0⟩
def r130 : RC.Row := ⟨130, "_law_row_mapped", e130, fn130⟩
def e138 : Ent := ⟨"need_step", defArgs (top 41), defBody (top 41), defScope (top 41), ["rank", "step"], ["rank", "step"], 0⟩
def r138 : RC.Row := ⟨138, "need_step", e138, fn138⟩
def e139 : Ent := ⟨"images_of", defArgs (top 42), defBody (top 42), defScope (top 42), ["rank", "step", "s", "side", "found", "name", "before", "behind"], ["rank", "step"], 0⟩
def r139 : RC.Row := ⟨139, "images_of", e139, fn139⟩
def e141 : Ent := ⟨"_law_mixed", defArgs (top 58), defBody (top 58), defScope (top 58), ["source", "items", "rest", "found"], ["source", "items"], 0⟩
def r141 : RC.Row := ⟨141, "_law_mixed", e141, fn141⟩
def e152 : Ent := ⟨"step_row_of", defArgs (top 43), defBody (top 43), defScope (top 43), ["rank", "row", "step", "images", "ring"], ["rank", "row", "step"], 0⟩
def r152 : RC.Row := ⟨152, "step_row_of", e152, fn152⟩
def e153 : Ent := ⟨"need_row_length", defArgs (top 44), defBody (top 44), defScope (top 44), ["row"], ["row"], 0⟩
def r153 : RC.Row := ⟨153, "need_row_length", e153, fn153⟩
def e154 : Ent := ⟨"step_row", defArgs (top 45), defBody (top 45), defScope (top 45), ["rank", "row", "step", "found"], ["rank", "row", "step"], 0⟩
def r154 : RC.Row := ⟨154, "step_row", e154, fn154⟩
def e155 : Ent := ⟨"cut_of", defArgs (top 49), defBody (top 49), defScope (top 49), ["row", "side", "edge", "x", "z"], ["row", "side"], 0⟩
def r155 : RC.Row := ⟨155, "cut_of", e155, fn155⟩
def e156 : Ent := ⟨"change_of", defArgs (top 50), defBody (top 50), defScope (top 50), ["row", "step"], ["row", "step"], 0⟩
def r156 : RC.Row := ⟨156, "change_of", e156, fn156⟩
def e157 : Ent := ⟨"need_side", defArgs (top 51), defBody (top 51), defScope (top 51), ["rank", "side", "letter"], ["rank", "side"], 0⟩
def r157 : RC.Row := ⟨157, "need_side", e157, fn157⟩
def e158 : Ent := ⟨"cut", defArgs (top 53), defBody (top 53), defScope (top 53), ["rank", "row", "side"], ["rank", "row", "side"], 0⟩
def r158 : RC.Row := ⟨158, "cut", e158, fn158⟩
def e159 : Ent := ⟨"change", defArgs (top 54), defBody (top 54), defScope (top 54), ["rank", "row", "step"], ["rank", "row", "step"], 0⟩
def r159 : RC.Row := ⟨159, "change", e159, fn159⟩
def e160 : Ent := ⟨"_law_sides", defArgs (top 71), defBody (top 71), defScope (top 71), ["letters_here", "found", "x", "some"], ["letters_here"], 0⟩
def r160 : RC.Row := ⟨160, "_law_sides", e160, fn160⟩
def e161 : Ent := ⟨"_law_every_move", defArgs (top 72), defBody (top 72), defScope (top 72), ["rank", "found", "alphabet", "s", "some", "rest", "y"], ["rank"], 0⟩
def r161 : RC.Row := ⟨161, "_law_every_move", e161, fn161⟩
def e162 : Ent := ⟨"_law_move_right", defArgs (top 73), defBody (top 73), defScope (top 73), ["rank", "row", "one", "word", "s", "side_here", "there", "due", "rest", "x"], ["rank", "row", "one"], 0⟩
def r162 : RC.Row := ⟨162, "_law_move_right", e162, fn162⟩
def e163 : Ent := ⟨"law", defArgs (top 74), defBody (top 74), defScope (top 74), ["script", "source", "rank", "row", "some", "one"], ["script"], 0⟩
def r163 : RC.Row := ⟨163, "law", e163, fn163⟩
def cr0 : CRow := ⟨0, none⟩
def cr1 : CRow := ⟨1, none⟩
def cr3 : CRow := ⟨3, none⟩
def cr4 : CRow := ⟨4, none⟩
def cr6 : CRow := ⟨6, none⟩
def ci8 : Stmt := inClass (top 6) 0
def ce8 : Ent := ⟨"BadStep.__init__", defArgs ci8, defBody ci8, defScope ci8, ["self", "index"], ["self", "index"], 0⟩
def cr8 : CRow := ⟨8, some ce8⟩
def ci13 : Stmt := inClass (top 7) 0
def ce13 : Ent := ⟨"TooLong.__init__", defArgs ci13, defBody ci13, defScope ci13, ["self", "limit"], ["self", "limit"], 0⟩
def cr13 : CRow := ⟨13, some ce13⟩
def tb : Tb := ⟨r0 :: r1 :: r2 :: r3 :: r4 :: r5 :: r10 :: r11 :: r25 :: r26 :: r27 :: r28 :: r29 :: r35 :: r38 :: r39 :: r40 :: r42 :: r43 :: r44 :: r45 :: r50 :: r51 :: r52 :: r53 :: r54 :: r55 :: r56 :: r58 :: r59 :: r60 :: r70 :: r78 :: r117 :: r118 :: r119 :: r120 :: r121 :: r129 :: r130 :: r138 :: r139 :: r141 :: r152 :: r153 :: r154 :: r155 :: r156 :: r157 :: r158 :: r159 :: r160 :: r161 :: r162 :: r163 :: [], ⟨0, "MAX_RANK", (.int 4)⟩ :: ⟨1, "ALL_LETTERS", (.str [97, 65, 98, 66, 99, 67, 100, 68])⟩ :: ⟨2, "MAX_WORD", (.int 100)⟩ :: ⟨3, "BASE", (.str [97, 98, 99, 100])⟩ :: ⟨5, "MAX_RINGS", (.int 4)⟩ :: ⟨6, "MAX_LENGTH", (.int 60)⟩ :: [], cr0 :: cr1 :: cr3 :: cr4 :: cr6 :: cr8 :: cr13 :: []⟩
end KL

namespace KL
open PySem PySem.Spec PyProof.Rows L2 RC
abbrev R : PySem.W.OpenRow := PySem.W.OpenLaw.row PySem.Challenge.rw_ringleast_k66_whole_rule_of_change
def loose : List Str := ("__name__" : Str) :: ("RingError" : Str) :: ("LimitError" : Str) :: ("BadRank" : Str) :: ("BadLetter" : Str) :: ("BadRow" : Str) :: ("BadStep" : Str) :: ("TooLong" : Str) :: ("MAX_RANK" : Str) :: ("MAX_WORD" : Str) :: ("MAX_RINGS" : Str) :: ("MAX_LENGTH" : Str) :: ("ALL_LETTERS" : Str) :: ("is_integer" : Str) :: ("need_rank" : Str) :: ("letters_of" : Str) :: ("is_letter" : Str) :: ("need_letter" : Str) :: ("reduced" : Str) :: ("inverse_of" : Str) :: ("word_key" : Str) :: ("is_text" : Str) :: ("is_word_of" : Str) :: ("least_turn" : Str) :: ("ring_of_text" : Str) :: ("is_ring_of" : Str) :: ("row_length" : Str) :: ("is_row_of" : Str) :: ("need_row" : Str) :: ("BASE" : Str) :: ("joined" : Str) :: ("image_of" : Str) :: ("are_letters" : Str) :: ("in_order" : Str) :: ("is_move" : Str) :: ("is_relabeling" : Str) :: ("is_step_of" : Str) :: ("need_step" : Str) :: ("images_of" : Str) :: ("step_row_of" : Str) :: ("need_row_length" : Str) :: ("step_row" : Str) :: ("edge_list" : Str) :: ("degree_of" : Str) :: ("cut_of" : Str) :: ("change_of" : Str) :: ("need_side" : Str) :: ("degree" : Str) :: ("cut" : Str) :: ("change" : Str) :: ("_law_source" : Str) :: ("_law_next" : Str) :: ("_law_mixed" : Str) :: ("_law_alphabet" : Str) :: ("_law_other" : Str) :: ("_law_back" : Str) :: ("_law_short" : Str) :: ("_law_key" : Str) :: ("_law_round" : Str) :: ("_law_text" : Str) :: ("_law_rings" : Str) :: ("_law_mapped" : Str) :: ("_law_images" : Str) :: ("_law_row_mapped" : Str) :: ("_law_small_row" : Str) :: ("_law_sides" : Str) :: ("_law_every_move" : Str) :: ("_law_move_right" : Str) :: []
abbrev hk : PySem.W.Hook := He.hookX 5 tb.fa tb.fn [] tb.tf tb.ex
def ob (s : PySem.W.SharedT) : He.AlX := He.obsX 5 tb.fa tb.fn [] tb.tf tb.ex (HandSHeadRun.getT s)
theorem ob_eq (s : PySem.W.SharedT) : ob s = hk.obs s.abs := He.obsX_eq (HandSHeadRun.getT_eq s)
open PySem PySem.W PySem.Calls PyProof.Rows HandSHeadRun in
theorem runA (w : World) (os : OsState) : (HandSHeadRun.endF (HandSHeadRun.stepQ (HandSHeadRun.denQ HandSHeadRun.tabQ) R.prog w) 8000 R.prog w os).map (fun s => HandSHeadRun.looksF R.prog (boot_heap w.params) s.abs) = some true := by kernel_rfl
open PySem PySem.W PySem.Calls PyProof.Rows HandSHeadRun in
theorem runB (w : World) (os : OsState) : (HandSHeadRun.endF (HandSHeadRun.stepQ (HandSHeadRun.denQ HandSHeadRun.tabQ) R.prog w) 8000 R.prog w os).map (fun s => HandSHeadRun.seenQ (PySem.W.view R.prog [74]) loose (importedModules R.prog.main.body) (fun s => xlAt (PySem.W.view R.prog [74]) [] s && recOk R.toRowW.records s) s.abs) = some (openGood (PySem.W.view R.prog [74]) loose) := by kernel_rfl
theorem runC (w : World) (os : OsState) : (HandSHeadRun.endF (HandSHeadRun.stepQ (HandSHeadRun.denQ HandSHeadRun.tabQ) R.prog w) 8000 R.prog w os).map (fun s => (ob s).1) = some (hk.val w).1 := by kernel_rfl
theorem runD (w : World) (os : OsState) : (HandSHeadRun.endF (HandSHeadRun.stepQ (HandSHeadRun.denQ HandSHeadRun.tabQ) R.prog w) 8000 R.prog w os).map (fun s => (ob s).2) = some (hk.val w).2 := by kernel_rfl
theorem run (w : World) : HandSHeadRun.RunEq R (PySem.W.view R.prog [74]) hk ob 8000 loose w := fun os => opt_all (runA w os) (runB w os) (runC w os) (runD w os)
end KL

set_option Elab.async false
set_option linter.all false
set_option autoImplicit false
set_option maxRecDepth 100000
set_option maxHeartbeats 1000000
/-! Operators, comparisons, built-ins and methods on data, as rules of the hand layer. -/
namespace RC
open PySem PySem.Spec PyProof.Rows L2

theorem SZ_line : SZ = sizeLine := by rw [sizeLine_eq]; rfl
/-- what is forbidden is tracked -/
structure Tr (H : Hp) (O : OSet) (θ : List Addr) : Prop where
  o : ∀ a, O a → ∃ u, H a = some u
  t : ∀ a, a ∈ θ → ∃ u, H a = some u
theorem RM.tr [LX] {H : Hp} {O : OSet} {θ : List Addr} {M : Store} (m : RM H O θ M) : Tr H O θ := ⟨fun a h => (m.otr a h).elim fun xs e => ⟨_, e⟩, fun a h => by
  obtain ⟨n, hn, e⟩ := List.getElem_of_mem h
  have h1 : θ[n]? = some a := by rw [List.getElem?_eq_getElem hn, e]
  have h2 : n < M.length := by rw [← m.len]; exact hn
  exact ⟨_, m.at_ n a M[n] h1 (List.getElem?_eq_getElem h2)⟩⟩
theorem Tr.new {H : Hp} {O : OSet} {θ : List Addr} (t : Tr H O θ) {p : Addr} (h : H p = none) : ¬ O p ∧ p ∉ θ :=
  ⟨fun z => (by obtain ⟨u, e⟩ := t.o p z; rw [h] at e; cases e), fun z => (by obtain ⟨u, e⟩ := t.t p z; rw [h] at e; cases e)⟩
theorem sm_upd {H : Hp} {p : Addr} {o : HO} (h : H p = none) : Same H (upd H p o) := fun b x e => by rw [upd_ne (ne_of_none e h)]; exact e
theorem sm_ext {H H' : Hp} (s : Same H H') (θ : List Addr) : Ext θ θ H H' := ⟨List.prefix_refl _, fun a o _ _ e => s a o e, fun _ h n => absurd h n⟩
theorem sm_rm [LX] {H H' : Hp} {O : OSet} {θ : List Addr} {M : Store} (s : Same H H') (m : RM H O θ M) : RM H' O θ M :=
  ⟨m.len, m.nd, fun n a ns h1 h2 => s _ _ (m.at_ n a ns h1 h2), m.noO, fun a h => by obtain ⟨o, e⟩ := m.otr a h; exact ⟨o, s _ _ e⟩, m.tab.ext s⟩
theorem Reps.same {K : PySem.W.Frag} {O : OSet} {θ : List Addr} {H H' : Hp} {d : List D} {v : List V} (h : Reps K H O θ d v) (x : Same H H') : Reps K H' O θ d v := h.ext (sm_ext x θ)
theorem Rep.same {K : PySem.W.Frag} {O : OSet} {θ : List Addr} {H H' : Hp} {d : D} {v : V} (h : Rep K H O θ d v) (x : Same H H') : Rep K H' O θ d v := h.ext (sm_ext x θ)

/-- an operand: data, or a list of the frame's own -/
def RepB (K : PySem.W.Frag) (H : Hp) (O : OSet) (θ : List Addr) (d : D) (v : V) : Prop :=
  Rep K H O θ d v ∨ ∃ xs a vs, d = .lst xs ∧ v = .ref a ∧ H a = some (.lst vs) ∧ a ∉ θ ∧ Reps K H O θ xs vs
theorem RepB.ext {K : PySem.W.Frag} {O : OSet} {θ θ' : List Addr} {H H' : Hp} {d : D} {v : V} (h : RepB K H O θ d v) (x : Ext θ θ' H H') : RepB K H' O θ' d v := by
  rcases h with h | ⟨xs, a, vs, e1, e2, e3, n, r⟩
  · exact .inl (h.ext x)
  · exact .inr ⟨xs, a, vs, e1, e2, x.keep a _ (nt_lst _) n e3, x.notIn (nt_lst _) e3 n, r.ext x⟩
section
variable {K : PySem.W.Frag} {H : Hp} {O : OSet} {θ : List Addr} {v : V}
theorem RepB.lst {xs : List D} (h : RepB K H O θ (.lst xs) v) : ∃ a vs, v = .ref a ∧ Rd H a (.lst vs) ∧ Reps K H O θ xs vs := by
  rcases h with ⟨a, vs, e, r, q⟩ | ⟨xs', a, vs, e1, e2, e3, n, r⟩
  · exact ⟨a, vs, e, r.1, q⟩
  · cases e1; exact ⟨a, vs, e2, .inl e3, r⟩
theorem RepB.tup {xs : List D} (h : RepB K H O θ (.tup xs) v) : ∃ a vs, v = .ref a ∧ TupAt K H O θ a vs ∧ Reps K H O θ xs vs := by
  rcases h with ⟨a, vs, e, r, q⟩ | ⟨xs', a, vs, e1, e2, e3, n, r⟩
  · exact ⟨a, vs, e, r, q⟩
  · cases e1
theorem RepB.int {i : Int} (h : RepB K H O θ (.int i) v) : v = .int i := by
  rcases h with h | ⟨xs', a, vs, e1, _⟩
  · exact h
  · cases e1
theorem RepB.bl {i : Bool} (h : RepB K H O θ (.bl i) v) : v = .bl i := by
  rcases h with h | ⟨xs', a, vs, e1, _⟩
  · exact h
  · cases e1
theorem RepB.non (h : RepB K H O θ .non v) : v = .non := by
  rcases h with h | ⟨xs', a, vs, e1, _⟩
  · exact h
  · cases e1
theorem RepB.str {s : List Nat} (h : RepB K H O θ (.str s) v) : v = sV s := by
  rcases h with h | ⟨xs', a, vs, e1, _⟩
  · exact h
  · cases e1
theorem RepB.ref {n : Nat} (h : RepB K H O θ (.ref n) v) : ∃ a, θ[n]? = some a ∧ v = .ref a := by
  rcases h with h | ⟨xs', a, vs, e1, _⟩
  · exact h
  · cases e1
theorem RepB.len {xs : List D} {X : Cx} {pins : List (Addr × Obj)} {σ : L2.St} {s : Shared} (I : Inv X pins σ H s) (h : RepB K H O θ (.lst xs) v) : xs.length ≤ SZ := by
  obtain ⟨a, vs, _, r, q⟩ := h.lst
  obtain ⟨its, _, _, z⟩ := I.list (a := a) (xs := vs) (.inl r)
  rw [q.length, SZ_line]; exact z
end
theorem rd_get {X : Cx} {pins : List (Addr × Obj)} {σ : L2.St} {H : Hp} {s : Shared} {a : Addr} {xs : List V} (I : Inv X pins σ H s) (h : Rd H a (.lst xs)) :
    xs.length ≤ sizeLine ∧ ∃ (its : List Value) (n : Nat), Vals xs its ∧ xs.length = its.length ∧ s.heap.get? a = some { cls := .type "list", data := .seq its.toArray n } := by
  obtain ⟨z, its, n, r, e⟩ := h.ok I.hok
  exact ⟨z, its, n, r, r.length, e⟩
/-- a new list, a new tuple -/
theorem rep_new_lst {K : PySem.W.Frag} {H : Hp} {O : OSet} {θ : List Addr} {xs : List D} {vs : List V} {p : Addr} (t : Tr H O θ) (hp : H p = none) (r : Reps K H O θ xs vs) : Rep K (upd H p (.lst vs)) O θ (.lst xs) (.ref p) :=
  ⟨p, vs, rfl, ⟨.inl upd_same, (t.new hp).1, (t.new hp).2⟩, r.same (sm_upd hp)⟩
theorem rep_new_tup {K : PySem.W.Frag} {H : Hp} {O : OSet} {θ : List Addr} {xs : List D} {vs : List V} {p : Addr} (t : Tr H O θ) (hp : H p = none) (r : Reps K H O θ xs vs) : Rep K (upd H p (.tup vs)) O θ (.tup xs) (.ref p) :=
  ⟨p, vs, rfl, .inl ⟨.inl upd_same, (t.new hp).1, (t.new hp).2⟩, r.same (sm_upd hp)⟩

theorem Reps.nil_of {K : PySem.W.Frag} {O : OSet} {θ : List Addr} {H : Hp} {ds : List D} (h : Reps K H O θ ds []) : ds = [] := List.eq_nil_of_length_eq_zero (by have := h.length; simpa using this)
/-! ### texts -/
theorem sV_append (s t : List Nat) : ((⟨s.toArray⟩ : Str) ++ (⟨t.toArray⟩ : Str)) = ⟨(s ++ t).toArray⟩ := by
  show Str.append _ _ = _
  unfold Str.append
  simp
theorem sV_length (s : List Nat) : (⟨s.toArray⟩ : Str).length = s.length := by simp [Str.length]

section
variable {X : Cx}
/-- a two-place operation on data -/
def rOp (K : PySem.W.Frag) (f : D → D → Option D) : R2 := fun x y H Q => ∃ O θ d1 d2 d, Tr H O θ ∧ RepB K H O θ d1 x ∧ RepB K H O θ d2 y ∧ f d1 d2 = some d ∧ ∀ v H', Same H H' → Rep K H' O θ d v → Q v H'
theorem add_lists {pins : List (Addr × Obj)} {s : Shared} {σ : L2.St} {H : Hp} {Q : VK} {l b : Addr} {xs zs : List V} (I : Inv X pins σ H s) (hH : Rd H l (.lst xs)) (hB : Rd H b (.lst zs)) (hz : xs.length + zs.length ≤ sizeLine)
    (q : ∀ p, H p = none → Q (.ref p) (upd H p (.lst (xs ++ zs)))) : wpAny (model X.prog X.w) X.A (binaryOp .Add (.ref l) (.ref b)) (EP X pins σ Q) X.xe s := by
  obtain ⟨_, as, _, ra, la, ga⟩ := rd_get I hH
  obtain ⟨_, bs, _, rb, lb, gb⟩ := rd_get I hB
  have both : (xs ++ zs).length ≤ sizeLine := by simpa using hz
  refine PySem.P.add_list ga gb ?_ (by simp only [List.size_toArray]; omega)
  simp only [List.append_toArray]
  exact ⟨.ref _, _, I.lnew (t' := s.toks) (ra.append rb) both, rfl, q _ I.fresh⟩
theorem opr_add : OpR X (binaryOp .Add) (rOp X.K addF) := by
  intro pins s σ H x y v u Q I rx ry h
  obtain ⟨O, θ, d1, d2, d, tr, h1, h2, e, q⟩ := h
  unfold addF at e
  split at e
  · cases e
    have e1 := h1.int; have e2 := h2.int
    subst e1 e2
    exact op_add pins s σ H _ _ v u Q I rx ry ⟨_, _, rfl, rfl, q _ _ (Same.refl H) rfl⟩
  · split at e
    · rename_i hz
      cases e
      have e1 := h1.str; have e2 := h2.str
      subst e1 e2
      refine op_add_str pins s σ H _ _ v u Q I rx ry ⟨_, _, rfl, rfl, ?_, ?_⟩
      · rw [sV_length, sV_length, ← SZ_line]; exact hz
      · rw [sV_append]
        exact q _ _ (Same.refl H) rfl
    · cases e
  · split at e
    · rename_i hz
      cases e
      obtain ⟨a, vs, rfl, r1, p1⟩ := h1.lst
      obtain ⟨b, us, rfl, r2, p2⟩ := h2.lst
      cases rx; cases ry
      refine add_lists I r1 r2 (by rw [← p1.length, ← p2.length, ← SZ_line]; exact hz) fun p hp => ?_
      exact q _ _ (sm_upd hp) (rep_new_lst tr hp (p1.append p2))
    · cases e
  · split at e
    · rename_i hz
      cases e
      obtain ⟨a, vs, rfl, r1, p1⟩ := h1.tup
      obtain ⟨b, us, rfl, r2, p2⟩ := h2.tup
      refine op_catA pins s σ H _ _ v u Q I rx ry ⟨a, b, vs, us, rfl, rfl, r1.sq, r2.sq, by rw [← p1.length, ← p2.length, ← SZ_line]; exact hz, fun z => ?_, fun _ z => ?_, fun _ _ p hp => ?_⟩
      · subst z
        have z1 := p1.nil_of
        subst z1
        exact q _ _ (Same.refl H) ⟨b, us, rfl, r2, p2⟩
      · subst z
        have z1 := p2.nil_of
        subst z1
        rw [List.append_nil] at q
        exact q _ _ (Same.refl H) ⟨a, vs, rfl, r1, p1⟩
      · exact q _ _ (sm_upd hp) (rep_new_tup tr hp (p1.append p2))
    · cases e
  · cases e
/-- on ints -/
theorem opr_ints {f : Value → Value → Sem Value} {g : D → D → Option D} {C : Int → Int → Prop} {k : Int → Int → Int} (ho : OpR X f (rI C fun i j => .int (k i j)))
    (hg : ∀ a b d, g a b = some d → ∃ i j, a = .int i ∧ b = .int j ∧ C i j ∧ d = .int (k i j)) : OpR X f (rOp X.K g) := by
  intro pins s σ H x y v u Q I rx ry h
  obtain ⟨O, θ, d1, d2, d, tr, h1, h2, e, q⟩ := h
  obtain ⟨i, j, rfl, rfl, c, rfl⟩ := hg _ _ _ e
  have e1 := h1.int; have e2 := h2.int
  subst e1 e2
  exact ho pins s σ H _ _ v u Q I rx ry ⟨i, j, rfl, rfl, c, q _ _ (Same.refl H) rfl⟩
theorem opr_sub : OpR X (binaryOp .Sub) (rOp X.K subF) := by
  refine opr_ints (C := fun _ _ => True) (k := fun i j => i - j) (fun pins s σ H x y v u Q I rx ry h => ?_) fun a b d e => ?_
  · obtain ⟨i, j, e1, e2, _, q⟩ := h
    exact op_sub pins s σ H x y v u Q I rx ry ⟨i, j, e1, e2, q⟩
  · unfold subF at e
    split at e
    · cases e; exact ⟨_, _, rfl, rfl, trivial, rfl⟩
    · cases e
theorem opr_fdiv : OpR X (binaryOp .FloorDiv) (rOp X.K fdivF) := by
  refine opr_ints op_fdivW fun a b d e => ?_
  unfold fdivF at e
  split at e
  · split at e
    · rename_i hj
      cases e
      refine ⟨_, _, rfl, rfl, wide_div (b := 64) hj.1 ?_ (by decide) (by decide), rfl⟩
      rw [show (2 : Nat) ^ 64 = 18446744073709551616 by decide]
      exact hj.2
    · cases e
  · cases e
theorem opr_mod : OpR X (binaryOp .Mod) (rOp X.K modF) := by
  refine opr_ints op_mod fun a b d e => ?_
  unfold modF at e
  split at e
  · split at e
    · rename_i hj
      cases e
      exact ⟨_, _, rfl, rfl, hj, rfl⟩
    · cases e
  · cases e
theorem opr_pow : OpR X (binaryOp .Pow) (rOp X.K powF) := by
  refine opr_ints op_pow fun a b d e => ?_
  unfold powF at e
  split at e
  · split at e
    · rename_i hj
      cases e
      exact ⟨_, _, rfl, rfl, ⟨hj.1, by omega, by rw [show (2 : Nat) ^ 64 = 18446744073709551616 by decide]; exact hj.2.2⟩, rfl⟩
    · cases e
  · cases e
theorem opr_shl : OpR X (binaryOp .LShift) (rOp X.K shlF) := by
  refine opr_ints op_shl fun a b d e => ?_
  unfold shlF at e
  split at e
  · split at e
    · rename_i hj
      cases e
      exact ⟨_, _, rfl, rfl, ⟨hj.1, by omega, by rw [show (2 : Nat) ^ 64 = 18446744073709551616 by decide]; exact hj.2.2⟩, rfl⟩
    · cases e
  · cases e
theorem opr_shr : OpR X (binaryOp .RShift) (rOp X.K shrF) := by
  refine opr_ints op_shr fun a b d e => ?_
  unfold shrF at e
  split at e
  · split at e
    · rename_i hj
      cases e
      exact ⟨_, _, rfl, rfl, hj, rfl⟩
    · cases e
  · cases e
theorem mul_ok {i j : Int} (h : i.natAbs < 18446744073709551616 ∨ j.natAbs < 18446744073709551616) : CMul i j := by
  unfold CMul
  have : (2 : Int) ^ 64 = 18446744073709551616 := by decide
  rw [this]
  rcases h with h | h
  · exact .inl (by omega)
  · exact .inr (by omega)
theorem rep_eq {α : Type} (n : Nat) (xs : List α) : rep n xs = (List.replicate n xs).flatten := by
  induction n with
  | zero => rfl
  | succ n ih => rw [List.replicate_succ, List.flatten_cons, ← ih]; rfl
theorem Reps.rep {K : PySem.W.Frag} {O : OSet} {θ : List Addr} {H : Hp} {ds : List D} {vs : List V} (h : Reps K H O θ ds vs) (n : Nat) : Reps K H O θ (rep n ds) (RC.rep n vs) := by
  induction n with
  | zero => exact rfl
  | succ n ih => exact h.append ih
end
end RC

set_option Elab.async false
set_option linter.all false
set_option autoImplicit false
set_option maxRecDepth 100000
set_option maxHeartbeats 1000000
namespace RC
open PySem PySem.Spec PyProof.Rows L2
/-! ### data as the library's data -/
mutual
def toPy : D → PyData
  | .non => .none
  | .bl b => .bool b
  | .int i => .int i
  | .str s => .str ⟨s.toArray⟩
  | .lst xs => .list (toPys xs)
  | .tup xs => .tuple (toPys xs)
  | _ => .none
def toPys : List D → List PyData
  | [] => []
  | d :: ds => toPy d :: toPys ds
end
mutual
theorem eq_py : ∀ (n m : Nat) (a b : D), plain n a = true → plain m b = true → PyData.eqv (toPy a) (toPy b) = eqD a b
  | _, _, .non, .non, _, _ => rfl
  | _, _, .non, .bl _, _, _ => rfl
  | _, _, .non, .int _, _, _ => rfl
  | _, _, .non, .str _, _, _ => rfl
  | _, _, .non, .lst _, _, _ => rfl
  | _, _, .non, .tup _, _, _ => rfl
  | _, _, .bl _, .non, _, _ => rfl
  | _, _, .bl _, .bl _, _, _ => rfl
  | _, _, .bl _, .int _, _, _ => rfl
  | _, _, .bl _, .str _, _, _ => rfl
  | _, _, .bl _, .lst _, _, _ => rfl
  | _, _, .bl _, .tup _, _, _ => rfl
  | _, _, .int _, .non, _, _ => rfl
  | _, _, .int _, .bl _, _, _ => rfl
  | _, _, .int _, .int _, _, _ => rfl
  | _, _, .int _, .str _, _, _ => rfl
  | _, _, .int _, .lst _, _, _ => rfl
  | _, _, .int _, .tup _, _, _ => rfl
  | _, _, .str _, .non, _, _ => rfl
  | _, _, .str _, .bl _, _, _ => rfl
  | _, _, .str _, .int _, _, _ => rfl
  | _, _, .str x, .str y, _, _ => by
    show ((⟨x.toArray⟩ : Str) == ⟨y.toArray⟩) = (x == y)
    rw [Bool.eq_iff_iff]
    simp
  | _, _, .str _, .lst _, _, _ => rfl
  | _, _, .str _, .tup _, _, _ => rfl
  | _, _, .lst _, .non, _, _ => rfl
  | _, _, .lst _, .bl _, _, _ => rfl
  | _, _, .lst _, .int _, _, _ => rfl
  | _, _, .lst _, .str _, _, _ => rfl
  | n, m, .lst xs, .lst ys, h, h' => by
    cases n with
    | zero => exact absurd h (by simp [plain])
    | succ n =>
      cases m with
      | zero => exact absurd h' (by simp [plain])
      | succ m => exact eq_pys n m xs ys (by simpa [plain] using h) (by simpa [plain] using h')
  | _, _, .lst _, .tup _, _, _ => rfl
  | _, _, .tup _, .non, _, _ => rfl
  | _, _, .tup _, .bl _, _, _ => rfl
  | _, _, .tup _, .int _, _, _ => rfl
  | _, _, .tup _, .str _, _, _ => rfl
  | _, _, .tup _, .lst _, _, _ => rfl
  | n, m, .tup xs, .tup ys, h, h' => by
    cases n with
    | zero => exact absurd h (by simp [plain])
    | succ n =>
      cases m with
      | zero => exact absurd h' (by simp [plain])
      | succ m => exact eq_pys n m xs ys (by simpa [plain] using h) (by simpa [plain] using h')
  | _, _, .ref _, _, h, _ => by simp [plain] at h
  | _, _, .exc _ _, _, h, _ => by simp [plain] at h
  | _, _, .clo _ _, _, h, _ => by simp [plain] at h
  | _, _, _, .ref _, _, h => by simp [plain] at h
  | _, _, _, .exc _ _, _, h => by simp [plain] at h
  | _, _, _, .clo _ _, _, h => by simp [plain] at h
theorem eq_pys : ∀ (n m : Nat) (a b : List D), plainAll n a = true → plainAll m b = true → PyData.eqvAll (toPys a) (toPys b) = eqAll a b
  | _, _, [], [], _, _ => rfl
  | _, _, [], _ :: _, _, _ => rfl
  | _, _, _ :: _, [], _, _ => rfl
  | n, m, x :: xs, y :: ys, h, h' => by
    rw [plainAll, Bool.and_eq_true] at h h'
    show (PyData.eqv (toPy x) (toPy y) && PyData.eqvAll (toPys xs) (toPys ys)) = (eqD x y && eqAll xs ys)
    rw [eq_py n m x y h.1 h'.1, eq_pys n m xs ys h.2 h'.2]
end
mutual
theorem plain_py : ∀ (n : Nat) (d : D), plain n d = true → (toPy d).canLay0 = true ∧ (toPy d).depth ≤ n
  | _, .non, _ => ⟨rfl, Nat.zero_le _⟩
  | _, .bl _, _ => ⟨rfl, Nat.zero_le _⟩
  | _, .int _, _ => ⟨rfl, Nat.zero_le _⟩
  | _, .str s, h => ⟨by
    show (s.toArray.all fun c => decide (c < 0x110000)) = true
    rw [List.all_toArray]
    simpa [plain] using h, Nat.zero_le _⟩
  | n, .lst xs, h => by
    cases n with
    | zero => exact absurd h (by simp [plain])
    | succ n =>
      obtain ⟨a, b⟩ := plain_pys n xs (by simpa [plain] using h)
      exact ⟨a, Nat.succ_le_succ b⟩
  | n, .tup xs, h => by
    cases n with
    | zero => exact absurd h (by simp [plain])
    | succ n =>
      obtain ⟨a, b⟩ := plain_pys n xs (by simpa [plain] using h)
      exact ⟨a, Nat.succ_le_succ b⟩
  | _, .ref _, h => by simp [plain] at h
  | _, .exc _ _, h => by simp [plain] at h
  | _, .clo _ _, h => by simp [plain] at h
theorem plain_pys : ∀ (n : Nat) (d : List D), plainAll n d = true → PyData.canLayAll0 (toPys d) = true ∧ PyData.depthAll (toPys d) ≤ n
  | _, [], _ => ⟨rfl, Nat.zero_le _⟩
  | n, x :: xs, h => by
    rw [plainAll, Bool.and_eq_true] at h
    obtain ⟨a, b⟩ := plain_py n x h.1
    obtain ⟨c, d⟩ := plain_pys n xs h.2
    refine ⟨?_, ?_⟩
    · show ((toPy x).canLay0 && PyData.canLayAll0 (toPys xs)) = true
      rw [a, c]; rfl
    · show max (toPy x).depth (PyData.depthAll (toPys xs)) ≤ n
      omega
end
theorem plain_shaped {d : D} (h : isPlain d = true) : SeqAt.shaped (toPy d) = true := by
  obtain ⟨a, b⟩ := plain_py 40 d h
  unfold SeqAt.shaped
  rw [a, decide_eq_true (by omega : (toPy d).depth ≤ 64)]; rfl
mutual
theorem rep_dp {K : PySem.W.Frag} {H : Hp} {O : OSet} {θ : List Addr} : ∀ (n : Nat) (d : D) (v : V), plain n d = true → Rep K H O θ d v → Dp K H v (toPy d)
  | _, .non, _, _, h => by have e : _ = _ := h; subst e; exact .non
  | _, .bl b, _, _, h => by have e : _ = _ := h; subst e; exact .bl b
  | _, .int i, _, _, h => by have e : _ = _ := h; subst e; exact .int i
  | _, .str s, _, _, h => by have e : _ = _ := h; subst e; exact .str _
  | n, .lst xs, _, p, h => by
    obtain ⟨a, vs, rfl, l, r⟩ := h
    cases n with
    | zero => exact absurd p (by simp [plain])
    | succ n => exact .lst l.sq (reps_dp n xs vs (by simpa [plain] using p) r)
  | n, .tup xs, _, p, h => by
    obtain ⟨a, vs, rfl, l, r⟩ := h
    cases n with
    | zero => exact absurd p (by simp [plain])
    | succ n => exact .tup l.sq (reps_dp n xs vs (by simpa [plain] using p) r)
  | _, .ref _, _, p, _ => by simp [plain] at p
  | _, .exc _ _, _, p, _ => by simp [plain] at p
  | _, .clo _ _, _, p, _ => by simp [plain] at p
theorem reps_dp {K : PySem.W.Frag} {H : Hp} {O : OSet} {θ : List Addr} : ∀ (n : Nat) (d : List D) (v : List V), plainAll n d = true → Reps K H O θ d v → DpAll K H v (toPys d)
  | _, [], _, _, h => by have e : _ = _ := h; subst e; exact .nil
  | n, x :: xs, _, p, h => by
    obtain ⟨v, r, rfl, h1, h2⟩ := h
    rw [plainAll, Bool.and_eq_true] at p
    exact .cons (rep_dp n x v p.1 h1) (reps_dp n xs r p.2 h2)
end
theorem repB_dp {K : PySem.W.Frag} {H : Hp} {O : OSet} {θ : List Addr} {d : D} {v : V} (p : isPlain d = true) (h : RepB K H O θ d v) : Dp K H v (toPy d) := by
  rcases h with h | ⟨xs, a, vs, rfl, rfl, e, n, r⟩
  · exact rep_dp 40 d v p h
  · exact .lst (SqL.of e) (reps_dp 39 xs vs (by simpa [plain, isPlain] using p) r)
section
variable {X : Cx}
/-- a comparison on data -/
def rCmp (K : PySem.W.Frag) (f : D → D → Option Bool) : R2 := fun x y H Q => ∃ O θ d1 d2 b, RepB K H O θ d1 x ∧ RepB K H O θ d2 y ∧ f d1 d2 = some b ∧ Q (.bl b) H
theorem eqF_cases {d1 d2 : D} {b : Bool} (h : eqF d1 d2 = some b) : (∃ x y, d1 = .str x ∧ d2 = .str y ∧ b = (x == y)) ∨ (isPlain d1 = true ∧ isPlain d2 = true ∧ b = eqD d1 d2) := by
  unfold eqF at h
  split at h
  · cases h; exact .inl ⟨_, _, rfl, rfl, rfl⟩
  · split at h
    · rename_i hp
      rw [Bool.and_eq_true] at hp
      cases h
      exact .inr ⟨hp.1, hp.2, rfl⟩
    · cases h
theorem sV_dec (x y : List Nat) : decide (sV x = sV y) = (x == y) := by
  rw [Bool.eq_iff_iff]
  simp [sV]
theorem cmp_eq (hu : X.A.units + 64 < cLine) : OpR X (compareOp .Eq) (rCmp X.K (cmpF .eq)) := by
  intro pins s σ H x y v u Q I rx ry h
  obtain ⟨O, θ, d1, d2, b, h1, h2, e, q⟩ := h
  rcases eqF_cases (show eqF d1 d2 = some b from e) with ⟨s1, s2, rfl, rfl, rfl⟩ | ⟨p1, p2, rfl⟩
  · have e1 := h1.str; have e2 := h2.str
    subst e1 e2
    refine op_eq pins s σ H _ _ v u Q I rx ry ⟨rfl, ?_⟩
    rw [sV_dec]; exact q
  · refine op_eqD hu pins s σ H x y v u Q I rx ry ⟨_, _, repB_dp p1 h1, repB_dp p2 h2, plain_shaped p1, plain_shaped p2, ?_⟩
    rw [eq_py 40 40 d1 d2 p1 p2]; exact q
theorem cmp_ne (hu : X.A.units + 64 < cLine) : OpR X (compareOp .NotEq) (rCmp X.K (cmpF .ne)) := by
  intro pins s σ H x y v u Q I rx ry h
  obtain ⟨O, θ, d1, d2, b, h1, h2, e, q⟩ := h
  obtain ⟨b0, e0, rfl⟩ : ∃ b0, eqF d1 d2 = some b0 ∧ b = !b0 := by
    have e' : (eqF d1 d2).map (!·) = some b := e
    cases z : eqF d1 d2 with
    | none => rw [z] at e'; cases e'
    | some b0 => rw [z] at e'; cases e'; exact ⟨b0, rfl, rfl⟩
  rcases eqF_cases e0 with ⟨s1, s2, rfl, rfl, rfl⟩ | ⟨p1, p2, rfl⟩
  · have e1 := h1.str; have e2 := h2.str
    subst e1 e2
    refine op_ne pins s σ H _ _ v u Q I rx ry ⟨rfl, ?_⟩
    rw [sV_dec]; exact q
  · refine op_neD hu pins s σ H x y v u Q I rx ry ⟨_, _, repB_dp p1 h1, repB_dp p2 h2, plain_shaped p1, plain_shaped p2, ?_⟩
    rw [eq_py 40 40 d1 d2 p1 p2]; exact q

theorem cmp_ints {op : CmpOp} {g : D → D → Option Bool} {k : Int → Int → Bool} (ho : OpR X (compareOp op) (rI0 fun i j => .bl (k i j)))
    (hg : ∀ a b d, g a b = some d → ∃ i j, a = .int i ∧ b = .int j ∧ d = k i j) : OpR X (compareOp op) (rCmp X.K g) := by
  intro pins s σ H x y v u Q I rx ry h
  obtain ⟨O, θ, d1, d2, b, h1, h2, e, q⟩ := h
  obtain ⟨i, j, rfl, rfl, rfl⟩ := hg _ _ _ e
  have e1 := h1.int; have e2 := h2.int
  subst e1 e2
  exact ho pins s σ H _ _ v u Q I rx ry ⟨i, j, rfl, rfl, q⟩
mutual
theorem keyToks_py : ∀ d : D, PySem.W.keyToks (toPy d) = ktoks d
  | .non => rfl
  | .bl _ => rfl
  | .int _ => rfl
  | .str s => by simp [toPy, PySem.W.keyToks, ktoks]
  | .lst xs => by rw [ktoks]; exact keyToks_pys xs
  | .tup xs => by rw [ktoks]; exact keyToks_pys xs
  | .ref _ => rfl
  | .exc _ _ => rfl
  | .clo _ _ => rfl
theorem keyToks_pys : ∀ ds : List D, PySem.W.keyToksAll (toPys ds) = ktoksAll ds
  | [] => rfl
  | d :: ds => by
    show Sum.inl 1 :: (PySem.W.keyToks (toPy d) ++ PySem.W.keyToksAll (toPys ds)) = _
    rw [keyToks_py d, keyToks_pys ds, ktoksAll]
end
theorem itemLt_eq (x y : Int ⊕ List Nat) : PyProof.Rows.itemLt x y = ltK x y := by
  cases x <;> cases y <;> rfl
theorem lexLt_eq : ∀ (x y : List (Int ⊕ List Nat)), PyProof.Rows.lexLt PyProof.Rows.itemOrd x y = ltT x y
  | [], [] => rfl
  | [], _ :: _ => rfl
  | _ :: _, [] => rfl
  | x :: r, y :: t => by
    show (PyProof.Rows.itemLt x y || (!PyProof.Rows.itemLt y x && PyProof.Rows.lexLt PyProof.Rows.itemOrd r t)) = _
    rw [itemLt_eq, itemLt_eq, lexLt_eq r t, ltT]
theorem dataLt_py (a b : D) : PySem.W.dataLt (toPy a) (toPy b) = ltT (ktoks a) (ktoks b) := by
  unfold PySem.W.dataLt
  rw [keyToks_py, keyToks_py, lexLt_eq]
mutual
theorem alike_py : ∀ a b : D, alk a b = true → PySem.W.alike (toPy a) (toPy b) = true
  | .bl _, b, h => by cases b <;> first | rfl | (simp [alk] at h)
  | .int _, b, h => by cases b <;> first | rfl | (simp [alk] at h)
  | .str _, b, h => by cases b <;> first | rfl | (simp [alk] at h)
  | .lst xs, b, h => by
    cases b <;> first | (simp [alk] at h; done) | skip
    rename_i ys
    exact alikeAll_py xs ys (by simpa [alk] using h)
  | .tup xs, b, h => by
    cases b <;> first | (simp [alk] at h; done) | skip
    rename_i ys
    exact alikeAll_py xs ys (by simpa [alk] using h)
  | .non, b, h => by cases b <;> simp [alk] at h
  | .ref _, b, h => by cases b <;> simp [alk] at h
  | .exc _ _, b, h => by cases b <;> simp [alk] at h
  | .clo _ _, b, h => by cases b <;> simp [alk] at h
theorem alikeAll_py : ∀ a b : List D, alkAll a b = true → PySem.W.alikeAll (toPys a) (toPys b) = true
  | [], b, _ => by cases b <;> rfl
  | x :: xs, [], _ => rfl
  | x :: xs, y :: ys, h => by
    rw [alkAll, Bool.and_eq_true] at h
    show (PySem.W.alike (toPy x) (toPy y) && PySem.W.alikeAll (toPys xs) (toPys ys)) = true
    rw [alike_py x y h.1, alikeAll_py xs ys h.2]; rfl
end
mutual
theorem alk_swap : ∀ a b : D, alk a b = true → alk b a = true
  | .bl _, b, h => by cases b <;> first | rfl | (simp [alk] at h; done) | (simp [alk])
  | .int _, b, h => by cases b <;> first | rfl | (simp [alk] at h; done) | (simp [alk])
  | .str _, b, h => by cases b <;> first | rfl | (simp [alk] at h; done) | (simp [alk])
  | .lst xs, b, h => by
    cases b <;> first | (simp [alk] at h; done) | skip
    rename_i ys
    rw [alk]; exact alkAll_swap xs ys (by simpa [alk] using h)
  | .tup xs, b, h => by
    cases b <;> first | (simp [alk] at h; done) | skip
    rename_i ys
    rw [alk]; exact alkAll_swap xs ys (by simpa [alk] using h)
  | .non, b, h => by cases b <;> simp [alk] at h
  | .ref _, b, h => by cases b <;> simp [alk] at h
  | .exc _ _, b, h => by cases b <;> simp [alk] at h
  | .clo _ _, b, h => by cases b <;> simp [alk] at h
theorem alkAll_swap : ∀ a b : List D, alkAll a b = true → alkAll b a = true
  | [], b, _ => by cases b <;> simp [alkAll]
  | x :: xs, [], _ => by simp [alkAll]
  | x :: xs, y :: ys, h => by
    rw [alkAll, Bool.and_eq_true] at h
    rw [alkAll, alk_swap x y h.1, alkAll_swap xs ys h.2]; rfl
end
theorem alk_ne {a b : D} (h : alk a b = true) : toPy a ≠ .none := by
  cases a <;> first | (intro e; cases e; done) | (cases b <;> simp [alk] at h)
theorem ltF_ok {a b : D} {r : Bool} (h : ltF a b = some r) : isPlain a = true ∧ isPlain b = true ∧ alk a b = true ∧ r = ltT (ktoks a) (ktoks b) := by
  unfold ltF at h
  split at h
  · rename_i q
    rw [Bool.and_eq_true, Bool.and_eq_true] at q
    cases h
    exact ⟨q.1.1, q.1.2, q.2, rfl⟩
  · cases h
theorem depth_le {d : D} (h : isPlain d = true) : (toPy d).depth ≤ 40 := (plain_py 40 d h).2
theorem cmp_lt (hu : X.A.units + 64 < cLine) : OpR X (compareOp .Lt) (rCmp X.K (cmpF .lt)) := by
  intro pins s σ H x y v u Q I rx ry h
  obtain ⟨O, θ, d1, d2, b, h1, h2, e, q⟩ := h
  have data : ltF d1 d2 = some b → wpAny (model X.prog X.w) X.A (compareOp .Lt v u) (EP X pins σ Q) X.xe s := fun z => by
    obtain ⟨p1, p2, al, rfl⟩ := ltF_ok z
    obtain ⟨as, r1⟩ := Dp.reads I _ x v (repB_dp p1 h1) rx
    obtain ⟨bs, r2⟩ := Dp.reads I _ y u (repB_dp p2 h2) ry
    refine PySem.W.lt_data r1 r2 (alike_py _ _ al) (alk_ne al) ?_ ⟨.bl _, H, I, rfl, ?_⟩
    · have := depth_le p1
      omega
    · rw [dataLt_py]; exact q
  cases d1 <;> cases d2 <;> simp only [cmpF] at e <;> first | exact data e | (cases e; done) | skip
  cases e
  have e1 := h1.int; have e2 := h2.int
  subst e1 e2
  exact op_lt pins s σ H _ _ v u Q I rx ry ⟨_, _, rfl, rfl, q⟩
theorem cmp_le (hu : X.A.units + 64 < cLine) : OpR X (compareOp .LtE) (rCmp X.K (cmpF .le)) := by
  intro pins s σ H x y v u Q I rx ry h
  obtain ⟨O, θ, d1, d2, b, h1, h2, e, q⟩ := h
  have data : (ltF d2 d1).map (!·) = some b → alk d1 d2 = true → wpAny (model X.prog X.w) X.A (compareOp .LtE v u) (EP X pins σ Q) X.xe s := fun z al => by
    cases z' : ltF d2 d1 with
    | none => rw [z'] at z; cases z
    | some b0 =>
      rw [z'] at z
      cases z
      obtain ⟨p2, p1, _, rfl⟩ := ltF_ok z'
      obtain ⟨as, r1⟩ := Dp.reads I _ x v (repB_dp p1 h1) rx
      obtain ⟨bs, r2⟩ := Dp.reads I _ y u (repB_dp p2 h2) ry
      refine PySem.W.le_data r1 r2 (alike_py _ _ al) (alk_ne al) ?_ ⟨.bl _, H, I, rfl, ?_⟩
      · have := depth_le p1
        omega
      · rw [dataLt_py]; exact q
  cases d1 <;> cases d2 <;> simp only [cmpF] at e <;> first | (cases e; done) | skip
  · cases e
    have e1 := h1.int; have e2 := h2.int
    subst e1 e2
    exact op_le pins s σ H _ _ v u Q I rx ry ⟨_, _, rfl, rfl, q⟩
  · refine data e ?_
    cases z' : ltF _ _ with
    | none => rw [z'] at e; cases e
    | some b0 =>
      obtain ⟨_, _, al, _⟩ := ltF_ok z'
      exact alk_swap _ _ al
  · refine data e ?_
    cases z' : ltF _ _ with
    | none => rw [z'] at e; cases e
    | some b0 =>
      obtain ⟨_, _, al, _⟩ := ltF_ok z'
      exact alk_swap _ _ al
theorem ltT_str (a b : List Nat) : ltT (ktoks (.str a)) (ktoks (.str b)) = decide (a < b) := by simp [ktoks, ltT, ltK]
theorem cmp_gt : OpR X (compareOp .Gt) (rCmp X.K (cmpF .gt)) := by
  intro pins s σ H x y v u Q I rx ry h
  obtain ⟨O, θ, d1, d2, b, h1, h2, e, q⟩ := h
  cases d1 <;> cases d2 <;> simp only [cmpF] at e <;> first | (cases e; done) | skip
  · cases e
    have e1 := h1.int; have e2 := h2.int
    subst e1 e2
    exact op_gt pins s σ H _ _ v u Q I rx ry ⟨_, _, rfl, rfl, q⟩
  · obtain ⟨_, _, _, rfl⟩ := ltF_ok e
    have e1 := h1.str; have e2 := h2.str
    subst e1 e2
    refine op_gt_str pins s σ H _ _ v u Q I rx ry ⟨_, _, rfl, rfl, ?_⟩
    rw [ltT_str] at q
    exact q
theorem cmp_ge : OpR X (compareOp .GtE) (rCmp X.K (cmpF .ge)) := by
  intro pins s σ H x y v u Q I rx ry h
  obtain ⟨O, θ, d1, d2, b, h1, h2, e, q⟩ := h
  cases d1 <;> cases d2 <;> simp only [cmpF] at e <;> first | (cases e; done) | skip
  · cases e
    have e1 := h1.int; have e2 := h2.int
    subst e1 e2
    exact op_ge pins s σ H _ _ v u Q I rx ry ⟨_, _, rfl, rfl, q⟩
  · cases z : ltF _ _ with
    | none => rw [z] at e; cases e
    | some b0 =>
      rw [z] at e
      cases e
      obtain ⟨_, _, _, rfl⟩ := ltF_ok z
      have e1 := h1.str; have e2 := h2.str
      subst e1 e2
      refine op_ge_str pins s σ H _ _ v u Q I rx ry ⟨_, _, rfl, rfl, ?_⟩
      rw [ltT_str] at q
      exact q
theorem non_iff {K : PySem.W.Frag} {H : Hp} {O : OSet} {θ : List Addr} {d : D} {v : V} (h : RepB K H O θ d v) : decide (v = V.non) = isNon d := by
  cases d with
  | non => have e := h.non; subst e; rfl
  | bl b => have e := h.bl; subst e; rfl
  | int b => have e := h.int; subst e; rfl
  | str b => have e := h.str; subst e; rfl
  | lst b => obtain ⟨a, vs, rfl, _⟩ := h.lst; rfl
  | tup b => obtain ⟨a, vs, rfl, _⟩ := h.tup; rfl
  | ref n => obtain ⟨a, _, rfl⟩ := h.ref; rfl
  | exc c v => rcases h with ⟨_, a, _, rfl, _⟩ | ⟨_, _, _, e, _⟩; rfl; cases e
  | clo c v => rcases h with ⟨_, _, a, rfl, _⟩ | ⟨_, _, _, e, _⟩; rfl; cases e
theorem cmp_is : OpR X (compareOp .Is) (rCmp X.K (cmpF .is_)) := by
  intro pins s σ H x y v u Q I rx ry h
  obtain ⟨O, θ, d1, d2, b, h1, h2, e, q⟩ := h
  cases d2 <;> simp only [cmpF] at e <;> first | cases e | skip
  have e2 := h2.non
  refine op_isN pins s σ H _ _ v u Q I rx ry ⟨e2, ?_⟩
  rw [non_iff h1]; exact q
theorem cmp_isnot : OpR X (compareOp .IsNot) (rCmp X.K (cmpF .isnot)) := by
  intro pins s σ H x y v u Q I rx ry h
  obtain ⟨O, θ, d1, d2, b, h1, h2, e, q⟩ := h
  cases d2 <;> simp only [cmpF] at e <;> first | cases e | skip
  have e2 := h2.non
  refine op_notN pins s σ H _ _ v u Q I rx ry ⟨e2, ?_⟩
  rw [non_iff h1]; exact q
theorem any_py : ∀ (n m : Nat) (ys : List D) (x : D), plainAll n ys = true → plain m x = true → (toPys ys).any (fun z => PyData.eqv z (toPy x)) = ys.any fun z => eqD z x
  | _, _, [], _, _, _ => rfl
  | n, m, y :: ys, x, h, h' => by
    rw [plainAll, Bool.and_eq_true] at h
    show (PyData.eqv (toPy y) (toPy x) || (toPys ys).any fun z => PyData.eqv z (toPy x)) = (eqD y x || ys.any fun z => eqD z x)
    rw [eq_py n m y x h.1 h', any_py n m ys x h.2 h']
theorem sV_one (c : Nat) : sV [c] = V.str ⟨#[c]⟩ := rfl
theorem cmp_in (hu : X.A.units + 65 < cLine) : OpR X (compareOp .In) (rCmp X.K (cmpF .in_)) := by
  intro pins s σ H x y v u Q I rx ry h
  obtain ⟨O, θ, d1, d2, b, h1, h2, e, q⟩ := h
  simp only [cmpF] at e
  unfold inF at e
  split at e
  · split at e
    · cases e
      have e1 := h1.str; have e2 := h2.str
      subst e1 e2
      refine op_in_sign pins s σ H _ _ v u Q I rx ry ⟨_, _, rfl, rfl, ?_⟩
      simpa using q
    · cases e
  · split at e
    · rename_i hp
      rw [Bool.and_eq_true] at hp
      cases e
      obtain ⟨as, r1⟩ := Dp.reads I _ x v (repB_dp hp.1 h1) rx
      obtain ⟨bs, r2⟩ := Dp.reads I _ y u (repB_dp hp.2 h2) ry
      refine SeqAt.in_list_reads r2 r1 (SeqAt.canLay_of_shaped (plain_shaped hp.2)) (SeqAt.canLay_of_shaped (plain_shaped hp.1)) ?_ ⟨.bl _, H, I, rfl, ?_⟩
      · have := SeqAt.depth_of_shaped (plain_shaped hp.1); omega
      · rw [any_py 39 40 _ _ (by simpa [isPlain, plain] using hp.2) hp.1]; exact q
    · cases e
  · split at e
    · rename_i hp
      rw [Bool.and_eq_true] at hp
      cases e
      obtain ⟨as, r1⟩ := Dp.reads I _ x v (repB_dp hp.1 h1) rx
      obtain ⟨bs, r2⟩ := Dp.reads I _ y u (repB_dp hp.2 h2) ry
      refine SeqAt.in_tuple_reads r2 r1 (SeqAt.canLay_of_shaped (plain_shaped hp.2)) (SeqAt.canLay_of_shaped (plain_shaped hp.1)) ?_ ⟨.bl _, H, I, rfl, ?_⟩
      · have := SeqAt.depth_of_shaped (plain_shaped hp.1); omega
      · rw [any_py 39 40 _ _ (by simpa [isPlain, plain] using hp.2) hp.1]; exact q
    · cases e
  · cases e
theorem cmp_notin (hu : X.A.units + 65 < cLine) : OpR X (compareOp .NotIn) (rCmp X.K (cmpF .notin)) := by
  intro pins s σ H x y v u Q I rx ry h
  obtain ⟨O, θ, d1, d2, b, h1, h2, e, q⟩ := h
  simp only [cmpF] at e
  cases e0 : inF d1 d2 with
  | none => rw [e0] at e; cases e
  | some b0 =>
    rw [e0] at e
    cases e
    unfold inF at e0
    split at e0
    · split at e0
      · cases e0
        have e1 := h1.str; have e2 := h2.str
        subst e1 e2
        refine op_notIn_sign pins s σ H _ _ v u Q I rx ry ⟨_, _, rfl, rfl, ?_⟩
        simpa using q
      · cases e0
    · split at e0
      · rename_i hp
        rw [Bool.and_eq_true] at hp
        cases e0
        obtain ⟨as, r1⟩ := Dp.reads I _ x v (repB_dp hp.1 h1) rx
        obtain ⟨bs, r2⟩ := Dp.reads I _ y u (repB_dp hp.2 h2) ry
        refine SeqAt.notIn_list_reads r2 r1 (SeqAt.canLay_of_shaped (plain_shaped hp.2)) (SeqAt.canLay_of_shaped (plain_shaped hp.1)) ?_ ⟨.bl _, H, I, rfl, ?_⟩
        · have := SeqAt.depth_of_shaped (plain_shaped hp.1); omega
        · rw [any_py 39 40 _ _ (by simpa [isPlain, plain] using hp.2) hp.1]; exact q
      · cases e0
    · split at e0
      · rename_i hp
        rw [Bool.and_eq_true] at hp
        cases e0
        obtain ⟨as, r1⟩ := Dp.reads I _ x v (repB_dp hp.1 h1) rx
        obtain ⟨bs, r2⟩ := Dp.reads I _ y u (repB_dp hp.2 h2) ry
        refine SeqAt.notIn_tuple_reads r2 r1 (SeqAt.canLay_of_shaped (plain_shaped hp.2)) (SeqAt.canLay_of_shaped (plain_shaped hp.1)) ?_ ⟨.bl _, H, I, rfl, ?_⟩
        · have := SeqAt.depth_of_shaped (plain_shaped hp.1); omega
        · rw [any_py 39 40 _ _ (by simpa [isPlain, plain] using hp.2) hp.1]; exact q
      · cases e0
    · cases e0
end
end RC

set_option Elab.async false
set_option linter.all false
set_option autoImplicit false
set_option maxRecDepth 100000
set_option maxHeartbeats 1000000
namespace RC
open PySem PySem.Spec PyProof.Rows L2
/-! ### built-ins called by name -/
def RepsB (K : PySem.W.Frag) (H : Hp) (O : OSet) (θ : List Addr) : List D → List V → Prop
  | [], vs => vs = []
  | d :: ds, vs => ∃ v r, vs = v :: r ∧ RepB K H O θ d v ∧ RepsB K H O θ ds r
theorem RepsB.one {K : PySem.W.Frag} {H : Hp} {O : OSet} {θ : List Addr} {d : D} {vs : List V} (h : RepsB K H O θ [d] vs) : ∃ v, vs = [v] ∧ RepB K H O θ d v := by
  obtain ⟨v, r, e, h1, h2⟩ := h
  have : r = [] := h2
  subst this
  exact ⟨v, e, h1⟩
theorem RepsB.two {K : PySem.W.Frag} {H : Hp} {O : OSet} {θ : List Addr} {d d' : D} {vs : List V} (h : RepsB K H O θ [d, d'] vs) : ∃ v v', vs = [v, v'] ∧ RepB K H O θ d v ∧ RepB K H O θ d' v' := by
  obtain ⟨v, r, e, h1, h2⟩ := h
  obtain ⟨v', e', h3⟩ := RepsB.one h2
  subst e'
  exact ⟨v, v', e, h1, h3⟩
theorem RepsB.ext {K : PySem.W.Frag} {O : OSet} {θ θ' : List Addr} {H H' : Hp} (x : Ext θ θ' H H') : ∀ {ds : List D} {vs : List V}, RepsB K H O θ ds vs → RepsB K H' O θ' ds vs
  | [], _, h => h
  | d :: ds, _, h => by
    obtain ⟨v, r, e, h1, h2⟩ := h
    exact ⟨v, r, e, h1.ext x, RepsB.ext x h2⟩
theorem Reps.allI_of {K : PySem.W.Frag} {H : Hp} {O : OSet} {θ : List Addr} : ∀ {xs : List D} {vs : List V} {ns : List Int}, Reps K H O θ xs vs → allI xs = some ns → vs = ns.map V.int
  | [], _, _, h, e => by
    have : _ = [] := h
    subst this
    cases e; rfl
  | x :: xs, _, ns, h, e => by
    obtain ⟨v, r, rfl, h1, h2⟩ := h
    cases x <;> simp only [allI] at e <;> first | cases e | skip
    cases q : allI xs with
    | none => rw [q] at e; cases e
    | some ms =>
      rw [q] at e
      cases e
      have e1 : v = _ := h1
      rw [e1, Reps.allI_of h2 q]; rfl
theorem Reps.allB_of {K : PySem.W.Frag} {H : Hp} {O : OSet} {θ : List Addr} : ∀ {xs : List D} {vs : List V} {ns : List Bool}, Reps K H O θ xs vs → allB xs = some ns → vs = ns.map V.bl
  | [], _, _, h, e => by
    have : _ = [] := h
    subst this
    cases e; rfl
  | x :: xs, _, ns, h, e => by
    obtain ⟨v, r, rfl, h1, h2⟩ := h
    cases x <;> simp only [allB] at e <;> first | cases e | skip
    cases q : allB xs with
    | none => rw [q] at e; cases e
    | some ms =>
      rw [q] at e
      cases e
      have e1 : v = _ := h1
      rw [e1, Reps.allB_of h2 q]; rfl
theorem Reps.allS_of {K : PySem.W.Frag} {H : Hp} {O : OSet} {θ : List Addr} : ∀ {xs : List D} {vs : List V} {ns : List (List Nat)}, Reps K H O θ xs vs → allS xs = some ns → vs = (ns.map fun s => (⟨s.toArray⟩ : Str)).map V.str
  | [], _, _, h, e => by
    have : _ = [] := h
    subst this
    cases e; rfl
  | x :: xs, _, ns, h, e => by
    obtain ⟨v, r, rfl, h1, h2⟩ := h
    cases x <;> simp only [allS] at e <;> first | cases e | skip
    cases q : allS xs with
    | none => rw [q] at e; cases e
    | some ms =>
      rw [q] at e
      cases e
      have e1 : v = _ := h1
      rw [e1, Reps.allS_of h2 q]; rfl
theorem sumI_eq : ∀ ns : List Int, sumI ns = ns.sum
  | [] => rfl
  | x :: xs => by rw [sumI, sumI_eq xs, List.sum_cons]
theorem maxI_spec : ∀ (ns : List Int) (m : Int), (maxI m ns = m ∨ maxI m ns ∈ ns) ∧ m ≤ maxI m ns ∧ ∀ y, y ∈ ns → y ≤ maxI m ns
  | [], m => ⟨.inl rfl, Int.le_refl _, fun _ h => nomatch h⟩
  | x :: xs, m => by
    obtain ⟨h1, h2, h3⟩ := maxI_spec xs (if x > m then x else m)
    rw [maxI]
    have hz : m ≤ (if x > m then x else m) ∧ x ≤ (if x > m then x else m) := by split <;> omega
    refine ⟨?_, ?_, fun y hy => ?_⟩
    · rcases h1 with h1 | h1
      · rw [h1]
        split
        · exact .inr List.mem_cons_self
        · exact .inl rfl
      · exact .inr (List.mem_cons_of_mem _ h1)
    · omega
    · rcases List.mem_cons.mp hy with rfl | hy
      · omega
      · exact h3 y hy
theorem minI_spec : ∀ (ns : List Int) (m : Int), (minI m ns = m ∨ minI m ns ∈ ns) ∧ minI m ns ≤ m ∧ ∀ y, y ∈ ns → minI m ns ≤ y
  | [], m => ⟨.inl rfl, Int.le_refl _, fun _ h => nomatch h⟩
  | x :: xs, m => by
    obtain ⟨h1, h2, h3⟩ := minI_spec xs (if x < m then x else m)
    rw [minI]
    have hz : (if x < m then x else m) ≤ m ∧ (if x < m then x else m) ≤ x := by split <;> omega
    refine ⟨?_, ?_, fun y hy => ?_⟩
    · rcases h1 with h1 | h1
      · rw [h1]
        split
        · exact .inr List.mem_cons_self
        · exact .inl rfl
      · exact .inr (List.mem_cons_of_mem _ h1)
    · omega
    · rcases List.mem_cons.mp hy with rfl | hy
      · omega
      · exact h3 y hy
/-- the items of a text -/
theorem signs_vals {s : List Nat} {acc : Array Value} (h : ItemsOf (SignAt ⟨s.toArray⟩) acc s.length) : Vals (s.map fun c => V.str ⟨#[c]⟩) acc.toList := by
  obtain ⟨hn, hp⟩ := h
  refine vals_of_at (by simp [hn]) fun j x u e1 e2 => ?_
  have e2' : acc[j]? = some u := by simpa using e2
  have := hp j u e2'
  unfold SignAt at this
  rw [List.getElem?_map] at e1
  cases q : s[j]? with
  | none => rw [q] at e1; cases e1
  | some c =>
    rw [q] at e1
    cases e1
    obtain ⟨c', t, hc, rfl⟩ := this
    have hc' : s[j]? = some c' := by simpa using hc
    rw [q] at hc'
    cases hc'
    exact ⟨t, rfl⟩
theorem reps_signs {K : PySem.W.Frag} {H : Hp} {O : OSet} {θ : List Addr} : ∀ s : List Nat, Reps K H O θ (s.map fun c => D.str [c]) (s.map fun c => V.str ⟨#[c]⟩)
  | [] => rfl
  | c :: r => ⟨_, _, rfl, rfl, reps_signs r⟩
section
variable {X : Cx}
def rCall (K : PySem.W.Frag) (f : List D → Option D) : List V → Hp → VK → Prop := fun xs H Q => ∃ O θ ds d, Tr H O θ ∧ RepsB K H O θ ds xs ∧ f ds = some d ∧ ∀ v H', Same H H' → Rep K H' O θ d v → Q v H'
theorem call_bi {f : Value} {g : List D → Option D} (h : ∀ (pins : List (Addr × Obj)) (s : Shared) (σ : L2.St) (H : Hp) (xs : List V) (us : List Value) (Q : VK) (O : OSet) (θ : List Addr) (ds : List D) (d : D), Inv X pins σ H s → Vals xs us → Tr H O θ → RepsB X.K H O θ ds xs → g ds = some d →
    (∀ v H', Same H H' → Rep X.K H' O θ d v → Q v H') → wpAny (model X.prog X.w) X.A (call f us) (EP X pins σ Q) X.xe s) : CallR X f (rCall X.K g) := by
  intro pins s σ H xs us Q I r q
  obtain ⟨O, θ, ds, d, tr, hr, e, q⟩ := q
  exact h pins s σ H xs us Q O θ ds d I r tr hr e q
theorem bi_len : CallR X (.builtin "len") (rCall X.K (biF .len)) := call_bi fun pins s σ H xs us Q O θ ds d I r tr hr e q => by
  match ds, e with
  | [x], e =>
    obtain ⟨v, rfl, h1⟩ := hr.one
    have e : lenF x = some d := e
    cases x <;> simp only [lenF] at e <;> first | cases e | skip
    · split at e
      · rename_i hz
        cases e
        have e1 := h1.str
        subst e1
        refine call_len_str pins s σ H _ us Q I r ⟨_, rfl, by rw [sV_length, ← SZ_line]; exact hz, ?_⟩
        rw [sV_length]
        exact q _ _ (Same.refl H) rfl
      · cases e
    · cases e
      obtain ⟨a, vs, rfl, t, p⟩ := h1.tup
      refine call_len_seq pins s σ H _ us Q I r ⟨a, vs, rfl, .inr t.sq, ?_⟩
      rw [← p.length]; exact q _ _ (Same.refl H) rfl
    · cases e
      obtain ⟨a, vs, rfl, t, p⟩ := h1.lst
      refine call_len_seq pins s σ H _ us Q I r ⟨a, vs, rfl, .inl (.inl t), ?_⟩
      rw [← p.length]; exact q _ _ (Same.refl H) rfl
theorem bi_abs : CallR X (.builtin "abs") (rCall X.K (biF .abs)) := call_bi fun pins s σ H xs us Q O θ ds d I r tr hr e q => by
  match ds, e with
  | [.int i], e =>
    obtain ⟨v, rfl, h1⟩ := hr.one
    cases e
    have e1 := h1.int
    subst e1
    exact call_abs pins s σ H _ us Q I r ⟨i, rfl, q _ _ (Same.refl H) rfl⟩
theorem log_mil {n : Nat} (h : n < 1000000) : n.log2 < 1920 := by
  by_cases z : n = 0
  · subst z; decide
  · refine (Nat.log2_lt z).mpr (Nat.lt_of_lt_of_le (show n < 2 ^ 20 from by omega) (Nat.pow_le_pow_right (Nat.succ_pos 1) (show 20 ≤ 1920 by omega)))
theorem bi_int : CallR X (.type "int") (rCall X.K (biF .int_)) := call_bi fun pins s σ H xs us Q O θ ds d I r tr hr e q => by
  match ds, e with
  | [.int i], e =>
    obtain ⟨v, rfl, h1⟩ := hr.one
    have e : some (D.int i) = some d := e
    cases e
    have e1 := h1.int
    subst e1
    exact call_int1 pins s σ H _ us Q I r (.inl ⟨_, rfl, q _ _ (Same.refl H) rfl⟩)
  | [.bl b], e =>
    obtain ⟨v, rfl, h1⟩ := hr.one
    have e : some (D.int (if b then 1 else 0)) = some d := e
    cases e
    have e1 := h1.bl
    subst e1
    exact call_int1 pins s σ H _ us Q I r (.inr ⟨_, rfl, q _ _ (Same.refl H) rfl⟩)
theorem bi_str : CallR X (.type "str") (rCall X.K (biF .str_)) := call_bi fun pins s σ H xs us Q O θ ds d I r tr hr e q => by
  match ds, e with
  | [.int i], e =>
    obtain ⟨v, rfl, h1⟩ := hr.one
    have e : (if 0 ≤ i ∧ i < 1000000 then some (D.str ((Nat.toDigits 10 i.toNat).map Char.toNat)) else none) = some d := e
    split at e
    · rename_i hz
      cases e
      have e1 := h1.int
      subst e1
      obtain ⟨n, rfl⟩ : ∃ n : Nat, i = (n : Int) := ⟨i.toNat, by omega⟩
      refine call_str_int pins s σ H _ us Q I r ⟨(n : Int), rfl, log_mil (by omega), q _ _ (Same.refl H) ?_⟩
      show V.str (Str.ofString (toString ((n : Nat) : Int))) = sV _
      rw [SX.num_S]
      rfl
    · cases e
theorem bi_max2 (hc : X.calm = true) : CallR X (.builtin "max") (rCall X.K (biF .max2)) := call_bi fun pins s σ H xs us Q O θ ds d I r tr hr e q => by
  match ds, e with
  | [.int i, .int j], e =>
    obtain ⟨v, v', rfl, h1, h2⟩ := hr.two
    cases e
    have e1 := h1.int; have e2 := h2.int
    subst e1 e2
    exact call_max2 hc pins s σ H _ us Q I r ⟨i, j, rfl, q _ _ (Same.refl H) rfl⟩
theorem bi_min2 (hc : X.calm = true) : CallR X (.builtin "min") (rCall X.K (biF .min2)) := call_bi fun pins s σ H xs us Q O θ ds d I r tr hr e q => by
  match ds, e with
  | [.int i, .int j], e =>
    obtain ⟨v, v', rfl, h1, h2⟩ := hr.two
    cases e
    have e1 := h1.int; have e2 := h2.int
    subst e1 e2
    exact call_min2 hc pins s σ H _ us Q I r ⟨i, j, rfl, q _ _ (Same.refl H) rfl⟩
theorem bi_sum (hc : X.calm = true) : CallR X (.builtin "sum") (rCall X.K (biF .sum)) := call_bi fun pins s σ H xs us Q O θ ds d I r tr hr e q => by
  match ds, e with
  | [.lst ys], e =>
    obtain ⟨v, rfl, h1⟩ := hr.one
    have e : (allI ys).map (fun ns => D.int (sumI ns)) = some d := e
    cases z : allI ys with
    | none => rw [z] at e; cases e
    | some ns =>
      rw [z] at e
      cases e
      obtain ⟨a, vs, rfl, t, p⟩ := h1.lst
      have ev := p.allI_of z
      subst ev
      refine cr_sum hc pins s σ H _ us Q I r ⟨a, ns, rfl, .inl t, ?_⟩
      rw [← sumI_eq]; exact q _ _ (Same.refl H) rfl
theorem bi_all (hc : X.calm = true) : CallR X (.builtin "all") (rCall X.K (biF .all)) := call_bi fun pins s σ H xs us Q O θ ds d I r tr hr e q => by
  match ds, e with
  | [.lst ys], e =>
    obtain ⟨v, rfl, h1⟩ := hr.one
    have e : (allB ys).map (fun ns => D.bl (ns.all id)) = some d := e
    cases z : allB ys with
    | none => rw [z] at e; cases e
    | some ns =>
      rw [z] at e
      cases e
      obtain ⟨a, vs, rfl, t, p⟩ := h1.lst
      have ev := p.allB_of z
      subst ev
      exact cr_all hc pins s σ H _ us Q I r ⟨a, ns, rfl, .inl t, q _ _ (Same.refl H) rfl⟩
theorem bi_any (hc : X.calm = true) : CallR X (.builtin "any") (rCall X.K (biF .any)) := call_bi fun pins s σ H xs us Q O θ ds d I r tr hr e q => by
  match ds, e with
  | [.lst ys], e =>
    obtain ⟨v, rfl, h1⟩ := hr.one
    have e : (allB ys).map (fun ns => D.bl (ns.any id)) = some d := e
    cases z : allB ys with
    | none => rw [z] at e; cases e
    | some ns =>
      rw [z] at e
      cases e
      obtain ⟨a, vs, rfl, t, p⟩ := h1.lst
      have ev := p.allB_of z
      subst ev
      exact cr_any hc pins s σ H _ us Q I r ⟨a, ns, rfl, .inl t, q _ _ (Same.refl H) rfl⟩
theorem bi_max1 (hc : X.calm = true) : CallR X (.builtin "max") (rCall X.K (biF .max1)) := call_bi fun pins s σ H xs us Q O θ ds d I r tr hr e q => by
  match ds, e with
  | [.lst ys], e =>
    obtain ⟨v, rfl, h1⟩ := hr.one
    simp only [biF] at e
    split at e
    · rename_i m ns z
      cases e
      obtain ⟨a, vs, rfl, t, p⟩ := h1.lst
      have ev := p.allI_of z
      subst ev
      refine cr_max hc pins s σ H _ us Q I r ⟨a, m :: ns, rfl, .inl t, Nat.succ_pos _, fun k hk hle => ?_⟩
      obtain ⟨s1, s2, s3⟩ := maxI_spec ns m
      have : maxI m ns ∈ m :: ns := by
        rcases s1 with s1 | s1
        · rw [s1]; exact List.mem_cons_self
        · exact List.mem_cons_of_mem _ s1
      have a1 := hle _ this
      have a2 : k ≤ maxI m ns := by
        rcases List.mem_cons.mp hk with e | e
        · rw [e]; exact s2
        · exact s3 k e
      have : k = maxI m ns := by omega
      rw [this]
      exact q _ _ (Same.refl H) rfl
    · cases e
def minI1 : List D → Option D
  | [.lst xs] => match allI xs with
    | some (m :: ns) => some (.int (minI m ns))
    | _ => none
  | _ => none
theorem bi_minI (hc : X.calm = true) : CallR X (.builtin "min") (rCall X.K minI1) := call_bi fun pins s σ H xs us Q O θ ds d I r tr hr e q => by
  match ds, e with
  | [.lst ys], e =>
    obtain ⟨v, rfl, h1⟩ := hr.one
    simp only [minI1] at e
    split at e
    · rename_i m ns z
      cases e
      obtain ⟨a, vs, rfl, t, p⟩ := h1.lst
      have ev := p.allI_of z
      subst ev
      refine cr_min hc pins s σ H _ us Q I r ⟨a, m :: ns, rfl, .inl t, Nat.succ_pos _, fun k hk hle => ?_⟩
      obtain ⟨s1, s2, s3⟩ := minI_spec ns m
      have : minI m ns ∈ m :: ns := by
        rcases s1 with s1 | s1
        · rw [s1]; exact List.mem_cons_self
        · exact List.mem_cons_of_mem _ s1
      have a1 := hle _ this
      have a2 : minI m ns ≤ k := by
        rcases List.mem_cons.mp hk with e | e
        · rw [e]; exact s2
        · exact s3 k e
      have : k = minI m ns := by omega
      rw [this]
      exact q _ _ (Same.refl H) rfl
    · cases e
theorem bi_list (hc : X.calm = true) : CallR X (.type "list") (rCall X.K (biF .list)) := call_bi fun pins s σ H xs us Q O θ ds d I r tr hr e q => by
  match ds, e with
  | [x], e =>
    obtain ⟨v, rfl, h1⟩ := hr.one
    simp only [biF] at e
    split at e
    · split at e
      · rename_i y hz
        cases e
        have e1 := h1.str
        subst e1
        obtain ⟨u, rfl, t, rfl⟩ := vals1 r
        refine call_list_str (I.ok.hd hc) _ t (fun h' tk acc c kp hg hi => ?_) (by rw [← SZ_line]; simpa using hz)
        have hv := signs_vals (by simpa using hi)
        refine ⟨.ref _, _, I.laid (t' := tk) (o := .lst (y.map fun c => V.str ⟨#[c]⟩)) kp (Nat.le_refl _) ⟨by rw [List.length_map, ← SZ_line]; exact hz, acc.toList, c, hv, by simpa using hg⟩, rfl, ?_⟩
        exact q _ _ (sm_upd I.fresh) (rep_new_lst tr I.fresh (reps_signs y))
      · cases e
    · cases e
      obtain ⟨a, vs, rfl, t, p⟩ := h1.lst
      refine call_list_of pins s σ H _ us Q I r ⟨a, vs, rfl, .inl (.inl t), fun l hl => ?_⟩
      exact q _ _ (sm_upd hl) (rep_new_lst tr hl p)
    · cases e
      obtain ⟨a, vs, rfl, t, p⟩ := h1.tup
      refine call_list_of pins s σ H _ us Q I r ⟨a, vs, rfl, .inr t.sq, fun l hl => ?_⟩
      exact q _ _ (sm_upd hl) (rep_new_lst tr hl p)
    · cases e
theorem bi_tuple (hc : X.calm = true) : CallR X (.type "tuple") (rCall X.K (biF .tuple)) := call_bi fun pins s σ H xs us Q O θ ds d I r tr hr e q => by
  match ds, e with
  | [x], e =>
    obtain ⟨v, rfl, h1⟩ := hr.one
    simp only [biF] at e
    split at e
    · split at e
      · rename_i y hz
        cases e
        have e1 := h1.str
        subst e1
        obtain ⟨u, rfl, t, rfl⟩ := vals1 r
        refine call_tuple_str (I.ok.hd hc) _ t (fun h' tk acc kp hi => ?_) (by rw [← SZ_line]; simpa using hz)
        have hv := signs_vals (by simpa using hi)
        have I1 : Inv X pins σ H { s with heap := h', toks := tk } := I.kept kp
        have hf : H h'.objs.size = none := I1.hok.fresh (Nat.le_refl _)
        refine ⟨.ref _, _, I1.laid (t' := tk) (a := h'.objs.size) (o := .tup (y.map fun c => V.str ⟨#[c]⟩)) (fun b o e => Heap.get?_push_of_some _ e) (Nat.le_refl _) ⟨by rw [List.length_map, ← SZ_line]; exact hz, acc.toList, hv, ⟨_, Heap.get?_push_size _ rfl, rfl, 0, by simp⟩⟩, rfl, ?_⟩
        exact q _ _ (sm_upd hf) (rep_new_tup tr hf (reps_signs y))
      · cases e
    · cases e
      obtain ⟨a, vs, rfl, t, p⟩ := h1.lst
      refine call_tuple_of pins s σ H _ us Q I r ⟨a, vs, rfl, .inl ⟨.inl t, fun l hl => ?_⟩⟩
      exact q _ _ (sm_upd hl) (rep_new_tup tr hl p)
    · cases e
      obtain ⟨a, vs, rfl, t, p⟩ := h1.tup
      refine call_tuple_of pins s σ H _ us Q I r ⟨a, vs, rfl, .inr ⟨t.sq, ?_⟩⟩
      exact q _ _ (Same.refl H) ⟨a, vs, rfl, t, p⟩
    · cases e
end
end RC

set_option Elab.async false
set_option linter.all false
set_option autoImplicit false
set_option maxRecDepth 100000
set_option maxHeartbeats 1000000
namespace RC
open PySem PySem.Spec PyProof.Rows L2
/-! ### methods of texts -/
theorem up_ascii : ∀ c, c < 128 → Unicode.isUpper c = isUp c := by decide +kernel
theorem low_ascii : ∀ c, c < 128 → Unicode.isLower c = isLow c := by decide +kernel
theorem title_ascii : ∀ c, c < 128 → Unicode.isTitle c = false := by decide +kernel
theorem up1_eq (c : Nat) : up1 c = upC c := by
  unfold up1 upC isLow
  by_cases h : 97 ≤ c ∧ c ≤ 122
  · rw [if_pos h]; simp [h.1, h.2]
  · rw [if_neg h]
    have : (decide (97 ≤ c) && decide (c ≤ 122)) = false := by
      rw [Bool.and_eq_false_iff]
      by_cases h1 : 97 ≤ c
      · exact .inr (decide_eq_false fun h2 => h ⟨h1, h2⟩)
      · exact .inl (decide_eq_false h1)
    simp [this]
theorem lo1_eq (c : Nat) : lo1 c = loC c := by
  unfold lo1 loC isUp
  by_cases h : 65 ≤ c ∧ c ≤ 90
  · rw [if_pos h]; simp [h.1, h.2]
  · rw [if_neg h]
    have : (decide (65 ≤ c) && decide (c ≤ 90)) = false := by
      rw [Bool.and_eq_false_iff]
      by_cases h1 : 65 ≤ c
      · exact .inr (decide_eq_false fun h2 => h ⟨h1, h2⟩)
      · exact .inl (decide_eq_false h1)
    simp [this]
theorem asc {s : List Nat} (h : ascii s = true) : ∀ c ∈ (⟨s.toArray⟩ : Str).cps.toList, c < 128 := fun c hc => by
  unfold ascii at h
  rw [List.all_eq_true] at h
  exact of_decide_eq_true (h c (by simpa using hc))
theorem swap_ascii {s : List Nat} (h : ascii s = true) : Txt.swapcase ⟨s.toArray⟩ = ⟨(s.map swC).toArray⟩ := by
  have hA := asc h
  unfold Txt.swapcase
  rw [placed_single ⟨s.toArray⟩ _ swC fun i c hc => ?_]
  · simp
  · have hlt := hA c (List.mem_of_getElem? hc)
    have hc' : (⟨s.toArray⟩ : Str).cps[i]? = some c := by simpa using hc
    rw [up_ascii c hlt, low_ascii c hlt]
    unfold swC
    by_cases h1 : isUp c = true
    · have h2 : isLow c = false := by
        unfold isUp at h1; unfold isLow
        simp at h1 ⊢; omega
      rw [h1, h2]
      simp only [if_true, Bool.false_eq_true, if_false]
      unfold Unicode.lowerAt
      rw [hc']
      have hne : (c == 0x3A3) = false := by rw [beq_eq_false_iff_ne]; omega
      simp only [hne, Bool.false_and, Bool.false_eq_true, if_false]
      rw [lowerOf_ascii c hlt, lo1_eq]
      unfold loC
      rw [h1]; rfl
    · have h1' : isUp c = false := by simpa using h1
      rw [h1']
      simp only [Bool.false_eq_true, if_false]
      by_cases h2 : isLow c = true
      · rw [h2]
        simp only [if_true]
        rw [upperOf_ascii c hlt, up1_eq]
        unfold upC
        rw [h2]; rfl
      · have h2' : isLow c = false := by simpa using h2
        rw [h2']; rfl
theorem upper_asc {s : List Nat} (h : ascii s = true) : Txt.upper ⟨s.toArray⟩ = ⟨(s.map upC).toArray⟩ := by
  rw [upper_ascii (asc h)]
  have : up1 = upC := funext up1_eq
  rw [this]; simp
theorem lower_asc {s : List Nat} (h : ascii s = true) : Txt.lower ⟨s.toArray⟩ = ⟨(s.map loC).toArray⟩ := by
  rw [lower_ascii (asc h)]
  have : lo1 = loC := funext lo1_eq
  rw [this]; simp
theorem any_congr_asc {s : List Nat} {f g : Nat → Bool} (h : ascii s = true) (e : ∀ c, c < 128 → f c = g c) : s.any f = s.any g := by
  unfold ascii at h
  rw [List.all_eq_true] at h
  induction s with
  | nil => rfl
  | cons c r ih =>
    rw [List.any_cons, List.any_cons, e c (of_decide_eq_true (h c List.mem_cons_self)), ih fun x hx => h x (List.mem_cons_of_mem _ hx)]
theorem islower_asc {s : List Nat} (h : ascii s = true) : Txt.islower ⟨s.toArray⟩ = (s.any isLow && !s.any isUp) := by
  unfold Txt.islower
  simp only [List.any_toArray]
  rw [any_congr_asc h low_ascii, any_congr_asc (f := fun c => Unicode.isUpper c || Unicode.isTitle c) (g := isUp) h fun c hc => by rw [up_ascii c hc, title_ascii c hc, Bool.or_false]]
theorem join_eq (sep : List Nat) : ∀ ys : List (List Nat), Txt.join ⟨sep.toArray⟩ (ys.map fun s => (⟨s.toArray⟩ : Str)) = ⟨(joinS sep ys).toArray⟩
  | [] => rfl
  | x :: r => by
    have key : ∀ (r : List (List Nat)) (x : List Nat), (r.map fun s => (⟨s.toArray⟩ : Str)).foldl (fun acc p => acc ++ (⟨sep.toArray⟩ : Str).cps ++ p.cps) x.toArray = (joinS sep (x :: r)).toArray := by
      intro r
      induction r with
      | nil => intro x; rfl
      | cons y r ih =>
        intro x
        rw [List.map_cons, List.foldl_cons]
        have e1 : x.toArray ++ sep.toArray ++ y.toArray = (x ++ sep ++ y).toArray := by simp
        show List.foldl _ (x.toArray ++ sep.toArray ++ y.toArray) _ = _
        rw [e1, ih (x ++ sep ++ y)]
        cases r with
        | nil => simp [joinS]
        | cons z r => simp [joinS]
    have := key r x
    show Builtin.Str.glued _ _ = _
    unfold Builtin.Str.glued
    rw [List.map_cons]
    exact congrArg Str.mk this
section
variable {X : Cx}
def rMt (K : PySem.W.Frag) (m : Mt) : V → List V → Hp → VK → Prop := fun x xs H Q => ∃ O θ d ds r, Tr H O θ ∧ RepB K H O θ d x ∧ RepsB K H O θ ds xs ∧ mtF m d ds = some r ∧ ∀ v H', Same H H' → Rep K H' O θ r v → Q v H'
theorem meth_mt {id : String} {m : Mt} (h : ∀ (pins : List (Addr × Obj)) (s : Shared) (σ : L2.St) (H : Hp) (x : V) (xs : List V) (v : Value) (us : List Value) (Q : VK) (O : OSet) (θ : List Addr) (d : D) (ds : List D) (r : D), Inv X pins σ H s → RelV x v → Vals xs us → Tr H O θ → RepB X.K H O θ d x → RepsB X.K H O θ ds xs → mtF m d ds = some r →
    (∀ v H', Same H H' → Rep X.K H' O θ r v → Q v H') → wpAny (model X.prog X.w) X.A (call (.builtin id) (v :: us)) (EP X pins σ Q) X.xe s) : MtR X id (rMt X.K m) := by
  intro pins s σ H x xs v us Q I rx rs q
  obtain ⟨O, θ, d, ds, r, tr, hd, hr, e, q⟩ := q
  exact h pins s σ H x xs v us Q O θ d ds r I rx rs tr hd hr e q
theorem mt_swapcase : MtR X "str.swapcase" (fun x xs H Q => ∃ a, x = .str a ∧ xs = [] ∧ a.length ≤ 5592405 ∧ Q (.str (Txt.swapcase a)) H) :=
  mt0 (C := fun a => a.length ≤ 5592405) (g := fun a => .str (Txt.swapcase a)) fun a _ s _ hc h => PySem.SC.swapcase (PyProof.Rows.fit_swapcase hc) (h _ (s.toks + 1) ⟨_, rfl⟩)
theorem m_swapcase : MtR X "str.swapcase" (rMt X.K .swapcase) := meth_mt fun pins s σ H x xs v us Q O θ d ds r I rx rs tr hd hr e q => by
  match d, ds, e with
  | .str y, [], e =>
    have e : (if ascii y ∧ y.length ≤ 5000000 then some (D.str (y.map swC)) else none) = some r := e
    split at e
    · rename_i hz
      cases e
      have e1 := hd.str
      have e2 : xs = [] := hr
      subst e1 e2
      refine mt_swapcase pins s σ H _ [] v us Q I rx rs ⟨_, rfl, rfl, by rw [sV_length]; omega, ?_⟩
      rw [swap_ascii hz.1]
      exact q _ _ (Same.refl H) rfl
    · cases e
theorem m_upper : MtR X "str.upper" (rMt X.K .upper) := meth_mt fun pins s σ H x xs v us Q O θ d ds r I rx rs tr hd hr e q => by
  match d, ds, e with
  | .str y, [], e =>
    have e : (if ascii y ∧ y.length ≤ 5000000 then some (D.str (y.map upC)) else none) = some r := e
    split at e
    · rename_i hz
      cases e
      have e1 := hd.str
      have e2 : xs = [] := hr
      subst e1 e2
      refine mt_upper pins s σ H _ [] v us Q I rx rs ⟨_, rfl, rfl, by rw [sV_length]; omega, ?_⟩
      rw [upper_asc hz.1]
      exact q _ _ (Same.refl H) rfl
    · cases e
theorem m_lower : MtR X "str.lower" (rMt X.K .lower) := meth_mt fun pins s σ H x xs v us Q O θ d ds r I rx rs tr hd hr e q => by
  match d, ds, e with
  | .str y, [], e =>
    have e : (if ascii y ∧ y.length ≤ 5000000 then some (D.str (y.map loC)) else none) = some r := e
    split at e
    · rename_i hz
      cases e
      have e1 := hd.str
      have e2 : xs = [] := hr
      subst e1 e2
      refine mt_lower pins s σ H _ [] v us Q I rx rs ⟨_, rfl, rfl, by rw [sV_length]; omega, ?_⟩
      rw [lower_asc hz.1]
      exact q _ _ (Same.refl H) rfl
    · cases e
theorem m_islower : MtR X "str.islower" (rMt X.K .islower) := meth_mt fun pins s σ H x xs v us Q O θ d ds r I rx rs tr hd hr e q => by
  match d, ds, e with
  | .str y, [], e =>
    have e : (if ascii y then some (D.bl (y.any isLow && !y.any isUp)) else none) = some r := e
    split at e
    · rename_i hz
      cases e
      have e1 := hd.str
      have e2 : xs = [] := hr
      subst e1 e2
      refine mt_islower pins s σ H _ [] v us Q I rx rs ⟨_, rfl, rfl, trivial, ?_⟩
      rw [islower_asc hz]
      exact q _ _ (Same.refl H) rfl
    · cases e
theorem map_len (ys : List (List Nat)) : ((ys.map fun s => (⟨s.toArray⟩ : Str)).map (·.length)).sum = (ys.map List.length).sum := by
  rw [List.map_map]
  congr 1
theorem m_join : MtR X "str.join" (rMt X.K .join) := meth_mt fun pins s σ H x xs v us Q O θ d ds r I rx rs tr hd hr e q => by
  match d, ds, e with
  | .str y, [z], e =>
    simp only [mtF] at e
    split at e
    · rename_i zs hzs
      split at e
      · rename_i ys hys
        split at e
        · rename_i hl
          cases e
          have e1 := hd.str
          subst e1
          obtain ⟨w, rfl, hw⟩ := hr.one
          have hlen : ((ys.map fun s => (⟨s.toArray⟩ : Str)).map (·.length)).sum + (ys.map fun s => (⟨s.toArray⟩ : Str)).length * (⟨y.toArray⟩ : Str).length ≤ 16777216 := by
            rw [map_len, List.length_map, sV_length]; exact hl
          cases z with
          | lst z =>
            cases hzs
            obtain ⟨a, vs, rfl, t, p⟩ := hw.lst
            have ev := p.allS_of hys
            subst ev
            refine mt_join pins s σ H _ _ v us Q I rx rs ⟨_, a, _, rfl, rfl, .inl (.inl t), hlen, ?_⟩
            rw [join_eq]; exact q _ _ (Same.refl H) rfl
          | tup z =>
            cases hzs
            obtain ⟨a, vs, rfl, t, p⟩ := hw.tup
            have ev := p.allS_of hys
            subst ev
            refine mt_join pins s σ H _ _ v us Q I rx rs ⟨_, a, _, rfl, rfl, .inr t.sq, hlen, ?_⟩
            rw [join_eq]; exact q _ _ (Same.refl H) rfl
          | _ => cases hzs
        · cases e
      · cases e
    · cases e
end
end RC

set_option Elab.async false
set_option linter.all false
set_option autoImplicit false
set_option maxRecDepth 100000
set_option maxHeartbeats 1000000
namespace RC
open PySem PySem.Spec PyProof.Rows L2
/-! ### a sign's place, a sign's number -/
theorem at_one (s : List Nat) (c i : Nat) : StrLaws.At ⟨s.toArray⟩ ⟨#[c]⟩ (⟨s.toArray⟩ : Str).length i ↔ s[i]? = some c := by
  have := StrLaws.subAt_one ⟨s.toArray⟩ c i
  unfold StrLaws.At
  rw [this]
theorem findC_spec (c : Nat) : ∀ (s : List Nat) (k n : Nat), findC c s k = some n → k ≤ n ∧ s[n - k]? = some c ∧ ∀ j, j < n - k → s[j]? ≠ some c
  | [], _, _, h => by cases h
  | x :: xs, k, n, h => by
    unfold findC at h
    split at h
    · rename_i hx
      cases h
      refine ⟨Nat.le_refl _, by simp [hx], fun j hj => by omega⟩
    · rename_i hx
      obtain ⟨h1, h2, h3⟩ := findC_spec c xs (k + 1) n h
      have e : n - k = (n - (k + 1)) + 1 := by omega
      refine ⟨by omega, by rw [e]; simpa using h2, fun j hj => ?_⟩
      cases j with
      | zero => simpa using hx
      | succ j => rw [List.getElem?_cons_succ]; exact h3 j (by omega)
theorem occ_index {s : List Nat} {c n : Nat} (h : findC c s 0 = some n) : ∃ r, Builtin.Str.occurrences ⟨s.toArray⟩ ⟨#[c]⟩ 0 (⟨s.toArray⟩ : Str).length 1 = n :: r := by
  obtain ⟨_, h2, h3⟩ := findC_spec c s 0 n h
  rcases StrLaws.occ_head ⟨s.toArray⟩ ⟨#[c]⟩ 1 (Nat.le_refl _) with ⟨_, hn⟩ | ⟨i, r, e, ha, hn⟩
  · exact absurd ((at_one s c n).mpr h2) (hn n)
  · have a1 := (at_one s c i).mp ha
    have : i = n := by
      rcases Nat.lt_trichotomy i n with z | z | z
      · exact absurd a1 (h3 i (by omega))
      · exact z
      · exact absurd ((at_one s c n).mpr h2) (hn n z)
    subst this
    exact ⟨r, e⟩
theorem count_drop {s : List Nat} {c : Nat} : ∀ (n a : Nat), (∀ k, a ≤ k → k < a + n → s[k]? ≠ some c) → countC c (s.drop a) = countC c (s.drop (a + n))
  | 0, a, _ => rfl
  | n + 1, a, h => by
    have ih := count_drop (s := s) (c := c) n (a + 1) fun k h1 h2 => h k (by omega) (by omega)
    rw [show a + (n + 1) = a + 1 + n by omega, ← ih]
    cases e : s.drop a with
    | nil =>
      have : s.drop (a + 1) = [] := by
        rw [List.drop_eq_nil_iff] at e ⊢; omega
      rw [this]
    | cons x r =>
      have e1 : s[a]? = some x := by
        have := congrArg (fun l => l[0]?) e
        simpa using this
      have e2 : s.drop (a + 1) = r := by
        have := congrArg (List.drop 1) e
        rw [List.drop_drop] at this
        rw [this]; rfl
      rw [e2]
      have : x ≠ c := fun z => h a (Nat.le_refl _) (by omega) (by rw [e1, z])
      simp only [countC, this, if_false]
theorem count_chain {s : List Nat} {c : Nat} : ∀ (cuts : List Nat) (a f : Nat), StrLaws.ChainG ⟨s.toArray⟩ ⟨#[c]⟩ (⟨s.toArray⟩ : Str).length a cuts f → (∀ k, f ≤ k → s[k]? ≠ some c) → countC c (s.drop a) = cuts.length
  | [], a, f, h, hn => by
    have e : f = a := h
    subst e
    have := count_drop (s := s) (c := c) s.length f fun k h1 _ => hn k h1
    rw [this, List.drop_eq_nil_of_le (by omega)]; rfl
  | d :: r, a, f, h, hn => by
    obtain ⟨h1, h2, h3, h4⟩ := h
    have ih := count_chain r (d + 1) f h4 hn
    have e := count_drop (s := s) (c := c) (d - a) a fun k z1 z2 => fun q => h3 k z1 (by omega) ((at_one s c k).mpr q)
    rw [e, show a + (d - a) = d by omega]
    have hd := (at_one s c d).mp h2
    have hdl : d < s.length := (List.getElem?_eq_some_iff.mp hd).1
    have e2 : s.drop d = c :: s.drop (d + 1) := by
      rw [List.drop_eq_getElem_cons hdl, (List.getElem?_eq_some_iff.mp hd).2]
    rw [e2]
    show (if c = c then countC c (s.drop (d + 1)) + 1 else _) = _
    rw [if_pos rfl, ih, List.length_cons]
theorem txt_count {s : List Nat} {c : Nat} : Txt.count ⟨s.toArray⟩ ⟨#[c]⟩ = (countC c s : Int) := by
  obtain ⟨f, h1, h2⟩ := StrLaws.occ_tight ⟨s.toArray⟩ ⟨#[c]⟩ (Nat.le_refl _)
  have := count_chain _ 0 f h1 fun k hk q => h2 k hk ((at_one s c k).mpr q)
  rw [List.drop_zero] at this
  rw [this]; rfl
section
variable {X : Cx}
theorem m_index : MtR X "str.index" (rMt X.K .index) := meth_mt fun pins s σ H x xs v us Q O θ d ds r I rx rs tr hd hr e q => by
  match d, ds, e with
  | .str y, [.str [c]], e =>
    have e : (findC c y 0).map (fun k => D.int k) = some r := e
    cases z : findC c y 0 with
    | none => rw [z] at e; cases e
    | some n =>
      rw [z] at e
      cases e
      have e1 := hd.str
      obtain ⟨w, rfl, hw⟩ := hr.one
      have e2 := hw.str
      subst e1 e2
      obtain ⟨r, ho⟩ := occ_index z
      exact mt_sindex pins s σ H _ _ v us Q I rx rs ⟨_, _, n, r, rfl, rfl, ho, q _ _ (Same.refl H) rfl⟩
theorem m_count : MtR X "str.count" (rMt X.K .count) := meth_mt fun pins s σ H x xs v us Q O θ d ds r I rx rs tr hd hr e q => by
  match d, ds, e with
  | .str y, [.str [c]], e =>
    cases e
    have e1 := hd.str
    obtain ⟨w, rfl, hw⟩ := hr.one
    have e2 := hw.str
    subst e1 e2
    refine mt_count pins s σ H _ _ v us Q I rx rs ⟨_, _, rfl, rfl, ?_⟩
    have : Txt.count (⟨y.toArray⟩ : Str) ⟨[c].toArray⟩ = (countC c y : Int) := txt_count
    rw [this]
    exact q _ _ (Same.refl H) rfl
/-! ### subscripts and slices -/
theorem atF_eq {α : Type} (xs : List α) (i : Int) : atF xs i = atI xs i := by
  unfold atF atI
  show (match RC.ixN xs.length i with | some k => xs[k]? | none => none) = (L2.ixN xs.length i).bind fun j => xs[j]?
  have : RC.ixN xs.length i = L2.ixN xs.length i := by unfold RC.ixN L2.ixN; rfl
  rw [this]
  cases L2.ixN xs.length i <;> rfl
theorem atF_get {K : PySem.W.Frag} {H : Hp} {O : OSet} {θ : List Addr} {xs : List D} {vs : List V} {i : Int} {d : D} (r : Reps K H O θ xs vs) (h : atF xs i = some d) : ∃ v, atI vs i = some v ∧ Rep K H O θ d v := by
  unfold atF at h
  split at h
  · rename_i k hk
    obtain ⟨v, e, q⟩ := r.get h
    refine ⟨v, ?_, q⟩
    rw [← atF_eq]
    unfold atF
    rw [← r.length, hk]; exact e
  · cases h
theorem ix_data : IxR X (rOp X.K subF2) := by
  intro value slice pins s σ H x y v u Q I rx ry h hs
  obtain ⟨O, θ, d1, d2, d, tr, h1, h2, e, q⟩ := h
  unfold subF2 at e
  split at e
  · split at e
    · rename_i y i hz
      have e1 := h1.str; have e2 := h2.int
      subst e1 e2
      cases z : atF y i with
      | none => rw [z] at e; cases e
      | some c =>
        rw [z] at e
        cases e
        refine ix_str value slice pins s σ H _ _ v u Q I rx ry ⟨_, i, c, rfl, rfl, by rw [sV_length, ← SZ_line]; exact hz, ?_, q _ _ (Same.refl H) rfl⟩ hs
        rw [← atF_eq]; simpa using z
    · cases e
  · have e2 := h2.int
    subst e2
    obtain ⟨a, vs, rfl, t, p⟩ := h1.lst
    obtain ⟨w, hw, hr⟩ := atF_get p e
    exact ix_list value slice pins s σ H _ _ v u Q I rx ry ⟨a, vs, _, w, rfl, rfl, .inl t, hw, q _ _ (Same.refl H) hr⟩ hs
  · have e2 := h2.int
    subst e2
    obtain ⟨a, vs, rfl, t, p⟩ := h1.tup
    obtain ⟨w, hw, hr⟩ := atF_get p e
    exact ix_tup value slice pins s σ H _ _ v u Q I rx ry ⟨a, vs, _, w, rfl, rfl, t.sq, hw, q _ _ (Same.refl H) hr⟩ hs
  · cases e
/-- an item of a shared list -/
theorem ix_shared : IxR X (fun x y H Q => ∃ a ns i k, x = .ref a ∧ y = .int i ∧ H a = some (.lst (ns.map V.int)) ∧ atF ns i = some k ∧ Q (.int k) H) := by
  intro value slice pins s σ H x y v u Q I rx ry h hs
  obtain ⟨a, ns, i, k, rfl, rfl, ha, e, q⟩ := h
  refine ix_list value slice pins s σ H _ _ v u Q I rx ry ⟨a, _, i, .int k, rfl, rfl, SqL.of ha, ?_, q⟩ hs
  rw [← atF_eq]
  unfold atF at e ⊢
  rw [List.length_map]
  split at e
  · rw [List.getElem?_map, e]; rfl
  · cases e
theorem clip_eq (n d : Nat) (o : Option Int) : clipO n d o = HT.sIx n d o := by
  cases o <;> rfl
theorem slcL_cutV (xs : List V) (lo hi : Option Int) : cutV xs lo hi = slcL xs lo hi := by
  unfold cutV slcL cutL
  rw [clip_eq, clip_eq]
theorem slcL_cutS (s : List Nat) (lo hi : Option Int) : cutS ⟨s.toArray⟩ lo hi = ⟨(slcL s lo hi).toArray⟩ := by
  unfold cutS slcL cutL
  rw [sV_length, clip_eq, clip_eq]
theorem Reps.slc {K : PySem.W.Frag} {H : Hp} {O : OSet} {θ : List Addr} {xs : List D} {vs : List V} (r : Reps K H O θ xs vs) (lo hi : Option Int) : Reps K H O θ (slcL xs lo hi) (slcL vs lo hi) := by
  unfold slcL cutL
  rw [r.length]
  exact (r.drop _).take _
theorem sl_data : SlR X (fun x lo hi H Q => ∃ O θ d1 d, Tr H O θ ∧ RepB X.K H O θ d1 x ∧ slcF d1 lo hi = some d ∧ ∀ v H', Same H H' → Rep X.K H' O θ d v → Q v H') := by
  intro pins s σ H x v vl vu lo hi sl Q I rx hs pl pu h
  obtain ⟨O, θ, d1, d, tr, h1, e, q⟩ := h
  unfold slcF at e
  split at e
  · split at e
    · rename_i hz
      cases e
      have e1 := h1.str
      subst e1
      refine sl_str pins s σ H _ v vl vu _ _ sl Q I rx hs pl pu ⟨_, rfl, by rw [sV_length, ← SZ_line]; exact hz, ?_⟩
      rw [slcL_cutS]
      exact q _ _ (Same.refl H) rfl
    · cases e
  · cases e
    obtain ⟨a, vs, rfl, t, p⟩ := h1.lst
    refine sl_list pins s σ H _ v vl vu _ _ sl Q I rx hs pl pu ⟨a, vs, rfl, .inl t, fun l hl => ?_⟩
    rw [slcL_cutV]
    exact q _ _ (sm_upd hl) (rep_new_lst tr hl (p.slc _ _))
  · cases e
    obtain ⟨a, vs, rfl, t, p⟩ := h1.tup
    refine sl_tupA pins s σ H _ v vl vu _ _ sl Q I rx hs pl pu ⟨a, vs, rfl, t.sq, fun hw => ?_, fun hw l hl => ?_⟩
    · have : ∀ xs : List D, xs.length = vs.length → slcL xs lo hi = xs := fun xs hx => by
        unfold slcL cutL
        rw [hx, clip_eq, clip_eq, hw.1, hw.2, List.drop_zero, Nat.sub_zero, ← hx, List.take_length]
      rw [this _ p.length] at q
      exact q _ _ (Same.refl H) ⟨a, vs, rfl, t, p⟩
    · rw [slcL_cutV]
      exact q _ _ (sm_upd hl) (rep_new_tup tr hl (p.slc _ _))
  · cases e
/-- x[::k] of a text, x[::-1] of a list -/
theorem rev_pick (s : List Nat) : (Builtin.Str.strSliceIndices none none (-1) s.length).filterMap (s.toArray[·]?) = s.reverse := by
  have e : Builtin.Str.strSliceIndices none none (-1) s.length = sliceRange ((s.length : Int) - 1) (-1) (-1) := by
    simp [Builtin.Str.strSliceIndices]
  rw [e, PySem.W.krv_sliceRange, PySem.W.krv_range, List.filterMap_reverse]
  have := PySem.W.krv_all s.toArray
  simp only [List.size_toArray] at this
  rw [this]
theorem half_range (n : Nat) : sliceRange 0 (n : Int) 2 = (List.range ((n + 1) / 2)).map fun k => 2 * k := by
  unfold sliceRange
  have h1 : ((2 : Int) > 0) := by decide
  by_cases h : (0 : Int) < n
  · have e : (((n : Int) - 0 + 2 - 1) / 2).toNat = (n + 1) / 2 := by omega
    simp only [h1, if_true, h, e]
    apply List.map_congr_left
    intro k _
    omega
  · have e : n = 0 := by omega
    subst e
    simp
theorem half_pick : ∀ s : List Nat, ((List.range ((s.length + 1) / 2)).map fun k => 2 * k).filterMap (s.toArray[·]?) = halfL s
  | [] => rfl
  | [x] => by
    have e : ([x].length + 1) / 2 = 1 := by simp
    rw [e]
    simp [halfL, List.range_succ]
  | x :: y :: r => by
    have e : ((x :: y :: r).length + 1) / 2 = (r.length + 1) / 2 + 1 := by
      simp only [List.length_cons]; omega
    rw [e, List.range_succ_eq_map, List.map_cons, List.filterMap_cons]
    have e0 : (x :: y :: r).toArray[2 * 0]? = some x := by simp
    rw [e0]
    show x :: _ = x :: halfL r
    congr 1
    rw [← half_pick r, List.map_map, List.filterMap_map, List.filterMap_map]
    have key : ((fun x_1 => (x :: y :: r).toArray[x_1]?) ∘ ((fun k => 2 * k) ∘ Nat.succ)) = ((fun x_1 => r.toArray[x_1]?) ∘ fun k => 2 * k) := by
      funext k
      show (x :: y :: r).toArray[2 * (k + 1)]? = r.toArray[2 * k]?
      have : 2 * (k + 1) = (2 * k + 1) + 1 := by omega
      simp [this]
    rw [key]
/-- x[::k] -/
theorem pe_stp {e st : Expr} {te : TE} {k : Int} {p3 pos : Pos} {R : V → Hp → VK → Prop} (hk : k ≠ 0) (he : PE X e te) (hst : PE X st (tC (.int k)))
    (hs : ∀ o i, subscripted (.Slice none none (some st) p3) false o i = operate [o, i] (getItem o i))
    (hr : ∀ (pins : List (Addr × Obj)) (s : Shared) (σ : L2.St) (H : Hp) (x : V) (v vs : Value) (sl : Addr) (t : Tok) (Q : VK), Inv X pins σ H s → RelV x v → vs = .int k t → s.heap.IsSliceOf sl .none .none vs → R x H Q →
      ∃ T id, typeLookup (.type T) "__getitem__" = pure (some (.builtin id)) ∧ s.TypeIs v T ∧ wpAny (model X.prog X.w) X.A (getItem v (.ref sl)) (EP X pins σ Q) X.xe s) :
    PE X (.Subscript e (.Slice none none (some st) p3) pos) (fun σ H Q => te σ H fun x H1 => R x H1 Q) := by
  refine ⟨fun pins s σ H Q I h => ?_⟩
  refine Subscript_ (thn (he.run pins s σ H _ I h) fun v s1 ⟨x, H1, I1, r1, q1⟩ => ?_)
  have hst' : PO X (some st) (tPart (tC (.int k))) := po_some hst
  refine wpAny_Slice (thn (po_none.run pins s1 σ H1 (fun o H2 => o = none ∧ H2 = H1) I1 ⟨rfl, rfl⟩) fun vl s2 ⟨l, H2, I2, pl, el, e2⟩ => ?_)
  subst el e2
  refine thn (po_none.run pins s2 σ H2 (fun o H3 => o = none ∧ H3 = H2) I2 ⟨rfl, rfl⟩) fun vu s3 ⟨u, H3, I3, pu, eu, e3⟩ => ?_
  subst eu e3
  refine thn (hst'.run pins s3 σ H3 (fun o H4 => o = some k ∧ H4 = H3) I3 ⟨k, rfl, rfl, rfl⟩) fun vs s4 ⟨o, H4, I4, ps, eo, e4⟩ => ?_
  subst eo e4
  cases pl; cases pu
  obtain ⟨l, rfl, el⟩ := IsPart.raw ps
  cases l with
  | none => cases el
  | some p =>
    obtain ⟨k', t⟩ := p
    have ek : k' = k := by simpa using el
    subst ek
    have I5 : Inv X pins σ H4 { s4 with heap := s4.heap.push { cls := .type "slice", data := .fields #[.none, .none, partValue (some (k', t))] } } := I4.kept (t' := s4.toks) fun b ob q => Heap.get?_push_of_some _ q
    obtain ⟨T, id, h1, h2, h3⟩ := hr pins _ σ H4 x v (.int k' t) s4.heap.objs.size t Q I5 r1 rfl (Heap.IsSliceOf.new _ _ _ _) q1
    exact tail_any (ops := [v, .ref s4.heap.objs.size]) h2 h1 h3 (hs _ _)
end
end RC

set_option Elab.async false
set_option linter.all false
set_option autoImplicit false
set_option maxRecDepth 100000
set_option maxHeartbeats 1000000
/-! Parts of a text; a text's beginning. -/
namespace RC
open PySem PySem.Spec PyProof.Rows L2
theorem splitC_free {c : Nat} : ∀ {p : List Nat}, c ∉ p → splitC c p = [p]
  | [], _ => rfl
  | x :: p, h => by
    have h1 : ¬ x = c := fun e => h (by rw [e]; exact List.mem_cons_self)
    rw [splitC, if_neg h1, splitC_free fun q => h (List.mem_cons_of_mem _ q)]
theorem splitC_cut {c : Nat} {r : List Nat} : ∀ {p : List Nat}, c ∉ p → splitC c (p ++ c :: r) = p :: splitC c r
  | [], _ => by rw [List.nil_append, splitC, if_pos rfl]
  | x :: p, h => by
    have h1 : ¬ x = c := fun e => h (by rw [e]; exact List.mem_cons_self)
    rw [List.cons_append, splitC, if_neg h1, splitC_cut fun q => h (List.mem_cons_of_mem _ q)]
theorem splitC_join {c : Nat} : ∀ {ps : List (List Nat)}, ps ≠ [] → (∀ p ∈ ps, c ∉ p) → splitC c (joinS [c] ps) = ps
  | [], h, _ => absurd rfl h
  | [p], _, h => splitC_free (h p List.mem_cons_self)
  | p :: q :: r, _, h => by
    have e : joinS [c] (p :: q :: r) = p ++ c :: joinS [c] (q :: r) := by rw [joinS]; simp
    rw [e, splitC_cut (h p List.mem_cons_self), splitC_join (by simp) fun x hx => h x (List.mem_cons_of_mem _ hx)]
theorem sjoin_eq (c : Nat) : ∀ ps : List (List Nat), Str.join ⟨#[c]⟩ (ps.map fun p => (⟨p.toArray⟩ : Str)) = ⟨(joinS [c] ps).toArray⟩
  | [] => rfl
  | [p] => rfl
  | p :: q :: r => by
    have ih := sjoin_eq c (q :: r)
    show (⟨p.toArray⟩ : Str) ++ ⟨#[c]⟩ ++ Str.join ⟨#[c]⟩ ((q :: r).map fun p => (⟨p.toArray⟩ : Str)) = _
    rw [ih]
    have e : joinS [c] (p :: q :: r) = p ++ [c] ++ joinS [c] (q :: r) := by rw [joinS]
    rw [e]
    show (⟨p.toArray ++ #[c] ++ (joinS [c] (q :: r)).toArray⟩ : Str) = _
    simp
theorem split_eq (s : List Nat) (c : Nat) : Txt.split ⟨s.toArray⟩ ⟨#[c]⟩ = (splitC c s).map fun p => (⟨p.toArray⟩ : Str) := by
  have hj := PySem.StrLaws.join_split ⟨s.toArray⟩ ⟨#[c]⟩
  have hf := PySem.StrLaws.split_free ⟨s.toArray⟩ c
  have hp := PyProof.Rows.split_pos ⟨s.toArray⟩ ⟨#[c]⟩
  generalize Txt.split ⟨s.toArray⟩ ⟨#[c]⟩ = L at *
  have e1 : L = (L.map fun p => p.cps.toList).map fun p => (⟨p.toArray⟩ : Str) := by
    rw [List.map_map]
    conv => lhs; rw [← List.map_id L]
    exact List.map_congr_left fun p _ => by cases p; rfl
  have e2 : joinS [c] (L.map fun p => p.cps.toList) = s := by
    have := sjoin_eq c (L.map fun p => p.cps.toList)
    rw [← e1, hj] at this
    have := congrArg (fun z : Str => z.cps.toList) this
    simpa using this.symm
  have e3 : splitC c s = L.map fun p => p.cps.toList := by
    rw [← e2]
    refine splitC_join (fun e => ?_) fun p hp' => ?_
    · have := congrArg List.length e
      simp at this
      rw [this] at hp
      simp at hp
    · obtain ⟨q, hq, rfl⟩ := List.mem_map.mp hp'
      exact hf q hq
  rw [e3]
  exact e1
section
variable {X : Cx}
theorem reps_strs {K : PySem.W.Frag} {H : Hp} {O : OSet} {θ : List Addr} : ∀ l : List (List Nat), Reps K H O θ (l.map .str) ((l.map fun p => (⟨p.toArray⟩ : Str)).map V.str)
  | [] => rfl
  | c :: r => ⟨_, _, rfl, rfl, reps_strs r⟩
theorem m_split : MtR X "str.split" (rMt X.K .split) := meth_mt fun pins s σ H x xs v us Q O θ d ds r I rx rs tr hd hr e q => by
  match d, ds, e with
  | .str y, [.str [c]], e =>
    simp only [mtF] at e
    split at e
    · rename_i hl
      cases e
      have e1 := hd.str
      subst e1
      obtain ⟨w, rfl, hw⟩ := hr.one
      have e2 := hw.str
      subst e2
      refine mt_split pins s σ H _ _ v us Q I rx rs ⟨_, ⟨#[c]⟩, rfl, rfl, rfl, ?_, fun p hp => ?_⟩
      · rw [sV_length, ← SZ_line]; unfold SZ; omega
      · rw [split_eq]
        exact q _ _ (sm_upd hp) (rep_new_lst tr hp (reps_strs _))
    · cases e
theorem startswith_eq (s t : List Nat) : Txt.startswith ⟨s.toArray⟩ ⟨t.toArray⟩ = decide (s.take t.length = t) := by
  have e : Txt.startswith ⟨s.toArray⟩ ⟨t.toArray⟩ = (decide (0 + t.length ≤ s.length) && Builtin.Str.subAt ⟨s.toArray⟩ ⟨t.toArray⟩ 0) := by
    unfold Txt.startswith Str.length
    simp
  rw [e, StrLaws.subAt_eq]
  have e2 : (⟨t.toArray⟩ : Str).length = t.length := by simp [Str.length]
  rw [e2]
  show (decide (0 + t.length ≤ s.length) && ((s.drop 0).take t.length == t)) = _
  rw [List.drop_zero]
  by_cases h : s.take t.length = t
  · have hl := congrArg List.length h
    rw [List.length_take] at hl
    have : 0 + t.length ≤ s.length := by omega
    simp [h, this]
    omega
  · have hb : (s.take t.length == t) = false := beq_eq_false_iff_ne.mpr h
    simp [h, hb]
theorem m_startswith : MtR X "str.startswith" (rMt X.K .startswith) := meth_mt fun pins s σ H x xs v us Q O θ d ds r I rx rs tr hd hr e q => by
  match d, ds, e with
  | .str y, [.str z], e =>
    simp only [mtF] at e
    cases e
    have e1 := hd.str
    subst e1
    obtain ⟨w, rfl, hw⟩ := hr.one
    have e2 := hw.str
    subst e2
    refine mt_startswith pins s σ H _ _ v us Q I rx rs ⟨_, _, rfl, rfl, ?_⟩
    rw [startswith_eq]
    exact q _ _ (Same.refl H) rfl
end
end RC

set_option Elab.async false
set_option linter.all false
set_option autoImplicit false
set_option maxRecDepth 100000
set_option maxHeartbeats 1000000
namespace RC
open PySem PySem.Spec PyProof.Rows L2
section
open HT
variable {prog : Program} {w : World} {A : Around} {E : Value → Shared → Prop} {s : Shared}
theorem sliceApplied_rev {sl : Addr} {t : Tok} {n : Nat} {Q : Int × Int × Nat → Shared → Prop} (hs : s.heap.IsSliceOf sl .none .none (.int (-1) t))
    (h : Q ((n : Int) - 1, -1, n) s) : wpAny (model prog w) A (Builtin.Slice.sliceApplied (.ref sl) (pure (n : Int))) Q E s := by
  obtain ⟨os, hos, hcs, hds⟩ := id hs
  unfold Builtin.Slice.sliceApplied Builtin.Slice.sliceFields
  refine wpAny_bind (wpAny_bind (wpAny_field hos hds (x := .none) rfl (wpAny_bind (wpAny_field hos hds (x := .none) rfl (wpAny_bind (wpAny_field hos hds (x := .int (-1) t) rfl (wpAny_pure ?_)))))))
  refine wpAny_bind (slicePart_ (IsPart.int (-1) t) ?_)
  show wpAny _ _ (if ((-1 : Int) == 0) = true then _ else _) _ _ s
  rw [if_neg (by decide)]
  refine wpAny_bind (slicePart_ .none (wpAny_bind (slicePart_ .none (wpAny_bind (wpAny_pure ?_)))))
  show wpAny _ _ (match Builtin.Slice.sliceAdjust none none (-1) (n : Int) with | (lo, hi) => pure (lo, (-1 : Int), Builtin.Slice.slicePlaces lo hi (-1))) _ _ s
  have e1 : Builtin.Slice.sliceAdjust none none (-1) (n : Int) = ((n : Int) - 1, -1) := by
    unfold Builtin.Slice.sliceAdjust
    simp
  rw [e1]
  show wpAny _ _ (pure ((n : Int) - 1, (-1 : Int), Builtin.Slice.slicePlaces ((n : Int) - 1) (-1) (-1))) _ _ s
  have e2 : Builtin.Slice.slicePlaces ((n : Int) - 1) (-1) (-1) = n := by
    unfold Builtin.Slice.slicePlaces
    rw [if_neg (by decide)]
    split <;> simp <;> omega
  rw [e2]
  exact wpAny_pure h
theorem pick_rev (xs : Array Value) : ((List.range xs.size).filterMap fun (m : Nat) => xs[(((xs.size : Int) - 1) + (m : Int) * (-1)).toNat]?).toArray = xs.toList.reverse.toArray := by
  congr 1
  have h1 : ((List.range xs.size).filterMap fun (m : Nat) => xs[(((xs.size : Int) - 1) + (m : Int) * (-1)).toNat]?) = (List.range xs.size).map fun m => xs.toList.reverse.getD m .none := by
    have : ∀ l : List Nat, (∀ m ∈ l, m < xs.size) → (l.filterMap fun (m : Nat) => xs[(((xs.size : Int) - 1) + (m : Int) * (-1)).toNat]?) = l.map fun m => xs.toList.reverse.getD m .none := by
      intro l
      induction l with
      | nil => intro _; rfl
      | cons m l ih =>
        intro h
        have hm := h m (.head _)
        have e : (((xs.size : Int) - 1) + (m : Int) * (-1)).toNat = xs.size - 1 - m := by omega
        have e3 : xs[xs.size - 1 - m]? = some (xs.toList.reverse.getD m .none) := by
          rw [List.getD_eq_getElem?_getD, List.getElem?_reverse (by simpa using hm)]
          rw [Array.length_toList, ← Array.getElem?_toList, List.getElem?_eq_getElem (by rw [Array.length_toList]; omega)]
          rfl
        rw [List.filterMap_cons, e, e3]
        simp only [List.map_cons]
        rw [ih fun x hx => h x (.tail _ hx)]
    exact this _ fun m hm => by simpa using hm
  rw [h1]
  apply List.ext_getElem?
  intro i
  rw [List.getElem?_map]
  by_cases hi : i < xs.size
  · rw [List.getElem?_range hi, Option.map_some, List.getD_eq_getElem?_getD, List.getElem?_eq_getElem (by simpa using hi)]
    rfl
  · rw [List.getElem?_eq_none (by simpa using hi), List.getElem?_eq_none (by simpa using hi)]
    rfl
theorem getItem_tuple_rev {t sl : Addr} {items : Array Value} {u : Tok} {Q : Value → Shared → Prop} (ht : IsTup s.heap t items) (hs : s.heap.IsSliceOf sl .none .none (.int (-1) u))
    (h : Q (.ref s.heap.objs.size) { s with heap := s.heap.push { cls := .type "tuple", data := .seq items.toList.reverse.toArray } })
    (hsz : items.size ≤ sizeLine) : wpAny (model prog w) A (getItem (.ref t) (.ref sl)) Q E s := by
  have htake : sizeOk (.seq items.toList.reverse.toArray) := by
    show items.toList.reverse.toArray.size ≤ sizeLine
    rw [List.size_toArray, List.length_reverse, Array.length_toList]
    omega
  obtain ⟨os, hos, hcs, hds⟩ := id hs
  have hTs : s.TypeIs (.ref sl) "slice" := ⟨os, hos, hcs⟩
  unfold getItem
  try with_reducible refine wpAny_holding ?_
  first | refine wpAny_bind (wpAny_pure ?_) | skip
  refine wpAny_bind (wpAny_sequenceKey ht.typeIs (by decide) ?_)
  refine wpAny_bind (wpAny_callSpecial?_slot (name := Str.ofString "__getitem__") ht.typeIs PyProof.Rows.slot_tuple_getitem
    (wpAny_call_entry PyProof.Rows.slot_tuple_getitem ht.typeIs entry_tuple_getitem ?_ (args_tuple_getitem _ _)))
  show wpAny _ _ (Builtin.Tuple.tupleItemsOf (.ref t) >>= _) _ _ s
  refine wpAny_bind (tupleItemsOf_ ht ?_)
  refine wpAny_bind (wpAny_typeOf hTs ?_)
  rw [if_pos (by decide)]
  refine wpAny_bind (sliceApplied_rev hs ?_)
  have hno : ¬ ((((items.size : Int) - 1) == 0 && (-1 : Int) == 1 && items.size == items.size) = true) := by
    intro q
    rw [Bool.and_eq_true, Bool.and_eq_true] at q
    exact absurd q.1.2 (by decide)
  show wpAny _ _ (if (((items.size : Int) - 1) == 0 && (-1 : Int) == 1 && items.size == items.size) = true then _ else _) _ _ s
  rw [if_neg hno, pick_rev]
  first
    | exact wpAny_bind (m := Builtin.Tuple.tupleExact _) (wpAny_newObj_type (wpAny_pure ⟨_, rfl, wpAny_pure h⟩) htake)
    | exact wpAny_bind (m := Builtin.Tuple.tupleExact _) (wpAny_newObj_type (wpAny_bind (wpAny_pure (wpAny_pure ⟨_, rfl, wpAny_pure h⟩))) htake)
    | exact wpAny_bind (wpAny_bind (m := Builtin.Tuple.tupleExact _) (wpAny_newObj_type (wpAny_pure (wpAny_pure ⟨_, rfl, wpAny_pure h⟩)) htake))
    | exact wpAny_bind (wpAny_bind (m := Builtin.Tuple.tupleExact _) (wpAny_newObj_type (wpAny_pure ⟨_, rfl, wpAny_pure h⟩) htake))
end
section
variable {X : Cx}
def rRev (K : PySem.W.Frag) : V → Hp → VK → Prop := fun x H Q => ∃ O θ d1 d, Tr H O θ ∧ RepB K H O θ d1 x ∧ revF d1 = some d ∧ ∀ v H', Same H H' → Rep K H' O θ d v → Q v H'
def rHalf (K : PySem.W.Frag) : V → Hp → VK → Prop := fun x H Q => ∃ O θ d1 d, Tr H O θ ∧ RepB K H O θ d1 x ∧ halfF d1 = some d ∧ ∀ v H', Same H H' → Rep K H' O θ d v → Q v H'
theorem rev_rule (pins : List (Addr × Obj)) (s : Shared) (σ : L2.St) (H : Hp) (x : V) (v vs : Value) (sl : Addr) (t : Tok) (Q : VK) (I : Inv X pins σ H s) (rx : RelV x v) (evs : vs = .int (-1) t) (hsl : s.heap.IsSliceOf sl .none .none vs) (h : rRev X.K x H Q) :
    ∃ T id, typeLookup (.type T) "__getitem__" = pure (some (.builtin id)) ∧ s.TypeIs v T ∧ wpAny (model X.prog X.w) X.A (getItem v (.ref sl)) (EP X pins σ Q) X.xe s := by
  obtain ⟨O, θ, d1, d, tr, h1, e, q⟩ := h
  unfold revF at e
  split at e
  · split at e
    · rename_i y hz
      cases e
      have e1 := h1.str
      subst e1
      obtain ⟨tx, rfl⟩ := rx
      subst evs
      obtain ⟨os, hos, hcs, hds⟩ := hsl
      refine ⟨"str", _, F.slot_str_getitem.lookup, typeIs_str _ _ _, ?_⟩
      refine wpAny_getItem_str_slice (l := none) (u := none) (st := some (-1, t)) ⟨os, hos, hcs, hds⟩ rfl ?_
      have e2 : sliceMade (⟨y.toArray⟩ : Str) tx none none (some (-1, t)) = Made.str ⟨y.reverse.toArray⟩ := by
        show (if ((-1 : Int) == 1 && _) = true then _ else Made.str ⟨((slicePicked _ none none (some (-1, t))).filterMap _).toArray⟩) = _
        rw [if_neg (by simp)]
        have := rev_pick y
        show Made.str ⟨(List.filterMap _ (Builtin.Str.strSliceIndices none none (-1) (⟨y.toArray⟩ : Str).length)).toArray⟩ = _
        rw [sV_length, this]
      rw [e2]
      refine ⟨?_, .str _, H, I.tok _, ⟨_, rfl⟩, q _ _ (Same.refl H) rfl⟩
      rw [sV_length, List.length_reverse, ← SZ_line]; exact hz
    · cases e
  · cases e
    obtain ⟨a, vs', rfl, rd, p⟩ := h1.lst
    cases rx
    subst evs
    obtain ⟨its, r, ht, hz⟩ := I.list (a := a) (xs := vs') (.inl rd)
    have hlen := r.length
    refine ⟨"list", _, PySem.slot_list_getitem.lookup, ht.isList.typeIs, ?_⟩
    refine wpAny_getItem_list_slice ht.isList hsl .none .none (.int (-1) t) (by decide) ?_ (by rw [List.size_toArray]; omega)
    rw [PySem.W.krv_pick]
    refine ⟨.ref _, _, I.laid (t' := s.toks) (o := .lst vs'.reverse) (fun b ob q => Heap.get?_push_of_some _ q) (Nat.le_refl _) ⟨by rw [List.length_reverse]; exact hz, _, 0, r.reverse, Heap.get?_push_size _ rfl⟩, rfl, ?_⟩
    exact q _ _ (sm_upd I.fresh) (rep_new_lst tr I.fresh p.reverse)
  · cases e
    obtain ⟨a, vs', rfl, rd, p⟩ := h1.tup
    cases rx
    subst evs
    obtain ⟨its, r, ht, hz⟩ := I.tuple rd.sq
    have hlen := r.length
    refine ⟨"tuple", _, PyProof.Rows.slot_tuple_getitem.lookup, ht.typeIs, ?_⟩
    refine getItem_tuple_rev ht hsl ?_ (by rw [List.size_toArray]; omega)
    refine ⟨.ref _, _, I.laid (t' := s.toks) (o := .tup vs'.reverse) (fun b ob q => Heap.get?_push_of_some _ q) (Nat.le_refl _) ⟨by rw [List.length_reverse]; exact hz, _, r.reverse, IsTup.new _ _⟩, rfl, ?_⟩
    exact q _ _ (sm_upd I.fresh) (rep_new_tup tr I.fresh p.reverse)
  · cases e
theorem half_len : ∀ s : List Nat, (halfL s).length ≤ s.length
  | [] => Nat.le_refl _
  | [_] => Nat.le_refl _
  | x :: y :: r => by
    have := half_len r
    show (halfL r).length + 1 ≤ r.length + 1 + 1
    omega
theorem half_rule (pins : List (Addr × Obj)) (s : Shared) (σ : L2.St) (H : Hp) (x : V) (v vs : Value) (sl : Addr) (t : Tok) (Q : VK) (I : Inv X pins σ H s) (rx : RelV x v) (evs : vs = .int 2 t) (hsl : s.heap.IsSliceOf sl .none .none vs) (h : rHalf X.K x H Q) :
    ∃ T id, typeLookup (.type T) "__getitem__" = pure (some (.builtin id)) ∧ s.TypeIs v T ∧ wpAny (model X.prog X.w) X.A (getItem v (.ref sl)) (EP X pins σ Q) X.xe s := by
  obtain ⟨O, θ, d1, d, tr, h1, e, q⟩ := h
  unfold halfF at e
  split at e
  · split at e
    · rename_i y hz
      cases e
      have e1 := h1.str
      subst e1
      obtain ⟨tx, rfl⟩ := rx
      subst evs
      obtain ⟨os, hos, hcs, hds⟩ := hsl
      refine ⟨"str", _, F.slot_str_getitem.lookup, typeIs_str _ _ _, ?_⟩
      refine wpAny_getItem_str_slice (l := none) (u := none) (st := some (2, t)) ⟨os, hos, hcs, hds⟩ rfl ?_
      have e2 : sliceMade (⟨y.toArray⟩ : Str) tx none none (some (2, t)) = Made.str ⟨(halfL y).toArray⟩ := by
        show (if ((2 : Int) == 1 && _) = true then _ else Made.str ⟨((slicePicked _ none none (some (2, t))).filterMap _).toArray⟩) = _
        rw [if_neg (by simp)]
        have := half_pick y
        show Made.str ⟨(List.filterMap _ (Builtin.Str.strSliceIndices none none 2 (⟨y.toArray⟩ : Str).length)).toArray⟩ = _
        have e3 : Builtin.Str.strSliceIndices none none 2 y.length = sliceRange 0 (y.length : Int) 2 := by
          simp [Builtin.Str.strSliceIndices]
        rw [sV_length, e3, half_range, this]
      rw [e2]
      refine ⟨?_, .str _, H, I.tok _, ⟨_, rfl⟩, q _ _ (Same.refl H) rfl⟩
      have := half_len y
      rw [sV_length, ← SZ_line]; omega
    · cases e
  · cases e
theorem mul_texts {pins : List (Addr × Obj)} {s : Shared} {σ : L2.St} {H : Hp} {Q : VK} {y : List Nat} {n : Int} {t u : Tok} (I : Inv X pins σ H s) (h0 : 0 ≤ n) (h1 : n < 100000) (hz : y.length * n.toNat ≤ sizeLine)
    (q : Q (sV (rep n.toNat y)) H) : wpAny (model X.prog X.w) X.A (binaryOp .Mult (.str ⟨y.toArray⟩ t) (.int n u)) (EP X pins σ Q) X.xe s := by
  have hl : sizeLine = 16777216 := sizeLine_eq
  refine PySem.P.mul_str ?_ (fun h2 h3 => ?_) (fun h2 h3 => ?_) ?_
  · rw [decide_eq_false (by omega), decide_eq_false (by omega)]; rfl
  · rw [sV_length]
    have hn : 2 ≤ n := by
      have : (n == 1) = false := by
        cases z : n == 1 with
        | false => rfl
        | true => rw [z] at h3; cases h3
      have := beq_eq_false_iff_ne.mp this
      omega
    have : y.length ≤ 16777216 := by
      have : y.length * 1 ≤ y.length * n.toNat := Nat.mul_le_mul_left _ (by omega)
      omega
    have h4 : (92233720368547 : Int) ≤ (2 ^ 63 - 1) / n := by
      rw [Int.le_ediv_iff_mul_le (by omega)]
      omega
    omega
  · refine short24 ?_
    rw [sV_length]; omega
  · by_cases c1 : n < 1
    · rw [if_pos c1]
      have : n = 0 := by omega
      subst this
      exact ⟨by decide, .str _, H, I.tok _, ⟨_, rfl⟩, q⟩
    · rw [if_neg c1]
      by_cases c2 : (n == 1 || (⟨y.toArray⟩ : Str).length == 0) = true
      · rw [if_pos c2]
        have e : rep n.toNat y = y := by
          rcases Bool.or_eq_true_iff.mp c2 with z | z
          · have : n = 1 := by simpa using z
            subst this
            show y ++ rep 0 y = y
            exact List.append_nil _
          · rw [sV_length] at z
            have : y = [] := List.eq_nil_of_length_eq_zero (by simpa using z)
            subst this
            generalize n.toNat = m
            induction m with
            | zero => rfl
            | succ m ih => exact ih
        rw [e] at q
        exact ⟨.str _, H, I, ⟨t, rfl⟩, q⟩
      · rw [if_neg c2]
        have e : ∀ (m : Nat) (acc : Array Nat), (List.replicate m y.toArray).foldl (· ++ ·) acc = acc ++ (rep m y).toArray := by
          intro m
          induction m with
          | zero => intro acc; simp [rep]
          | succ m ih =>
            intro acc
            rw [List.replicate_succ, List.foldl_cons, ih]
            simp [rep]
        have e' := e n.toNat #[]
        rw [Array.empty_append] at e'
        refine ⟨?_, .str _, H, I.tok _, ⟨_, rfl⟩, ?_⟩
        · show ((List.replicate n.toNat y.toArray).foldl (· ++ ·) #[]).size ≤ _
          rw [e']
          have : (rep n.toNat y).length = y.length * n.toNat := by
            rw [rep_eq]; simp [Nat.mul_comm]
          simp only [List.size_toArray, this]
          exact hz
        · show Q (.str ⟨(List.replicate n.toNat y.toArray).foldl (· ++ ·) #[]⟩) H
          rw [e']; exact q

theorem mul_lists {pins : List (Addr × Obj)} {s : Shared} {σ : L2.St} {H : Hp} {Q : VK} {l : Addr} {xs : List V} {n : Int} {t : Tok} (I : Inv X pins σ H s) (hH : Rd H l (.lst xs)) (h0 : 0 ≤ n) (h1 : n < 100000) (hz : xs.length * n.toNat ≤ sizeLine)
    (q : ∀ p, H p = none → Q (.ref p) (upd H p (.lst (rep n.toNat xs)))) : wpAny (model X.prog X.w) X.A (binaryOp .Mult (.ref l) (.int n t)) (EP X pins σ Q) X.xe s := by
  obtain ⟨m, as, sl, ra, la, ga⟩ := rd_get I hH
  have z1 : as.toArray.size * n.toNat ≤ sizeLine := by rw [List.size_toArray, ← ra.length]; exact hz
  have z2 : ¬ as.toArray.size * n.toNat > (2 ^ 63 - 1) / 8 := by
    have e : sizeLine ≤ (2 ^ 63 - 1) / 8 := by decide
    exact fun z => absurd (Nat.le_trans z1 e) (Nat.not_le.mpr z)
  have z3 : (!Builtin.List.listFitsIndex n) ≠ true := by
    rw [fitsIndex_both (by omega) (by omega)]; decide
  have z4 : Builtin.List.listTooLong (as.toArray.size * n.toNat) ≠ true := by
    rw [notLongL z1]; decide
  have fl : ∀ (m : Nat) (acc : Array Value), (List.replicate m as.toArray).foldl (fun x1 x2 => x1 ++ x2) acc = acc ++ (rep m as).toArray := by
    intro m
    induction m with
    | zero => intro acc; simp [rep]
    | succ m ih => intro acc; rw [List.replicate_succ, List.foldl_cons, ih]; simp [rep]
  have z5 : (List.replicate (if as.toArray.isEmpty = true then 0 else n.toNat) as.toArray).foldl (fun x1 x2 => x1 ++ x2) #[] = (rep n.toNat as).toArray := by
    rw [fl, Array.empty_append]
    cases as with
    | nil =>
      rw [if_pos (by rfl)]
      generalize n.toNat = m
      induction m with
      | zero => rfl
      | succ m ih => exact ih
    | cons a r => rw [if_neg (by simp)]
  refine wpAny_binaryOp_repeat_ref (U := "int") (T := "list") (by decide) ⟨_, ga, rfl⟩ (fun s' => typeIs_int s' n t) noFill_list_mul F.fills_int_mul F.slot_int_rmul repeat_list F.slot_int_index.lookup ?_
  refine call_meets F.slot_int_rmul (typeIs_int s n t) F.entry_int_rmul (F.args_int_rmul_2 _ _) (int___rmul___int_list n t l as.toArray _) ⟨ga, rfl, ⟨_, ga, rfl⟩, ?_⟩
  refine call_meets F.slot_list_mul ⟨_, ga, rfl⟩ F.entry_list_mul (F.args_list_mul_2 _ _) (AutoListH.list___mul___list_int_3 l as.toArray _ n t z3 z2 z4) ⟨ga, ?_⟩
  rw [z5]
  rw [rep_eq] at q ⊢
  refine ⟨.ref _, _, I.lnew (t' := s.toks) (ra.rep n.toNat) ?_, rfl, q _ I.fresh⟩
  simp only [List.length_flatten, List.map_replicate, List.sum_replicate_nat]
  rw [Nat.mul_comm]; exact hz
theorem opr_mul : OpR X (binaryOp .Mult) (rOp X.K mulF) := by
  intro pins s σ H x y v u Q I rx ry h
  obtain ⟨O, θ, d1, d2, d, tr, h1, h2, e, q⟩ := h
  unfold mulF at e
  split at e
  · split at e
    · rename_i hz
      cases e
      have e1 := h1.int; have e2 := h2.int
      subst e1 e2
      rcases hz with hz | hz | hz
      · exact op_mul pins s σ H _ _ v u Q I rx ry ⟨_, _, rfl, rfl, mul_ok (.inl hz), q _ _ (Same.refl H) rfl⟩
      · exact op_mul pins s σ H _ _ v u Q I rx ry ⟨_, _, rfl, rfl, mul_ok (.inr hz), q _ _ (Same.refl H) rfl⟩
      · exact op_mulW pins s σ H _ _ v u Q I rx ry ⟨_, _, rfl, rfl, hz, q _ _ (Same.refl H) rfl⟩
    · cases e
  · split at e
    · rename_i hz
      cases e
      have e1 := h1.str; have e2 := h2.int
      subst e1 e2
      obtain ⟨t, rfl⟩ := rx
      obtain ⟨t', rfl⟩ := ry
      exact mul_texts I hz.1 hz.2.1 (by rw [← SZ_line]; exact hz.2.2) (q _ _ (Same.refl H) rfl)
    · cases e
  · split at e
    · rename_i hz
      cases e
      have e2 := h2.int
      subst e2
      obtain ⟨a, vs, rfl, t, p⟩ := h1.tup
      have hl := p.length
      refine op_repT pins s σ H _ _ v u Q I rx ry ⟨a, _, vs, rfl, rfl, t.sq, fun z => ?_, hz.2.1, hz.2.2.1, by omega, fun l hl => ?_⟩
      · rw [z] at hl; exact hz.1 hl
      · rw [← rep_eq]
        exact q _ _ (sm_upd hl) (rep_new_tup tr hl (p.rep _))
    · cases e
  · split at e
    · rename_i hz
      cases e
      have e2 := h2.int
      subst e2
      obtain ⟨a, vs, rfl, r1, p⟩ := h1.lst
      cases rx
      obtain ⟨t', rfl⟩ := ry
      refine mul_lists I r1 hz.1 hz.2.1 (by rw [← p.length, ← SZ_line]; exact hz.2.2) fun b hb => ?_
      exact q _ _ (sm_upd hb) (rep_new_lst tr hb (p.rep _))
    · cases e
  · cases e
/-- an operation on data that makes a new list -/
def rNew (K : PySem.W.Frag) (f : D → D → Option D) : R2 := fun x y H Q => ∃ O θ d1 d2 xs, Tr H O θ ∧ RepB K H O θ d1 x ∧ RepB K H O θ d2 y ∧ f d1 d2 = some (.lst xs) ∧ ∀ p vs, H p = none → Reps K H O θ xs vs → Q (.ref p) (upd H p (.lst vs))
theorem opn_add : OpR X (binaryOp .Add) (rNew X.K addF) := by
  intro pins s σ H x y v u Q I rx ry h
  obtain ⟨O, θ, d1, d2, d, tr, h1, h2, e, q⟩ := h
  unfold addF at e
  split at e
  · cases e
  · split at e <;> cases e
  · split at e
    · rename_i hz
      cases e
      obtain ⟨a, vs, rfl, r1, p1⟩ := h1.lst
      obtain ⟨b, us, rfl, r2, p2⟩ := h2.lst
      cases rx; cases ry
      exact add_lists I r1 r2 (by rw [← p1.length, ← p2.length, ← SZ_line]; exact hz) fun p hp => q p _ hp (p1.append p2)
    · cases e
  · split at e <;> cases e
  · cases e
theorem opn_mul : OpR X (binaryOp .Mult) (rNew X.K mulF) := by
  intro pins s σ H x y v u Q I rx ry h
  obtain ⟨O, θ, d1, d2, d, tr, h1, h2, e, q⟩ := h
  unfold mulF at e
  split at e
  · split at e <;> cases e
  · split at e <;> cases e
  · split at e <;> cases e
  · split at e
    · rename_i hz
      cases e
      have e2 := h2.int
      subst e2
      obtain ⟨a, vs, rfl, r1, p⟩ := h1.lst
      cases rx
      obtain ⟨t', rfl⟩ := ry
      exact mul_lists I r1 hz.1 hz.2.1 (by rw [← p.length, ← SZ_line]; exact hz.2.2) fun b hb => q b _ hb (p.rep _)
    · cases e
  · cases e
/-! ### isinstance -/
def tyName : Ty → String
  | .int => "int" | .bool => "bool" | .str => "str" | .tuple => "tuple" | .list => "list" | .own _ => "object"
theorem kits (t : Ty) (ht : ∀ c, t ≠ .own c) : kitB "NoneType" (tyName t) = some false ∧ kitB "bool" (tyName t) = some (tyB t) ∧
    kitB "int" (tyName t) = some (tyI t) ∧ kitB "str" (tyName t) = some (tyS t) ∧ kitB "tuple" (tyName t) = some (tyT t) ∧ kitB "list" (tyName t) = some (tyL t) := by
  cases t with
  | own c => exact absurd rfl (ht c)
  | int => decide +kernel
  | bool => decide +kernel
  | str => decide +kernel
  | tuple => decide +kernel
  | list => decide +kernel
theorem TupAt.ty {K : PySem.W.Frag} {H : Hp} {O : OSet} {θ : List Addr} {a : Addr} {vs : List V} (h : TupAt K H O θ a vs) : TyX K H (.ref a) (.type "tuple") := by
  rcases h with ⟨r, _, _⟩ | ⟨o, _, _, e, c, _⟩
  · rcases r with r | ⟨o, r⟩
    · exact .base (.tup r)
    · exact .fTuple r
  · exact .kTuple e c
theorem rd_ty {K : PySem.W.Frag} {H : Hp} {a : Addr} {vs : List V} (h : Rd H a (.lst vs)) : TyX K H (.ref a) (.type "list") := by
  rcases h with r | ⟨o, r⟩
  · exact .base (.lst r)
  · exact .base (.frz r)
theorem rd_tyD {K : PySem.W.Frag} {H : Hp} {a : Addr} (h : Rd H a (.dK [])) : TyX K H (.ref a) (.type "dict") := by
  rcases h with r | ⟨o, r⟩
  · exact .base (.dK r)
  · exact .fDict r
theorem kitD : kitB "dict" "int" = some false ∧ kitB "dict" "bool" = some false ∧ kitB "dict" "str" = some false ∧ kitB "dict" "tuple" = some false ∧ kitB "dict" "list" = some false := by decide +kernel
/-- isinstance(x, T), T a built-in class -/
def rIs (K : PySem.W.Frag) (isa : Nat → Nat → Bool) (t : Ty) : List V → Hp → VK → Prop := fun xs H Q => ∃ x O θ d b, xs = [x, .ty (tyName t)] ∧ RepB K H O θ d x ∧ isiF isa d t = some b ∧ Q (.bl b) H
theorem bi_isi {isa : Nat → Nat → Bool} {t : Ty} (ht : ∀ c, t ≠ .own c) : CallR X (.builtin "isinstance") (rIs X.K isa t) := by
  intro pins s σ H xs us Q I r h
  obtain ⟨x, O, θ, d, b, rfl, hd, e, q⟩ := h
  obtain ⟨k1, k2, k3, k4, k5, k6⟩ := kits t ht
  have go : ∀ (T : String) (b' : Bool), TyX X.K H x (.type T) → kitB T (tyName t) = some b' → b' = b → wpAny (model X.prog X.w) X.A (call (.builtin "isinstance") us) (EP X pins σ Q) X.xe s := fun T b' ty hk eb => by
    subst eb
    exact call_isi pins s σ H _ us Q I r ⟨x, .ty (tyName t), .type T, .type (tyName t), b', rfl, .ty _, ty, kit_ty hk, q⟩
  cases d with
  | non => have e1 := hd.non; subst e1; cases e; exact go _ _ (.base .non) k1 rfl
  | bl y => have e1 := hd.bl; subst e1; cases e; exact go _ _ (.base (.bl _)) k2 rfl
  | int y => have e1 := hd.int; subst e1; cases e; exact go _ _ (.base (.int _)) k3 rfl
  | str y => have e1 := hd.str; subst e1; cases e; exact go _ _ (.base (.str _)) k4 rfl
  | tup y => obtain ⟨a, vs, rfl, t', p⟩ := hd.tup; cases e; exact go _ _ t'.ty k5 rfl
  | lst y => obtain ⟨a, vs, rfl, t', p⟩ := hd.lst; cases e; exact go _ _ (rd_ty t') k6 rfl
  | ref n => cases e
  | clo f c =>
    rcases hd with ⟨_, _, a, rfl, t', _⟩ | ⟨_, _, _, z, _⟩
    · cases t with
      | int => cases e; exact go _ _ (rd_tyD t') kitD.1 rfl
      | bool => cases e; exact go _ _ (rd_tyD t') kitD.2.1 rfl
      | str => cases e; exact go _ _ (rd_tyD t') kitD.2.2.1 rfl
      | tuple => cases e; exact go _ _ (rd_tyD t') kitD.2.2.2.1 rfl
      | list => cases e; exact go _ _ (rd_tyD t') kitD.2.2.2.2 rfl
      | own c => cases e
    · cases z
  | exc c z => simp [isiF] at e
theorem isi_ty {isa : Nat → Nat → Bool} {H : Hp} {O : OSet} {θ : List Addr} {d : D} {x : V} {t : Ty} {b : Bool} (hd : RepB X.K H O θ d x) (e : isiF isa d t = some b) : ∃ T, TyX X.K H x (.type T) ∧ ∀ t' b', (∀ c, t' ≠ .own c) → isiF isa d t' = some b' → kitB T (tyName t') = some b' := by
  cases d with
  | non => have e1 := hd.non; subst e1; exact ⟨_, .base .non, fun t' b' h q => by cases q; exact (kits t' h).1⟩
  | bl y => have e1 := hd.bl; subst e1; exact ⟨_, .base (.bl _), fun t' b' h q => by cases q; exact (kits t' h).2.1⟩
  | int y => have e1 := hd.int; subst e1; exact ⟨_, .base (.int _), fun t' b' h q => by cases q; exact (kits t' h).2.2.1⟩
  | str y => have e1 := hd.str; subst e1; exact ⟨_, .base (.str _), fun t' b' h q => by cases q; exact (kits t' h).2.2.2.1⟩
  | tup y => obtain ⟨a, vs, rfl, t', p⟩ := hd.tup; exact ⟨_, t'.ty, fun t' b' h q => by cases q; exact (kits t' h).2.2.2.2.1⟩
  | lst y => obtain ⟨a, vs, rfl, t', p⟩ := hd.lst; exact ⟨_, rd_ty t', fun t' b' h q => by cases q; exact (kits t' h).2.2.2.2.2⟩
  | ref n => cases t <;> cases e
  | clo f c =>
    rcases hd with ⟨_, _, a, rfl, t', _⟩ | ⟨_, _, _, z, _⟩
    · exact ⟨_, rd_tyD t', fun t' b' h q => by
        cases t' with
        | int => cases q; exact kitD.1
        | bool => cases q; exact kitD.2.1
        | str => cases q; exact kitD.2.2.1
        | tuple => cases q; exact kitD.2.2.2.1
        | list => cases q; exact kitD.2.2.2.2
        | own c => cases q⟩
    · cases z
  | exc c z => simp [isiF] at e
def rIs2 (K : PySem.W.Frag) (isa : Nat → Nat → Bool) (t u : Ty) : List V → Hp → VK → Prop := fun xs H Q => ∃ x tp O θ d b, xs = [x, .ref tp] ∧ H tp = some (.tup [.ty (tyName t), .ty (tyName u)]) ∧ RepB K H O θ d x ∧ isi2F isa d t u = some b ∧ Q (.bl b) H
theorem bi_isi2 {isa : Nat → Nat → Bool} {t u : Ty} (ht : ∀ c, t ≠ .own c) (hu : ∀ c, u ≠ .own c) : CallR X (.builtin "isinstance") (rIs2 X.K isa t u) := by
  intro pins s σ H xs us Q I r h
  obtain ⟨x, tp, O, θ, d, b, rfl, hT, hd, e, q⟩ := h
  unfold isi2F at e
  cases z1 : isiF isa d t with
  | none => rw [z1] at e; cases e
  | some b1 =>
    rw [z1] at e
    cases z2 : isiF isa d u with
    | none => rw [z2] at e; cases e
    | some b2 =>
      rw [z2] at e
      cases e
      obtain ⟨T, ty, hk⟩ := isi_ty hd z1
      refine call_isiT pins s σ H _ us Q I r ⟨x, tp, _, .type T, [.type (tyName t), .type (tyName u)], b1 || b2, rfl, hT, .cons (.ty _) (.cons (.ty _) .nil), ty, ?_, q⟩
      refine kitAny_cons (kit_ty (hk t b1 ht z1)) (fun h1 => ?_) (fun h1 => by rw [h1]; rfl)
      subst h1
      refine kitAny_cons (kit_ty (hk u b2 hu z2)) (fun h2 => ?_) (fun h2 => by rw [h2]; rfl)
      rw [h2]; rfl
end
end RC

set_option Elab.async false
set_option linter.all false
set_option autoImplicit false
set_option maxRecDepth 100000
set_option maxHeartbeats 1000000
/-! repr of data. -/
namespace RC
open PySem PySem.Spec PyProof.Rows L2
mutual
theorem no_dict : ∀ d : D, (toPy d).hasDict = false
  | .non => rfl
  | .bl _ => rfl
  | .int _ => rfl
  | .str _ => rfl
  | .lst xs => no_dicts xs
  | .tup xs => no_dicts xs
  | .ref _ => rfl
  | .exc _ _ => rfl
  | .clo _ _ => rfl
theorem no_dicts : ∀ ds : List D, PyData.hasDictAll (toPys ds) = false
  | [] => rfl
  | d :: ds => by
    show ((toPy d).hasDict || PyData.hasDictAll (toPys ds)) = false
    rw [no_dict d, no_dicts ds]; rfl
end
/-- s is what repr shows of d -/
def rpOk (d : D) (s : List Nat) : Prop := (isPlain d = true ∧ (toPy d).showable = true ∧ (toPy d).shown = ⟨s.toArray⟩ ∧ s.length ≤ SZ) ∨ (d = .clo 0 [] ∧ s = [123, 125])
def rRepr (K : PySem.W.Frag) : List V → Hp → VK → Prop := fun xs H Q => ∃ v O θ d s, xs = [v] ∧ RepB K H O θ d v ∧ rpOk d s ∧ Q (sV s) H
theorem call_repr {X : Cx} (gd : X.A.guards = some []) (hu : X.A.units + 65 < cLine) : CallR X (.builtin "repr") (rRepr X.K) := by
  intro pins s σ H vs us Q I rv h
  obtain ⟨v, O, θ, d, t, rfl, rp, hor, q⟩ := h
  obtain ⟨u, rfl, ru⟩ := rv.one
  rcases hor with ⟨hp, hs, he, hz⟩ | ⟨ed, et⟩
  case inr =>
    subst ed et
    rcases rp with ⟨_, _, a, rfl, r, _, _⟩ | ⟨_, _, _, z, _⟩
    · cases ru
      obtain ⟨_, nsm, vs, kv, o, es, ep, ho, hx, hd, _, hpr, _⟩ := r.ok I.hok
      cases kv
      have hes : es.toList = [] := by cases hl : es.toList with
        | nil => rfl
        | cons e l => rw [hl] at hpr; cases hpr
      have rd : Reads s.heap (.ref a) (.dict []) [a] := by
        have := Reads.dict (kvs := []) (as := []) (bs := []) ho hx.1 hd (by rw [hes]; exact .nil) (by rw [hes]; exact .nil)
        exact this
      have hsh : (PyData.dict []).shown = ⟨#[123, 125]⟩ := by decide +kernel
      exact repr_of_reads' rd rfl (fun _ z => by
        have : a = sysModules := (List.mem_singleton.mp z).symm
        rw [this] at nsm; exact absurd nsm (by decide)) gd (by show X.A.units + _ < cLine; have : (PyData.dict []).depth ≤ 40 := by decide +kernel
                                                               omega) (fun _ _ e => e) (fun h' k tk hk => ⟨sV [123, 125], H, I.kept (t' := tk) hk, ⟨k, by rw [hsh]⟩, q⟩) (by rw [hsh]; decide +kernel)
    · cases z
  obtain ⟨as, rd⟩ := Dp.reads I _ v u (repB_dp hp rp) ru
  have hd : (toPy d).depth ≤ 40 := (plain_py 40 d hp).2
  have hsz : (toPy d).shown.length ≤ sizeLine := by rw [he, sV_length, ← SZ_line]; exact hz
  have fin : ∀ k, RelV (sV t) (.str (toPy d).shown k) := fun k => ⟨k, by rw [he]⟩
  cases d with
  | non =>
    have e := rp.non; subst e
    cases (show u = Value.none from ru)
    exact P.repr_of_none ⟨_, H, I.tok _, fin _, q⟩
  | bl b =>
    have e := rp.bl; subst e
    cases (show u = Value.bool b from ru)
    refine P.repr_of_bool ⟨_, H, I.tok _, ?_, q⟩
    have := fin s.toks
    cases b <;> exact this
  | int i =>
    have e := rp.int; subst e
    obtain ⟨k, rfl⟩ := ru
    exact P.repr_of_int (of_decide_eq_true hs) ⟨_, H, I.tok _, fin _, q⟩
  | str z =>
    have e := rp.str; subst e
    obtain ⟨k, rfl⟩ := ru
    exact P.repr_of_str ⟨_, H, I.tok _, fin _, q⟩ hsz
  | lst xs =>
    obtain ⟨a, ws, rfl, _, _⟩ := rp.lst
    cases ru
    exact repr_of_reads' rd hs (fun z => by rw [no_dict] at z; cases z) gd (by omega) (fun _ _ e => e) (fun h' k tk hk => ⟨_, H, I.kept (t' := tk) hk, fin k, q⟩) hsz
  | tup xs =>
    obtain ⟨a, ws, rfl, _, _⟩ := rp.tup
    cases ru
    exact repr_of_reads' rd hs (fun z => by rw [no_dict] at z; cases z) gd (by omega) (fun _ _ e => e) (fun h' k tk hk => ⟨_, H, I.kept (t' := tk) hk, fin k, q⟩) hsz
  | ref n => simp [isPlain, plain] at hp
  | exc c v => simp [isPlain, plain] at hp
  | clo c v => simp [isPlain, plain] at hp
end RC

set_option Elab.async false
set_option linter.all false
set_option autoImplicit false
set_option maxRecDepth 100000
set_option maxHeartbeats 1000000
/-! The core text held against the program's text. -/
namespace RC
open PySem PySem.Spec PyProof.Rows L2

/-- what the names of the core text stand for: the slots' names, the defs, the module's constants -/
structure Sg where
  N : List Str
  fn : Nat → Option Str
  gl : Nat → Option Str
  cs : List Nat
  /-- whether lambdas may be made, parameters called here -/
  ml : Bool
  ac : Bool
  /-- the defs that may be keys -/
  kf : Nat → Option Str
def Sg.off (S : Sg) : Sg := { S with ml := false, ac := false }

def visB (sc : Scope) (x : Str) : Bool := match sc.names.lookup x with
  | some .local => true
  | some .cell => true
  | some .free => true
  | _ => false
def locB (sc : Scope) (x : Str) : Bool := match sc.names.lookup x with
  | some .local => true
  | some .cell => true
  | _ => false
def isLocal (sc : Scope) (x : Str) : Bool := decide (sc.names.lookup x = some .local)
def globB (sc : Scope) (x : Str) : Bool := decide (sc.names.lookup x = some .globalImplicit)
def plainName (x : Str) : Bool := !(x == ("__debug__" : Str)) && !(x == ("__classdict__" : Str)) && !(x == ("__name__" : Str))
def varB (S : Sg) (sc : Scope) (i : Nat) (x : Str) : Bool := decide (S.N[i]? = some x) && visB sc x && plainName x
def constOk : D → Const → Bool
  | .non, .none => true
  | .bl b, .bool c => b == c
  | .int i, .int j => decide (i = j)
  | .str s, .str x => decide (x = ⟨s.toArray⟩)
  | _, _ => false
def boB : BO → Operator → Bool
  | .add, .Add => true | .sub, .Sub => true | .mul, .Mult => true | .fdiv, .FloorDiv => true | .mod, .Mod => true
  | .pow, .Pow => true | .shl, .LShift => true | .shr, .RShift => true | _, _ => false
def coB : CO → CmpOp → Bool
  | .eq, .Eq => true | .ne, .NotEq => true | .lt, .Lt => true | .le, .LtE => true | .gt, .Gt => true | .ge, .GtE => true
  | .is_, .Is => true | .isnot, .IsNot => true | .in_, .In => true | .notin, .NotIn => true | _, _ => false
def biName : Bi → Option Str
  | .len => some "len" | .abs => some "abs" | .max2 => some "max" | .min2 => some "min" | .sum => some "sum" | .all => some "all" | .any => some "any"
  | .list => some "list" | .tuple => some "tuple" | .max1 => some "max" | .min1 => some "min" | .str_ => some "str" | .int_ => some "int" | .sorted => some "sorted" | _ => none
/-- how many arguments a method takes, and its name -/
def mtName : Mt → Option (Str × Nat)
  | .swapcase => some ("swapcase", 0) | .upper => some ("upper", 0) | .lower => some ("lower", 0) | .islower => some ("islower", 0)
  | .join => some ("join", 1) | .index => some ("index", 1) | .count => some ("count", 1) | .split => some ("split", 1) | .startswith => some ("startswith", 1) | _ => none
def tyStr : Ty → Option Str
  | .int => some "int" | .bool => some "bool" | .str => some "str" | .tuple => some "tuple" | .list => some "list" | .own _ => none
def notSet : Expr → Bool
  | .Set _ _ _ => false
  | _ => true
def notSlice : Expr → Bool
  | .Slice _ _ _ _ => false
  | _ => true
/-- a test of this form is its value's truth, or the layer has a rule for it -/
def notIfe : Expr → Bool
  | .IfExp _ _ _ _ => false
  | _ => true
def isTupE : Expr → Bool
  | .Tuple _ _ _ => true
  | _ => false
/-- an attribute is asked of this expression as of any other -/
def baseB : Expr → Bool
  | .Call (.Name _ _) [] [] _ => false
  | _ => true
mutual
def chkT (S : Sg) (sc : Scope) : Tg → Expr → Bool
  | .n i, e => match e with
    | .Name x _ => decide (S.N[i]? = some x) && locB sc x
    | _ => false
  | .t ts, e => match e with
    | .Tuple es _ _ => chkTs S sc ts es
    | _ => false
def chkTs (S : Sg) (sc : Scope) : Tgs → List Expr → Bool
  | .nil, es => es.isEmpty
  | .cons a r, es => match es with
    | e :: es' => chkT S sc a e && chkTs S sc r es'
    | [] => false
end
/-- names of slots -/
def ownOf (S : Sg) (vs : List Nat) : List (Str × Nat) := vs.filterMap fun i => (S.N[i]?).map fun x => (x, i)
/-- no parameters at all -/
def noArgs (pa : Arguments) : Bool := pa.posonlyargs.isEmpty && pa.args.isEmpty && pa.vararg.isNone && pa.kwonlyargs.isEmpty && pa.kw_defaults.isEmpty && pa.kwarg.isNone && pa.defaults.isEmpty
/-- a class that may be asked for -/
def clsN (S : Sg) (t : Nat) : Bool := (decide (t < 17) && decide (t ∈ S.cs)) || decide (t = 17)
mutual
/-- b: whether a list of the frame's own may stand here (it is asked at once, and not kept) -/
def chkE (S : Sg) (b : Bool) : E → Scope → Expr → Bool
  | .var i, sc, e => match e with
    | .Name x _ => varB S sc i x
    | _ => false
  | .bor i, sc, e => match e with
    | .Name x _ => b && varB S sc i x
    | _ => false
  | .cst d, _, e => match e with
    | .Constant c _ _ => constOk d c
    | .Dict ks vs _ => (match d with | .clo 0 [] => true | _ => false) && ks.isEmpty && vs.isEmpty
    | _ => false
  | .glb g, sc, e => match e with
    | .Name x _ => decide (S.gl g = some x) && globB sc x && plainName x
    | _ => false
  | .bin o x y, sc, e => match e with
    | .BinOp l op r _ => boB o op && chkE S true x sc l && chkE S true y sc r
    | _ => false
  | .cmp o x y, sc, e => match e with
    | .Compare l ops rs _ => match ops, rs with
      | [op], [r] => coB o op && chkE S true x sc l && chkE S true y sc r && notSet r
      | _, _ => false
    | _ => false
  | .chain o o' x y z, sc, e => match e with
    | .Compare l ops rs _ => match ops, rs with
      | [op, op'], [r, r'] => coB o op && coB o' op' && chkE S true x sc l && chkE S true y sc r && chkE S true z sc r' && notSet r'
      | _, _ => false
    | _ => false
  | .and x y, sc, e => match e with
    | .BoolOp op vs pos => match op, vs with
      | .And, l :: r :: rest => chkE S false x sc l && notIfe l && (match rest with
        | [] => chkE S false y sc r && notIfe r
        | _ => chkE S false y sc (.BoolOp .And (r :: rest) pos))
      | _, _ => false
    | _ => false
  | .or x y, sc, e => match e with
    | .BoolOp op vs pos => match op, vs with
      | .Or, l :: r :: rest => chkE S false x sc l && notIfe l && (match rest with
        | [] => chkE S false y sc r && notIfe r
        | _ => chkE S false y sc (.BoolOp .Or (r :: rest) pos))
      | _, _ => false
    | _ => false
  | .not x, sc, e => match e with
    | .UnaryOp op l _ => match op with
      | .Not => chkE S false x sc l && notIfe l
      | _ => false
    | _ => false
  | .neg x, sc, e => match e with
    | .UnaryOp op l _ => match op with
      | .USub => chkE S false x sc l
      | _ => false
    | _ => false
  | .ife t x y, sc, e => match e with
    | .IfExp c l r _ => chkE S false t sc c && notIfe c && chkE S false x sc l && chkE S false y sc r
    | _ => false
  | .call f es, sc, e => match e with
    | .Call g as ks _ => match g, ks with
      | .Name x _, [] => decide (S.fn f = some x) && globB sc x && plainName x && chkEs S false es sc as && !as.isEmpty
      | _, _ => false
    | _ => false
  | .bi k es, sc, e => match e with
    | .Call g as ks _ => match g, ks with
      | .Name x _, [] => decide (biName k = some x) && globB sc x && chkEs S true es sc as && !as.isEmpty
      | _, _ => false
    | _ => false
  | .mt m o es, sc, e => match e with
    | .Call g as ks pos => match g, ks with
      | .Attribute l x ap, [] => (match mtName m with
          | some (y, n) => decide (y = x) && decide (as.length = n)
          | none => false) && chkE S false o sc l && chkEs S true es sc as && baseB l && (ap.endLine == pos.line)
      | _, _ => false
    | _ => false
  | .isi x t, sc, e => match e with
    | .Call g as ks _ => match g, as, ks with
      | .Name y _, [l, .Name k _], [] => decide (y = ("isinstance" : Str)) && globB sc y && chkE S true x sc l && decide (tyStr t = some k) && globB sc k
      | _, _, _ => false
    | _ => false
  | .sub x i, sc, e => match e with
    | .Subscript l r _ => chkE S true x sc l && chkE S false i sc r && notSlice r
    | _ => false
  | .slcL x lo, sc, e => match e with
    | .Subscript l s _ => match s with
      | .Slice (some p) none none _ => chkE S true x sc l && chkE S false lo sc p
      | _ => false
    | _ => false
  | .slcU x hi, sc, e => match e with
    | .Subscript l s _ => match s with
      | .Slice none (some p) none _ => chkE S true x sc l && chkE S false hi sc p
      | _ => false
    | _ => false
  | .slcB x lo hi, sc, e => match e with
    | .Subscript l s _ => match s with
      | .Slice (some p) (some q) none _ => chkE S true x sc l && chkE S false lo sc p && chkE S false hi sc q
      | _ => false
    | _ => false
  | .rev x, sc, e => match e with
    | .Subscript l s _ => match s with
      | .Slice none none (some st) _ => chkE S true x sc l && (match st with
        | .UnaryOp op c _ => match op, c with
          | .USub, .Constant k _ _ => decide (k = .int 1)
          | _, _ => false
        | _ => false)
      | _ => false
    | _ => false
  | .half x, sc, e => match e with
    | .Subscript l s _ => match s with
      | .Slice none none (some st) _ => chkE S true x sc l && (match st with
        | .Constant k _ _ => decide (k = .int 2)
        | _ => false)
      | _ => false
    | _ => false
  | .tup es, sc, e => match e with
    | .Tuple as _ _ => chkEs S false es sc as && decide (as.length ≤ 1000)
    | _ => false
  | .lst es, sc, e => match e with
    | .List as _ => chkEs S false es sc as && decide (as.length ≤ 1000)
    | _ => false
  | .lc tg it cs elt, sc, e => match e with
    | .ListComp l gs scope _ => match gs with
      | [⟨t, i, ifs, as⟩] => decide (as = 0) && chkI S it sc t i && chkT S scope tg t && chkEs S.off false cs (relS scope sc) ifs && ifs.all notIfe && decide (ifs.length ≤ 1) && chkE S.off false elt (relS scope sc) l && notSet i
        && blkC S.N sc scope (ownOf S (tgSlots tg)) && decide ((ownOf S (tgSlots tg)).map (·.2) = tgSlots tg)
      | _ => false
    | _ => false
  | .minK f x, sc, e => match e with
    | .Call g as ks _ => match g, as, ks with
      | .Name y _, [l], [⟨some kn, .Name z _, _⟩] => decide (y = ("min" : Str)) && globB sc y && decide (kn = ("key" : Str)) && decide (S.kf f = some z) && globB sc z && plainName z && chkE S false x sc l
      | _, _, _ => false
    | _ => false
  | .minKD f x x', sc, e => match e with
    | .Call g as ks _ => match g, as, ks with
      | .Name y _, [l], [⟨some kn, .Name z _, _⟩, ⟨some kd, l', _⟩] => decide (y = ("min" : Str)) && globB sc y && decide (kn = ("key" : Str)) && decide (kd = ("default" : Str)) && decide (S.kf f = some z) && globB sc z && plainName z && chkE S false x sc l && chkE S false x' sc l'
      | _, _, _ => false
    | _ => false
  | .sortK _ _, _, _ => false
  | .new es, sc, e => match e with
    | .List as _ => chkEs S false es sc as && decide (as.length ≤ 1000)
    | _ => false
  | .rpr x, sc, e => match e with
    | .Call g as ks _ => match g, as, ks with
      | .Name y _, [l], [] => decide (y = ("repr" : Str)) && globB sc y && chkE S true x sc l
      | _, _, _ => false
    | _ => false
  | .isi2 x t u, sc, e => match e with
    | .Call g as ks _ => match g, as, ks with
      | .Name y _, [l, .Tuple [.Name k _, .Name k' _] _ _], [] => decide (y = ("isinstance" : Str)) && globB sc y && chkE S true x sc l && decide (tyStr t = some k) && globB sc k && decide (tyStr u = some k') && globB sc k'
      | _, _, _ => false
    | _ => false
  | .isx x t, sc, e => match e with
    | .Call g as ks _ => match g, as, ks with
      | .Name y _, [l, .Name z _], [] => decide (y = ("isinstance" : Str)) && globB sc y && chkE S false x sc l && decide (z = cname t) && globB sc z && clsN S t
      | _, _, _ => false
    | _ => false
  | .att x n, sc, e => match e with
    | .Attribute l f _ => match l with
      | .Name z p => chkE S false x sc (.Name z p) && decide (f = fname n) && decide (n ≠ 0)
      | _ => false
    | _ => false
  | .lamc g x, sc, e => match e with
    | .Call h as ks _ => match h, as, ks with
      | .Name y _, [.Lambda pa body sc' _], [] => S.ml && decide (S.fn g = some y) && globB sc y && plainName y && LamX.lamSB sc sc' && noArgs pa && chkE S.off false x sc' body
      | _, _, _ => false
    | _ => false
  | .act i, sc, e => match e with
    | .Call h as ks _ => match h, as, ks with
      | .Name y _, [], [] => S.ac && decide (i = 0) && varB S sc i y
      | _, _, _ => false
    | _ => false
def chkEs (S : Sg) (b : Bool) : Es → Scope → List Expr → Bool
  | .nil, _, es => es.isEmpty
  | .cons x r, sc, es => match es with
    | e :: rest => chkE S b x sc e && chkEs S b r sc rest
    | [] => false
/-- t: the target (enumerate, zip want a tuple there) -/
def chkI (S : Sg) : It → Scope → Expr → Expr → Bool
  | .seq x, sc, _, e => chkE S true x sc e
  | .rng x, sc, _, e => match e with
    | .Call g as ks _ => match g, as, ks with
      | .Name y _, [a], [] => decide (y = ("range" : Str)) && globB sc y && chkE S false x sc a
      | _, _, _ => false
    | _ => false
  | .rng2 x x', sc, _, e => match e with
    | .Call g as ks _ => match g, as, ks with
      | .Name y _, [a, a'], [] => decide (y = ("range" : Str)) && globB sc y && chkE S false x sc a && chkE S false x' sc a'
      | _, _, _ => false
    | _ => false
  | .enum x, sc, t, e => match e with
    | .Call g as ks _ => match g, as, ks with
      | .Name y _, [a], [] => decide (y = ("enumerate" : Str)) && globB sc y && chkE S true x sc a && isTupE t
      | _, _, _ => false
    | _ => false
  | .zip x x', sc, t, e => match e with
    | .Call g as ks _ => match g, as, ks with
      | .Name y _, [a, a'], [] => decide (y = ("zip" : Str)) && globB sc y && chkE S true x sc a && chkE S true x' sc a' && isTupE t
      | _, _, _ => false
    | _ => false
end
/-- y = [..] on one line: whether the model stores from within the comprehension -/
def swapB (sc : Scope) (v : Expr) (x : Str) (p : Pos) : Bool := match v with
  | .ListComp _ _ s q => isLocal sc x && (p.line == q.line) && !(s.names.any fun (n, k) => n == x && (k == .local || k == .cell))
  | .SetComp _ _ _ _ => true
  | .DictComp _ _ _ _ _ => true
  | _ => false
def notComp : Expr → Bool
  | .ListComp _ _ _ _ => false
  | .SetComp _ _ _ _ => false
  | .DictComp _ _ _ _ _ => false
  | _ => true
/-- a fresh list -/
def freshB : E → Bool
  | .lst _ => true
  | .lc _ _ _ _ => true
  | .bi .list _ => true
  | _ => false
end RC

set_option Elab.async false
set_option linter.all false
set_option autoImplicit false
set_option maxRecDepth 100000
set_option maxHeartbeats 1000000
/-! What the core text computes is what the program's text computes: expressions. -/
namespace RC
open PySem PySem.Spec PyProof.Rows L2
variable [LX]

/-- a call's entry -/
structure Anc where
  H : Hp
  θ : List Addr
  O : OSet
/-- what the parameter holds, and the call's entry -/
def LXat (A : Anc) (f c : Addr) (q : Str) : Prop := LX.cur = some (f, c, q) ∧ A.H = LX.anc.1 ∧ A.θ = LX.anc.2.1 ∧ A.O = LX.anc.2.2
/-- the core's state and the layer's -/
structure RS (K : PySem.W.Frag) (A : Anc) (H : Hp) (O : OSet) (σ : L2.St) (ρ : RC.Env) (θ : List Addr) (M : Store) : Prop where
  rm : RM H O θ M
  env : ∀ (i : Nat) (d : D), ρ[i]? = some (some (Sl.v d)) → ∃ v, σ[i]? = some (some v) ∧ Rep K H O θ d v
  own : ∀ (i : Nat) (xs : List D), ρ[i]? = some (some (Sl.o xs)) → ∃ a vs, σ[i]? = some (some (V.ref a)) ∧ H a = some (.lst vs) ∧ Reps K H O θ xs vs ∧ O a ∧ Nn A.H a
  fun_ : ∀ (i : Nat), ρ[i]? = some (some Sl.f) → ∃ f c q, LXat A f c q ∧ σ[i]? = some (some (V.ref f)) ∧ (H c = some (LamX.CodeO c q) ∧ ¬ O c ∧ c ∉ θ)
  dis : ∀ (i j : Nat) (xs ys : List D) (a : Addr), ρ[i]? = some (some (Sl.o xs)) → ρ[j]? = some (some (Sl.o ys)) → σ[i]? = some (some (V.ref a)) → σ[j]? = some (some (V.ref a)) → i = j
  sub : ∀ a, A.O a → O a
  anc : Ext A.θ θ A.H H
  otr : ∀ a, A.O a → ∃ xs, A.H a = some (.lst xs)
  onew : ∀ a, O a → A.O a ∨ Nn A.H a
  len : ρ.length = σ.length
theorem RS.ext {K : PySem.W.Frag} {A : Anc} {H H' : Hp} {O : OSet} {σ : L2.St} {ρ : RC.Env} {θ θ' : List Addr} {M M' : Store} (r : RS K A H O σ ρ θ M) (x : Ext θ θ' H H') (m : RM H' O θ' M') : RS K A H' O σ ρ θ' M' where
  rm := m
  env := fun i d e => by
    obtain ⟨v, h1, h2⟩ := r.env i d e
    exact ⟨v, h1, h2.ext x⟩
  own := fun i xs e => by
    obtain ⟨a, vs, h1, h2, h3, h4, h5⟩ := r.own i xs e
    exact ⟨a, vs, h1, x.keep a _ (nt_lst _) (fun z => r.rm.noO a z h4) h2, h3.ext x, h4, h5⟩
  fun_ := fun i e => by
    obtain ⟨f, c, q, h1, h2, h3⟩ := r.fun_ i e
    exact ⟨f, c, q, h1, h2, x.keep c _ (nt_ext _) h3.2.2 h3.1, h3.2.1, x.notIn (nt_ext _) h3.1 h3.2.2⟩
  dis := r.dis
  sub := r.sub
  anc := r.anc.trans x
  otr := r.otr
  onew := r.onew
  len := r.len
theorem RS.same {K : PySem.W.Frag} {A : Anc} {H H' : Hp} {O : OSet} {σ : L2.St} {ρ : RC.Env} {θ : List Addr} {M : Store} (r : RS K A H O σ ρ θ M) (x : Same H H') : RS K A H' O σ ρ θ M := r.ext (sm_ext x θ) (sm_rm x r.rm)
theorem RS.set {K : PySem.W.Frag} {A : Anc} {H : Hp} {O : OSet} {σ : L2.St} {ρ : RC.Env} {θ : List Addr} {M : Store} (r : RS K A H O σ ρ θ M) (i : Nat) {d : D} {v : V} (h : Rep K H O θ d v) : RS K A H O (σ.set i (some v)) (setV ρ i d) θ M where
  rm := r.rm
  env := fun j d' e => by
    unfold setV at e
    by_cases q : i = j
    · subst q
      by_cases z : i < ρ.length
      · rw [List.getElem?_set_self z] at e
        cases e
        exact ⟨v, List.getElem?_set_self (by rw [← r.len]; exact z), h⟩
      · rw [List.getElem?_eq_none (by simpa using z)] at e; cases e
    · rw [List.getElem?_set_ne q] at e
      rw [List.getElem?_set_ne q]
      exact r.env j d' e
  own := fun j xs e => by
    unfold setV at e
    by_cases q : i = j
    · subst q
      by_cases z : i < ρ.length
      · rw [List.getElem?_set_self z] at e; cases e
      · rw [List.getElem?_eq_none (by simpa using z)] at e; cases e
    · rw [List.getElem?_set_ne q] at e
      rw [List.getElem?_set_ne q]
      exact r.own j xs e
  fun_ := fun j e => by
    unfold setV at e
    by_cases q : i = j
    · subst q
      by_cases z : i < ρ.length
      · rw [List.getElem?_set_self z] at e; cases e
      · rw [List.getElem?_eq_none (by simpa using z)] at e; cases e
    · rw [List.getElem?_set_ne q] at e
      rw [List.getElem?_set_ne q]
      exact r.fun_ j e
  onew := r.onew
  dis := fun j k xs ys a e1 e2 e3 e4 => by
    unfold setV at e1 e2
    have hj : i ≠ j := fun q => by
      subst q
      by_cases z : i < ρ.length
      · rw [List.getElem?_set_self z] at e1; cases e1
      · rw [List.getElem?_eq_none (by simpa using z)] at e1; cases e1
    have hk : i ≠ k := fun q => by
      subst q
      by_cases z : i < ρ.length
      · rw [List.getElem?_set_self z] at e2; cases e2
      · rw [List.getElem?_eq_none (by simpa using z)] at e2; cases e2
    rw [List.getElem?_set_ne hj] at e1 e3
    rw [List.getElem?_set_ne hk] at e2 e4
    exact r.dis j k xs ys a e1 e2 e3 e4
  sub := r.sub
  anc := r.anc
  otr := r.otr
  len := by unfold setV; rw [List.length_set, List.length_set]; exact r.len
/-- a slot is forgotten -/
theorem RS.unset {K : PySem.W.Frag} {A : Anc} {H : Hp} {O : OSet} {σ : L2.St} {ρ : RC.Env} {θ : List Addr} {M : Store} (r : RS K A H O σ ρ θ M) (i : Nat) : RS K A H O (σ.set i none) (ρ.set i none) θ M where
  rm := r.rm
  env := fun j d' e => by
    by_cases q : i = j
    · subst q
      by_cases z : i < ρ.length
      · rw [List.getElem?_set_self z] at e; cases e
      · rw [List.getElem?_eq_none (by simpa using z)] at e; cases e
    · rw [List.getElem?_set_ne q] at e
      rw [List.getElem?_set_ne q]
      exact r.env j d' e
  own := fun j xs e => by
    by_cases q : i = j
    · subst q
      by_cases z : i < ρ.length
      · rw [List.getElem?_set_self z] at e; cases e
      · rw [List.getElem?_eq_none (by simpa using z)] at e; cases e
    · rw [List.getElem?_set_ne q] at e
      rw [List.getElem?_set_ne q]
      exact r.own j xs e
  fun_ := fun j e => by
    by_cases q : i = j
    · subst q
      by_cases z : i < ρ.length
      · rw [List.getElem?_set_self z] at e; cases e
      · rw [List.getElem?_eq_none (by simpa using z)] at e; cases e
    · rw [List.getElem?_set_ne q] at e
      rw [List.getElem?_set_ne q]
      exact r.fun_ j e
  onew := r.onew
  dis := fun j k xs ys a e1 e2 e3 e4 => by
    have hj : i ≠ j := fun q => by
      subst q
      by_cases z : i < ρ.length
      · rw [List.getElem?_set_self z] at e1; cases e1
      · rw [List.getElem?_eq_none (by simpa using z)] at e1; cases e1
    have hk : i ≠ k := fun q => by
      subst q
      by_cases z : i < ρ.length
      · rw [List.getElem?_set_self z] at e2; cases e2
      · rw [List.getElem?_eq_none (by simpa using z)] at e2; cases e2
    rw [List.getElem?_set_ne hj] at e1 e3
    rw [List.getElem?_set_ne hk] at e2 e4
    exact r.dis j k xs ys a e1 e2 e3 e4
  sub := r.sub
  anc := r.anc
  otr := r.otr
  len := by rw [List.length_set, List.length_set]; exact r.len

/-- what the proof knows of the program besides its text -/
structure Inf where
  P : Prg
  fn : Nat → Option Str
  gl : Nat → Option Str
  /-- the classes whose errors may be raised and held -/
  cs : List Nat
  /-- what a call of the parameter does; whether lambdas may be made, parameters called -/
  act : Store → Res D
  ml : Bool
  ac : Bool
  /-- in a lambda -/
  lo : Bool
  /-- the defs that may be keys -/
  kfn : Nat → Option Str
def Inf.sg (J : Inf) (N : List Str) : Sg := ⟨N, J.fn, J.gl, J.cs, J.ml, J.ac, J.kfn⟩
def Inf.cfg (J : Inf) (k : Nat) : Cfg := ⟨callF J.P k, bif J.lo then callF J.P k else (tower J.P k).call2, bif J.lo then (fun _ _ _ => .stuck) else lamF J.P k, bif J.lo then (fun _ => .stuck) else J.act, J.P.G, J.P.isa, J.P.fld, J.P.rp, J.P.lf⟩
theorem Inf.cfg_eq {J : Inf} {k : Nat} (h : J.lo = false) : J.cfg k = J.P.cfgA k J.act := by
  unfold Inf.cfg
  rw [h]
  rfl
/-- inside of a comprehension, of a lambda -/
def Inf.off (J : Inf) : Inf := { J with ml := false, ac := false }
def Inf.lowJ (J : Inf) : Inf := { J with ml := false, ac := false, lo := true }
theorem Inf.cfg_low {J : Inf} {k : Nat} (h : J.lo = false) : (J.cfg (k + 2)).low = J.lowJ.cfg k := by
  unfold Inf.cfg Cfg.low
  rw [h]
  rfl
/-- an error of the class c with the datum x -/
def RepX (K : PySem.W.Frag) (J : Inf) (H : Hp) (O : OSet) (θ : List Addr) (c : Nat) (x : D) (cls : Value) (da : Option Addr) : Prop :=
  (clsB K c = true ∧ cls = clV K c) ∧ ((fldC c = 0 ∧ da = none) ∨ (fldC c ≠ 0 ∧ ∃ d w, da = some d ∧ (H d = some (.xd [(fname (fldC c), w)]) ∧ ¬ O d ∧ d ∉ θ) ∧ Rep K H O θ x w))
def After {α : Type} (K : PySem.W.Frag) (J : Inf) (O : OSet) (W : WX) (σ : L2.St) (θ : List Addr) (H : Hp) (r : Res α) (Q : α → Store → List Addr → Hp → Prop) : Prop := match r with
  | .ok a M => ∀ θ' H', Ext θ θ' H H' → RM H' O θ' M → Q a M θ' H'
  | .exc c x M => ∀ θ' H' cls da, Ext θ θ' H H' → RM H' O θ' M → RepX K J H' O θ' c x cls da → W cls da σ H'
  | .stuck => False
def RepQ (b : Bool) (K : PySem.W.Frag) (H : Hp) (O : OSet) (θ : List Addr) (d : D) (v : V) : Prop := if b = true then RepB K H O θ d v else Rep K H O θ d v
theorem RepQ.of {b : Bool} {K : PySem.W.Frag} {H : Hp} {O : OSet} {θ : List Addr} {d : D} {v : V} (h : Rep K H O θ d v) : RepQ b K H O θ d v := by
  cases b
  · exact h
  · exact .inl h
section
variable {K : PySem.W.Frag} {J : Inf} {k : Nat} {W : WX} {A : Anc} {O : OSet} {σ : L2.St} {ρ : RC.Env} {θ θ1 : List Addr} {H H1 : Hp} {M : Store}
theorem After.shift {α : Type} {r : Res α} {Q : α → Store → List Addr → Hp → Prop} (h : After K J O W σ θ H r Q) (x : Ext θ θ1 H H1) : After K J O W σ θ1 H1 r Q := by
  cases r with
  | ok a M => exact fun θ' H' x' m => h θ' H' (x.trans x') m
  | exc c v M => exact fun θ' H' cls da x' m q => h θ' H' cls da (x.trans x') m q
  | stuck => exact h
theorem After.bind {α β : Type} {r : Res α} {f : α → Store → Res β} {Q : β → Store → List Addr → Hp → Prop} (h : After K J O W σ θ H (r.bind f) Q) :
    After K J O W σ θ H r fun a M1 θ1 H1 => After K J O W σ θ1 H1 (f a M1) Q := by
  cases r with
  | ok a M => exact fun θ' H' x m => After.shift (r := f a M) h x
  | exc c v M => exact h
  | stuck => exact h
theorem After.mono {α : Type} {r : Res α} {Q Q' : α → Store → List Addr → Hp → Prop} (h : After K J O W σ θ H r Q) (hq : ∀ a M1 θ1 H1, Ext θ θ1 H H1 → RM H1 O θ1 M1 → Q a M1 θ1 H1 → Q' a M1 θ1 H1) : After K J O W σ θ H r Q' := by
  cases r with
  | ok a M => exact fun θ' H' x m => hq a M θ' H' x m (h θ' H' x m)
  | exc c v M => exact h
  | stuck => exact h
/-- an expression's transformer -/
def tX (K : PySem.W.Frag) (J : Inf) (k : Nat) (W : WX) (b : Bool) (e : E) : TE := fun σ H Q => ∃ A ρ M θ O, RS K A H O σ ρ θ M ∧
  After K J O W σ θ H (ev (J.cfg k) e ρ M) fun d _ θ' H' => ∀ v, RepQ b K H' O θ' d v → Q v H'
/-- a test's -/
def tQ (K : PySem.W.Frag) (J : Inf) (k : Nat) (W : WX) (e : E) : TT := fun σ H Q => ∃ A ρ M θ O, RS K A H O σ ρ θ M ∧
  After K J O W σ θ H (truth (ev (J.cfg k) e ρ M) fun b M1 => Res.ok b M1) fun b _ _ H' => Q b H'
/-- arguments' -/
def tXs (K : PySem.W.Frag) (J : Inf) (k : Nat) (W : WX) (b : Bool) (es : Es) : TA := fun σ H Q => ∃ A ρ M θ O, RS K A H O σ ρ θ M ∧
  After K J O W σ θ H (evs (J.cfg k) es ρ M) fun ds _ θ' H' => ∀ vs, (if b = true then RepsB K H' O θ' ds vs else Reps K H' O θ' ds vs) → Q vs H'
theorem tX_of {b : Bool} {e : E} {R : D → Store → List Addr → Hp → Prop} {Q : VK} (rs : RS K A H O σ ρ θ M) (h : After K J O W σ θ H (ev (J.cfg k) e ρ M) R)
    (hq : ∀ d M1 θ1 H1, Ext θ θ1 H H1 → RS K A H1 O σ ρ θ1 M1 → R d M1 θ1 H1 → ∀ v, RepQ b K H1 O θ1 d v → Q v H1) : tX K J k W b e σ H Q :=
  ⟨A, ρ, M, θ, O, rs, h.mono fun d M1 θ1 H1 x m r => hq d M1 θ1 H1 x (rs.ext x m) r⟩
theorem tQ_of {e : E} {R : Bool → Store → List Addr → Hp → Prop} {Q : Bool → Hp → Prop} {α : Type} {f : Bool → Store → Res α} {Q0 : α → Store → List Addr → Hp → Prop} (rs : RS K A H O σ ρ θ M) (h : After K J O W σ θ H (truth (ev (J.cfg k) e ρ M) f) Q0)
    (hq : ∀ b M1 θ1 H1, Ext θ θ1 H H1 → RS K A H1 O σ ρ θ1 M1 → After K J O W σ θ1 H1 (f b M1) Q0 → Q b H1) : tQ K J k W e σ H Q := by
  refine ⟨A, ρ, M, θ, O, rs, ?_⟩
  unfold truth at h ⊢
  cases r : ev (J.cfg k) e ρ M with
  | ok d M1 =>
    rw [r] at h
    cases d <;> first | exact (show False from h).elim | skip
    exact fun θ' H' x m => hq _ _ θ' H' x (rs.ext x m) (After.shift h x)
  | exc c v M1 => rw [r] at h; exact h
  | stuck => rw [r] at h; exact h
theorem tXs_of {b : Bool} {es : Es} {R : List D → Store → List Addr → Hp → Prop} {Q : List V → Hp → Prop} (rs : RS K A H O σ ρ θ M) (h : After K J O W σ θ H (evs (J.cfg k) es ρ M) R)
    (hq : ∀ d M1 θ1 H1, Ext θ θ1 H H1 → RS K A H1 O σ ρ θ1 M1 → R d M1 θ1 H1 → ∀ v, (if b = true then RepsB K H1 O θ1 d v else Reps K H1 O θ1 d v) → Q v H1) : tXs K J k W b es σ H Q :=
  ⟨A, ρ, M, θ, O, rs, h.mono fun d M1 θ1 H1 x m r => hq d M1 θ1 H1 x (rs.ext x m) r⟩
/-- the end of a pure step -/
theorem After.pure {α : Type} {o : Option α} {Q : α → Store → List Addr → Hp → Prop} (h : After K J O W σ θ H (Res.of M o) Q) : ∃ a, o = some a ∧ ∀ H', Same H H' → RM H O θ M → Q a M θ H' := by
  cases o with
  | none => exact (show False from h).elim
  | some a => exact ⟨a, rfl, fun H' s m => h θ H' (sm_ext s θ) (sm_rm s m)⟩
end
end RC

set_option Elab.async false
set_option linter.all false
set_option autoImplicit false
set_option maxRecDepth 100000
set_option maxHeartbeats 1000000
/-! Calls outside of any repr: the layer's promise of a def with one more thing known, that no repr is under way. -/
namespace RC
open PySem PySem.Spec PyProof.Rows L2
structure FnG (P : Program) (w : World) (K : PySem.W.Frag) (mg : Str → Option Value) (base : Heap) (CX : CXT) (k : Nat) (f : Addr) (fd : FuncData) (ps : List Str) (sp : Sp) : Prop where
  many : ∀ vs H Q E, sp vs H Q E → vs.length = ps.length
  does : ∀ (A : Around) (outer : List PySem.Env) (s : Shared) (H : Hp) (args : Args) (us : List Value) (vs : List V) (Q : VK) (E : XK), A.guards = some [] → Room k A → Env0 P w K mg base A outer s H → BindsTo s fd args (ps.zip us) → Vals vs us → sp vs H Q E →
    codeAny (model P w) A (.call (.ref f) args) (CR CX outer P w H s Q E) s
section
variable {P : Program} {w : World} {K : PySem.W.Frag} {mg : Str → Option Value} {base : Heap} {CX : CXT} {k : Nat} {f : Addr} {fd : FuncData} {ps N : List Str} {sp : Sp}
/-- a def by its body -/
theorem fnG_of {x qual : Str} {pa : Arguments} {body : List Stmt} {sc : Scope} (F : FunD K x qual pa body sc [] [] f fd) (S : FnScope N ps sc) (many : ∀ vs H Q E, sp vs H Q E → vs.length = ps.length)
    (hbody : ∀ (cd : Value) (A : Around) (outer : List PySem.Env) (s : Shared) (H : Hp) (vs : List V) (Q : VK) (E : XK), fd.code = cd → A.guards = some [] → Room k (A.deeper (envOfC qual sc s.heap.objs.size f cd)) → (A.deeper (envOfC qual sc s.heap.objs.size f cd)).units + 16 * k + 210 < cLine → sp vs H Q E →
      ∃ t, PSs (cxOf CX P w K mg base N qual sc f cd A outer s H E) body t ∧ t { nx := fun _ H' => Q .non H', rt := Q } (L2.start N vs) H) : FnG P w K mg base CX (k + 1) f fd ps sp := by
  obtain ⟨oc, od, dV, kV, doc, pm, an, cd, ct, osl, e, lk, hcd, _, _⟩ := F.ex
  subst e
  refine ⟨many, fun A outer s H args us vs Q E hg hr e0 hb rv hsp => ?_⟩
  have kin : K.In s.heap := e0.mod.kin.keeps fun a o q => (e0.bs a o q).1
  have nol : s.heap.NoLimit := e0.mod.nolimit.keeps fun a o q => (e0.bs a o q).1
  obtain ⟨t, pt, ht⟩ := hbody cd A outer s H vs Q E rfl hg (hr.deeper _) (by have := hr.un; show A.units + 3 + 16 * k + 210 < _; omega) hsp
  have names : ∀ y ∈ ps.zip us, sc.names.lookup y.1 = some .local ∨ (sc.names.lookup y.1 = some .cell ∧ ((cellsFrom (s.heap.objs.size + 1) sc.names []).lookup y.1).isSome = true) := by
    rintro ⟨n, v⟩ hy
    rcases S.par n (List.of_mem_zip hy).1 with q | q
    · exact .inl q
    · exact .inr ⟨q, PySem.W.cellsFrom_some _ _ _ (.inl q)⟩
  refine codeAny_call_function hr.depth (kin _ _ lk) rfl S.co S.gen rfl (PySem.W.codeRec_of kin hcd) (hb _ _ _ _ (wpAny_newFunctionEnv_cells S.kind names fun env ee s1 x => ?_))
  subst ee
  refine ⟨nol.keeps x.toInCall.keep, codeAny_func (wpAny_mono (pt.run [] s1 _ H _ (inv_start S hr.hd e0 (many _ _ _ _ hsp) rv x) ht) (fun fl s' hs => ?_) fun _ _ z => z)⟩
  cases fl with
  | next =>
    obtain ⟨_, H', I, q⟩ := hs
    exact ⟨.non, H', I.os, I.bare, I.base, I.hok, rfl, q⟩
  | ret u =>
    obtain ⟨v, _, H', I, r, q⟩ := hs
    exact ⟨v, H', I.os, I.bare, I.base, I.hok, r, q⟩
  | brk => obtain ⟨_, _, _, q⟩ := hs; exact q.elim
  | cont => obtain ⟨_, _, _, q⟩ := hs; exact q.elim
end
section
variable {X : Cx} {CX : CXT} {k : Nat} {f : Addr} {fd : FuncData} {ps : List Str} {sp : Sp} {E : L2.St → XK} {x : Str} {p pos : Pos} {e : Expr} {es : List Expr} {t : TA}
theorem pe_callG (F : FnG X.prog X.w X.K X.mg X.base CX k f fd ps sp) (gd : X.A.guards = some []) (hr : Room k X.A) (hg : Gl X x) (hm : X.mg x = some (.ref f)) (hk : PySem.W.keepIn X.K (.ref f) = true) (hb : Binds X.K fd ps []) (hx : ∀ σ, PassesAt CX X σ (E σ))
    (ha : PA X (e :: es) t) (hdb : (x == ("__debug__" : Str)) = false) (he : starEach (e :: es) X.env = (false, eval e X.env) :: starEach es X.env) (hpl : (backTo pos (starEach es X.env)).any (·.1) = false) :
    PE X (.Call (.Name x p) (e :: es) [] pos) (tCallS sp E t) := by
  constructor
  intro pins s σ H Q I h
  refine wpAny_Call_Name_kw (ld_glob I hg hm (PySem.W.callWith_K (h₀ := X.base) I.ok.mod.kin hk (thn (ha.run pos pins s σ H _ I h) fun us s1 ⟨vs, H1, I1, rv, q⟩ => ⟨I1.kIn, ?_⟩) he hpl) hdb)
  have many : us.length = ps.length := rv.length.symm.trans (F.many _ _ _ _ q)
  have bd : BindsTo s1 fd ⟨us, []⟩ (ps.zip us) := by
    have := hb s1 us I1.kIn (by simpa using many)
    simpa using this
  refine wpAny_call (codeAny_mono (F.does X.A X.stack s1 H1 ⟨us, []⟩ us vs Q (E σ) gd hr I1.env0 bd rv q) fun res s' hq => ?_)
  match res, hq with
  | .error e, hq => exact hx σ pins H1 s1 e s' I1 hq
  | .ok (.ret u), hq => exact I1.after hq
end
/-- the law's call: the script is a list that is no part of the module -/
theorem enterG {P : Program} {w : World} {K : PySem.W.Frag} {mg mb : Str → Option Value} {CX : CXT} {k : Nat} {fa a : Addr} {fd : FuncData} {x : Str} {sp : Sp} {s : Shared} {vs : List Value} {ns : List Int}
    (kin : K.In s.heap) (hns : s.heap.Ns mainGlobals mg) (hb : s.heap.Ns builtinsNs mb) (hbb : ∀ x : Str, x ≠ "__name__" → mb x = bootBuiltins x) (nol : s.heap.NoLimit) (hg : s.gens = #[])
    (ha : s.heap.get? a = some { cls := .type "list", data := .seq vs.toArray }) (hi : IntsAre vs ns) (hl : ns.length ≤ sizeLine) (hr : Room k callerA) (hk : K.lookup a = none)
    (F : ∀ base : Heap, K.In base → base.Ns mainGlobals mg → FnG P w K mg base CX k fa fd [x] sp) (hbind : BindsTo s fd ⟨[.ref a], []⟩ [(x, .ref a)])
    (hsp : ∀ (H : Hp) (o : Obj), (∀ b, b ≠ a → H b = none) → H a = some (.frz o (.lst (ns.map V.int))) → sp [.ref a] H (fun v _ => v = .bl true) fun _ _ _ => False)
    (hCX : ∀ H e s', CX [] H s (fun _ _ _ => False) e s' → False) :
    codeAny (model P w) callerA (.call (.ref fa) ⟨[.ref a], []⟩) (fun r s' => r = .ok (.ret (.bool true)) ∧ OldK s.heap s'.heap ∧ s'.os = s.os ∧ AllBare s'.gens) s := by
  obtain ⟨ob, eob⟩ : ∃ o : Obj, o = { cls := .type "list", data := .seq vs.toArray } := ⟨_, rfl⟩
  rw [← eob] at ha
  obtain ⟨H, Ha, Hb⟩ : ∃ H : Hp, H a = some (.frz ob (.lst (ns.map V.int))) ∧ ∀ b, b ≠ a → H b = none := ⟨fun b => if b = a then some (.frz ob (.lst (ns.map V.int))) else none, if_pos rfl, fun b hb => if_neg hb⟩
  have hok : HOk P w H s.heap := fun b u z => by
    by_cases q : b = a
    · subst q
      rw [Ha] at z
      cases z
      exact ⟨ha, by rw [List.length_map]; exact hl, vs, _, vals_ints hi, by rw [ha, eob]⟩
    · rw [Hb b q] at z; cases z
  have lives : ∀ {b : Addr} {o : Obj}, s.heap.get? b = some o → b ≠ a → (hidT s.heap H).get? b = some o := fun e n => hidT_get e (Hb _ n)
  have nsp : ∀ {b : Addr} {m : Str → Option Value}, s.heap.Ns b m → (hidT s.heap H).Ns b m := by
    rintro b m ⟨o, es, ep, e, d, r⟩
    refine ⟨o, es, ep, lives e fun z => ?_, d, r⟩
    subst z
    rw [ha] at e
    cases e
    rw [eob] at d
    cases d
  have kb : K.In (hidT s.heap H) := fun b o e => lives (kin b o e) fun z => by rw [z, hk] at e; cases e
  obtain ⟨mc, n1, n2⟩ := nol
  have e0 : Env0 P w K mg (hidT s.heap H) callerA [] s H := ⟨rfl, ⟨kb, nsp hns, ⟨mb, nsp hb, hbb⟩, ⟨mc, nsp n1, n2⟩⟩, fun b o e => of_hidT e, Nat.le_of_eq (hidT_size _ _), trivial, fun b hb => absurd (show b ∈ ([] : List Addr) from hb) (by simp), hok, .of_eq hg⟩
  refine codeAny_mono ((F _ kb (nsp hns)).does callerA [] s H ⟨[.ref a], []⟩ [.ref a] [.ref a] _ _ rfl hr e0 hbind (.cons rfl .nil) (hsp H ob Hb Ha)) fun res s' h => ?_
  match res, h with
  | .error e, h => exact (hCX H e s' h).elim
  | .ok (.ret u), h =>
    obtain ⟨v, H', os, bare, un, hok', rv, q⟩ := h
    have q' : v = .bl true := q
    subst q'
    obtain rfl : u = Value.bool true := rv
    refine ⟨rfl, OldK.of_keep fun b o e => ?_, os, bare⟩
    by_cases q : b = a
    · subst q
      obtain ⟨e1, _⟩ := hok' b _ (un.frzs b ob _ Ha)
      rw [ha] at e
      cases e
      exact e1
    · exact un.keep b o e (Hb b q) (fun z => absurd (show b ∈ ([] : List Addr) from z) (by simp)) (by simp)
end RC

set_option Elab.async false
set_option linter.all false
set_option autoImplicit false
set_option maxRecDepth 100000
set_option maxHeartbeats 2000000
/-! enumerate and zip over lists, tuples and texts in any mix, for the hand layer. -/
namespace RC
open PySem PySem.Spec PyProof.Rows L2
/-- what is drawn from -/
inductive Src where
  | L (a : Addr) | T (a : Addr) | S (x : Str) (t : Tok)
namespace Src
def u : Src → Value
  | .L a => .ref a
  | .T a => .ref a
  | .S x t => .str x t
def c : Src → String
  | .L _ => "list_iterator"
  | .T _ => "tuple_iterator"
  | .S x _ => strIterType x
def sq (K : PySem.W.Frag) (H : Hp) : Src → List V → Prop
  | .L a, xs => SqL K H a xs
  | .T a, xs => SqT K H a xs
  | .S x _, xs => xs = x.cps.toList.map fun c => V.str ⟨#[c]⟩
/-- its iterator's cell at turn i -/
def cell (q : Src) (h : Heap) (it : Addr) (i : Nat) : Prop := ∃ o, h.get? it = some o ∧ o.cls = .type q.c ∧ o.data = .fields #[q.u, .int i 0]
def holds : Src → Heap → List Value → Prop
  | .L a, h, its => h.IsList a its.toArray
  | .T a, h, its => h.IsTuple a its.toArray
  | .S _ _, _, _ => True
def ok : Src → List V → List Value → Prop
  | .L _, xs, its => Vals xs its
  | .T _, xs, its => Vals xs its
  | .S x _, xs, _ => xs = x.cps.toList.map fun c => V.str ⟨#[c]⟩
/-- apart from an address -/
def ap : Src → Addr → Prop
  | .L a, b => a ≠ b
  | .T a, b => a ≠ b
  | .S _ _, _ => True
def fp (it : Addr) : Src → List Addr
  | .L a => [it, a]
  | .T a => [it, a]
  | .S _ _ => [it]
theorem fp_it (q : Src) (it : Addr) : it ∈ q.fp it := by cases q <;> simp [fp]
theorem not_fp {q : Src} {it b : Addr} (h : q.ap b) (hn : b ≠ it) : b ∉ q.fp it := by
  cases q with
  | L a => intro z; have : b = it ∨ b = a := by simpa [fp] using z
           exact this.elim hn fun e => h e.symm
  | T a => intro z; have : b = it ∨ b = a := by simpa [fp] using z
           exact this.elim hn fun e => h e.symm
  | S _ _ => intro z; have : b = it := by simpa [fp] using z
             exact hn this
end Src
section
variable {X : Cx} {pins : List (Addr × Obj)} {σ : L2.St} {H : Hp} {s : Shared}
theorem src_in {q : Src} {xs : List V} (I : Inv X pins σ H s) (h : q.sq X.K H xs) : ∃ its, q.ok xs its ∧ q.holds s.heap its := by
  cases q with
  | L a =>
    obtain ⟨its, rv, p, _⟩ := I.list h
    exact ⟨its, rv, p.isList⟩
  | T a =>
    obtain ⟨its, rv, p, _⟩ := I.tuple h
    exact ⟨its, rv, p⟩
  | S x t => exact ⟨[], h, trivial⟩
theorem src_inj {q : Src} {xs ys : List V} (I : Inv X pins σ H s) (h : q.sq X.K H xs) (h' : q.sq X.K H ys) : xs = ys := by
  cases q with
  | L a => exact I.list_inj h h'
  | T a => exact I.tuple_inj h h'
  | S x t => exact (show xs = _ from h).trans (show ys = _ from h').symm
theorem src_lt {q : Src} {its : List Value} {h : Heap} (hh : q.holds h its) : ∀ b, h.objs.size ≤ b → q.ap b := by
  intro b hb
  cases q with
  | L a => obtain ⟨o, e, _⟩ := hh; exact Nat.ne_of_lt (Nat.lt_of_lt_of_le (Heap.lt_size e) hb)
  | T a => obtain ⟨o, e, _⟩ := hh; exact Nat.ne_of_lt (Nat.lt_of_lt_of_le (Heap.lt_size e) hb)
  | S x t => trivial
end
/-- another way to tell what is drawn -/
theorem draws_as {P : Program} {w : World} {A : Around} {it : Addr} {fp : List Addr} {n n' : Nat} {R R' : Nat → Value → Prop} {St St' : Nat → Heap → Prop} (D : Draws P w A it fp n R St) (hn : n = n') (hR : ∀ i v, R i v → R' i v) (hS : ∀ i h, St i h ↔ St' i h) : Draws P w A it fp n' R' St' := by
  subst hn
  exact ⟨fun i h z => D.live i h ((hS i h).mpr z), fun i h h' z k => (hS i h').mp (D.frame i h h' ((hS i h).mpr z) k), fun i s Q E hi z hQ => D.item i s Q E hi ((hS i _).mpr z) fun x h' tk r z' sb => hQ x h' tk (hR i x r) ((hS _ _).mp z') sb, fun s Q E z hE => D.done s Q E ((hS _ _).mpr z) hE⟩
theorem src_draws {P : Program} {w : World} {A : Around} (hh : A.handled = none) (q : Src) (it : Addr) (hap : q.ap it) {xs : List V} {its : List Value} (ok : q.ok xs its) :
    Draws P w A it (q.fp it) xs.length (fun i v => ∃ x, xs[i]? = some x ∧ RelV x v) (fun i h => q.cell h it i ∧ q.holds h its) := by
  cases q with
  | L a =>
    have rv : Vals xs its := ok
    refine draws_as (Draws.list hh it a hap its.toArray) (by rw [List.size_toArray]; exact rv.length.symm) (fun i v e => ?_) fun i h => Iff.rfl
    have e' : its[i]? = some v := by simpa using e
    have hi : i < xs.length := by rw [rv.length]; exact (List.getElem?_eq_some_iff.mp e').1
    obtain ⟨u, hu, ru⟩ := rv.get (List.getElem?_eq_getElem hi)
    rw [e'] at hu; cases hu
    exact ⟨_, List.getElem?_eq_getElem hi, ru⟩
  | T a =>
    have rv : Vals xs its := ok
    refine draws_as (Draws.tuple hh it a hap its.toArray) (by rw [List.size_toArray]; exact rv.length.symm) (fun i v e => ?_) fun i h => Iff.rfl
    have e' : its[i]? = some v := by simpa using e
    have hi : i < xs.length := by rw [rv.length]; exact (List.getElem?_eq_some_iff.mp e').1
    obtain ⟨u, hu, ru⟩ := rv.get (List.getElem?_eq_getElem hi)
    rw [e'] at hu; cases hu
    exact ⟨_, List.getElem?_eq_getElem hi, ru⟩
  | S x t =>
    have ex : xs = x.cps.toList.map fun c => V.str ⟨#[c]⟩ := ok
    refine draws_as (Draws.text hh it x t) (by rw [ex]; simp) (fun i v ⟨c, u, e, ev⟩ => ⟨.str ⟨#[c]⟩, ?_, u, ev⟩) fun i h => ⟨fun z => ⟨z, trivial⟩, fun z => z.1⟩
    rw [ex, List.getElem?_map]
    have : x.cps.toList[i]? = some c := by simpa using e
    rw [this]; rfl
theorem src_begins (q : Src) (its : List Value) : Begins q.u { cls := .type q.c, data := .fields #[q.u, .int 0 0] } fun h => q.holds h its := by
  cases q with
  | L a => exact begins_list a its.toArray
  | T a => exact begins_tuple a its.toArray
  | S x t => exact begins_text x t
theorem cell_keep {q : Src} {h h' : Heap} {it : Addr} {i : Nat} (z : q.cell h it i) (k : ∀ o, h.get? it = some o → h'.get? it = some o) : q.cell h' it i := by
  obtain ⟨o, e, r⟩ := z
  exact ⟨o, k o e, r⟩
/-! ### enumerate -/
def IteX (K : PySem.W.Frag) (q : Src) : L2.It :=
  ⟨fun i H => ∃ xs x, q.sq K H xs ∧ xs[i]? = some x, fun i H v H' => ∃ T x, v = .ref T ∧ H T = none ∧ H' = upd H T (.tup [.int (i : Nat), x]) ∧ ∀ xs, q.sq K H xs → xs[i]? = some x, fun i H => ∃ xs, q.sq K H xs ∧ i = xs.length⟩
theorem turn_enumX {P : Program} {w : World} {K : PySem.W.Frag} {elts : List Expr} {kk : Nat} {tpos : Pos} (q : Src) (e it : Addr) (hne : e ≠ it) (ap1 : q.ap e) (ap2 : q.ap it) :
    Turn P w K (.Tuple elts kk tpos) (IteX K q) [e, it] e (fun i h => (∃ old, IsEnum h e it ((i : Nat) : Int) old) ∧ q.cell h it i) where
  mem := by simp
  obj := fun i h ⟨⟨old, he⟩, o, ho, hc, hd⟩ b hb => by
    have : b = e ∨ b = it := by simpa using hb
    rcases this with z | z
    · rw [z]; exact ⟨_, he, fun v q => nomatch q⟩
    · rw [z]; exact ⟨o, ho, fun v q => by rw [hd] at q; cases q⟩
  keep := fun i h h' ⟨⟨old, he⟩, ci⟩ k => ⟨⟨old, k e (by simp) _ he⟩, cell_keep ci fun o q => k it (by simp) o q⟩
  item := by
    intro X hP hw hK hc i pins s σ H E I hf st hg
    subst hP hw hK
    obtain ⟨⟨old, he⟩, ci⟩ := st
    obtain ⟨xs, x, hq, hx⟩ := hg
    obtain ⟨its, ok, hold⟩ := src_in I hq
    have D := src_draws (P := X.prog) (w := X.w) (A := X.A.in1) (I.ok.hd hc) q it ap2 ok
    have hi : i < xs.length := (List.getElem?_eq_some_iff.mp hx).1
    have hel : e < s.heap.objs.size := Heap.lt_size he
    have hil : it < s.heap.objs.size := by obtain ⟨_, z, _⟩ := ci; exact Heap.lt_size z
    refine wpAny_pyNext_enum_itemD D he ⟨ci, hold⟩ hi hne (Src.not_fp ap1 hne) fun v h' tk hP ho st' hT hsz hk => ?_
    obtain ⟨x', hx', rv⟩ := hP
    rw [hx] at hx'; cases hx'
    refine ⟨_, rfl, wpAny_letOwnedTupleGo_enum (s := { s with heap := h', toks := tk + 1 }) ho fun h'' he' sb => ?_⟩
    have hT2 : h''.get? s.heap.objs.size = some { cls := .type "tuple", data := .seq #[.int i tk, v] } := (sb.2 _ (Nat.ne_of_gt hel)).trans hT
    have new : ObjOk X.prog X.w (upd H s.heap.objs.size (.tup [.int (i : Nat), x])) h'' s.heap.objs.size (.tup [.int (i : Nat), x]) :=
      ⟨by show 2 ≤ sizeLine; decide, [.int i tk, v], .cons ⟨_, rfl⟩ (.cons rv .nil), ⟨_, hT2, rfl, _, rfl⟩⟩
    have I1 : Inv X pins σ (upd H s.heap.objs.size (.tup [.int (i : Nat), x])) { s with heap := h'', toks := tk + 1 } :=
      I.turnedNew (ch := [e, it]) (fun b ob hb z => (sb.2 b (fun y => hb (by simp [y]))).trans (hk b ob (fun y => hb (by simp [y])) (fun y => hb (by simp [y])) z)) hf (Nat.le_refl _) new
    refine ⟨.ref s.heap.objs.size, _, I1, rfl, ⟨_, x, rfl, I.hok.fresh (Nat.le_refl _), rfl, fun ys hy => by rw [src_inj I hy hq]; exact hx⟩, ⟨⟨v, ?_⟩, cell_keep st'.1 fun o z => (sb.2 it (Ne.symm hne)).trans z⟩, fun b hb => ?_⟩
    · have e1 : ((i + 1 : Nat) : Int) = (i : Int) + 1 := by omega
      rw [e1]; exact he'
    · have hb' : b < s.heap.objs.size := by
        have : b = e ∨ b = it := by simpa using hb
        rcases this with z | z
        · rw [z]; exact hel
        · rw [z]; exact hil
      rw [upd_ne (Nat.ne_of_lt hb')]
      exact (hf b hb).1
  done := by
    intro X hP hw hK hc i pins s σ H E I hf st hg
    subst hP hw hK
    obtain ⟨⟨old, he⟩, ci⟩ := st
    obtain ⟨xs, hq, hx⟩ := hg
    obtain ⟨its, ok, hold⟩ := src_in I hq
    have D := src_draws (P := X.prog) (w := X.w) (A := X.A.in1) (I.ok.hd hc) q it ap2 ok
    obtain ⟨f0, f1, f2, f3, f4, f5⟩ := hf it (by simp)
    subst hx
    exact wpAny_pyNext_enum_endD D he ⟨ci, hold⟩ fun h' eb => ⟨rfl, I.turned (t' := s.toks) (fun b o hb z => eb b o hb z) f0 f1 f3 f4 f5⟩
  self := fun A i s Q E ⟨⟨_, he⟩, _⟩ h => wpAny_pyIter_enum he h
/-- the sources that a value may be -/
def SrcOf (v : V) (mk : Tok → Src) : Prop := ∀ u, RelV v u → ∃ t, (mk t).u = u
theorem meets_enum1 {v : Value} {o : Obj} {H : Heap → Prop} (B : Begins v o H) :
    Meets (Builtin.«enumerate.__new__» ⟨[.type "enumerate", v], []⟩) (fun _ R s => H s.heap ∧
      R (.ok (.ret (.ref (s.heap.push o).objs.size))) { s with heap := (s.heap.push o).push { cls := .type "enumerate", data := .fields #[.none, .bool false, .ref s.heap.objs.size, rawInt 0, .none, .none] } }) :=
  .of_wp fun prog w A R s ⟨h1, h⟩ => by
    obtain ⟨hp, g, d, tk, os⟩ := s
    have hsub := sub_enumerate
    have it1 : ∀ {A' : Around} {E : Value → Shared → Prop} {Q : Value → Shared → Prop}, Q (.ref hp.objs.size) ⟨hp.push o, g, d, tk, os⟩ → wpAny (model prog w) A' (pyIter v) Q E ⟨hp, g, d, tk, os⟩ :=
      fun z => B.iter prog w _ _ ⟨hp, g, d, tk, os⟩ _ h1 z
    wp_walk using it1
    refine wpAny_stack_any fun st => wpAny_pure ?_
    split
    · rename_i c _ _ _ _ _
      cases (c == Value.type "enumerate") <;> (wp_walk using it1; exact ⟨_, rfl, h⟩)
    · wp_walk using it1
      exact ⟨_, rfl, h⟩
theorem enum1 {prog : Program} {w : World} {A : Around} {E : Value → Shared → Prop} {s : Shared} {v : Value} {o : Obj} {H : Heap → Prop} {Q : Value → Shared → Prop} (B : Begins v o H) (h1 : H s.heap)
    (h : ∀ h', IsEnum h' (s.heap.objs.size + 1) s.heap.objs.size 0 .none → h'.get? s.heap.objs.size = some o → (∀ b o, s.heap.get? b = some o → h'.get? b = some o) → Q (.ref (s.heap.objs.size + 1)) { s with heap := h' }) :
    wpAny (model prog w) A (call (.type "enumerate") [v]) Q E s := by
  refine callType_new F.called_enumerate (by decide) (F.typeCall_enumerate_1 _) (F.newCall_enumerate_1 _) (fun obj => F.args_object_init_2 obj _) F.entry_enumerate_new (meets_enum1 B) ⟨h1, ?_⟩
  have hz : (s.heap.push o).objs.size = s.heap.objs.size + 1 := Heap.size_push ..
  have he := Heap.get?_push_size (s.heap.push o) (o := { cls := .type "enumerate", data := .fields #[.none, .bool false, .ref s.heap.objs.size, rawInt 0, .none, .none] }) rfl
  show _ ∧ _
  rw [hz] at he ⊢
  exact ⟨⟨_, he, rfl⟩, h _ he (Heap.get?_push_of_some _ (Heap.get?_push_size _ B.free)) fun b o x => Heap.get?_push_of_some _ (Heap.get?_push_of_some _ x)⟩
def iEnumX (K : PySem.W.Frag) (ta : TA) : TI := fun σ H R => ta σ H fun vs H1 => ∃ v mk xs, vs = [v] ∧ SrcOf v mk ∧ (∀ t, (mk t).sq K H1 xs) ∧ ∀ t, R (IteX K (mk t)) H1
theorem pi_enumX {X : Cx} {e : Expr} {ta : TA} {p pos tpos : Pos} {elts : List Expr} {kk : Nat} (hg : Gl X "enumerate") (hm : X.mg "enumerate" = none) (ha : PA X [e] ta) (hs : starEach [e] X.env = [(false, eval e X.env)]) :
    PI X (.Tuple elts kk tpos) (.Call (.Name "enumerate" p) [e] [] pos) (iEnumX X.K ta) := by
  constructor
  intro pins s σ H R I h
  refine Call_ (ld_blt I hg hm boot_enumerate (PyProof.Rows.callWith_type1 (thn (ha.run pos pins s σ H _ I h) fun us s1 ⟨vs, H1, I1, r1, v, mk, xs, ev, so, hq, hR⟩ => ?_) hs rfl))
  subst ev
  obtain ⟨u, rfl, ru⟩ := r1.one
  obtain ⟨t, eu⟩ := so u ru
  obtain ⟨its, ok, hold⟩ := src_in I1 (hq t)
  rw [← eu]
  have lt := src_lt hold
  refine enum1 (src_begins (mk t) its) hold fun h' he hit hk => wpAny_pyIter_enum he ?_
  have I2 : Inv X pins σ H1 { s1 with heap := h' } := I1.kept (t' := s1.toks) hk
  refine ⟨s1.heap.objs.size + 1, [s1.heap.objs.size + 1, s1.heap.objs.size], _, _, H1, rfl, I2, turn_enumX (mk t) (s1.heap.objs.size + 1) s1.heap.objs.size (Nat.succ_ne_self _) (lt _ (Nat.le_succ _)) (lt _ (Nat.le_refl _)), ⟨⟨.none, he⟩, ⟨_, hit, rfl, rfl⟩⟩, fun b hb => ?_, hR t⟩
  have hle : s1.heap.objs.size ≤ b := by
    have : b = s1.heap.objs.size + 1 ∨ b = s1.heap.objs.size := by simpa using hb
    rcases this with z | z
    · rw [z]; exact Nat.le_add_right _ _
    · rw [z]; exact Nat.le_refl _
  exact I1.fpOk hle (I1.hok.fresh hle)
/-! ### zip -/
def ItzX (K : PySem.W.Frag) (q r : Src) : L2.It :=
  ⟨fun i H => ∃ xs ys x y, q.sq K H xs ∧ r.sq K H ys ∧ xs[i]? = some x ∧ ys[i]? = some y,
    fun i H v H' => ∃ T x y, v = .ref T ∧ H T = none ∧ H' = upd H T (.tup [x, y]) ∧ (∀ xs, q.sq K H xs → xs[i]? = some x) ∧ ∀ ys, r.sq K H ys → ys[i]? = some y,
    fun i H => ∃ xs ys, q.sq K H xs ∧ r.sq K H ys ∧ i = min xs.length ys.length⟩
structure Apart (q r : Src) (z TI TO i1 i2 : Addr) : Prop where
  a : TI ≠ z
  b : TO ≠ z
  c : TI ≠ TO
  d : TI ≠ i1
  e : TI ≠ i2
  f : z ≠ i1
  g : z ≠ i2
  h : TO ≠ i1
  i : TO ≠ i2
  j : i1 ≠ i2
  qs : ∀ b ∈ [z, TI, TO, i1, i2], q.ap b
  rs : ∀ b ∈ [z, TI, TO, i1, i2], r.ap b
theorem Apart.sep {q r : Src} {z TI TO i1 i2 : Addr} (D : Apart q r z TI TO i1 i2) : ZipSep2 z TI TO i1 i2 (q.fp i1) (r.fp i2) :=
  ⟨D.a, D.b, D.c, D.d, q.fp_it i1, Src.not_fp (D.qs z (by simp)) D.f, Src.not_fp (D.qs TO (by simp)) D.h, D.e, r.fp_it i2, Src.not_fp (D.rs z (by simp)) D.g, Src.not_fp (D.rs TO (by simp)) D.i, Src.not_fp (D.rs i1 (by simp)) D.j, Src.not_fp (D.qs i2 (by simp)) (Ne.symm D.j)⟩
theorem turn_zipX {P : Program} {w : World} {K : PySem.W.Frag} {elts : List Expr} {kk : Nat} {tpos : Pos} {q r : Src} {z TI TO i1 i2 : Addr} (D : Apart q r z TI TO i1 i2) :
    Turn P w K (.Tuple elts kk tpos) (ItzX K q r) [z, TI, TO, i1, i2] z (fun i h => IsZip h z TI TO .none ∧ IsTupOf2 h TI (.ref i1) (.ref i2) ∧ (∃ x y, IsTupOf2 h TO x y) ∧ q.cell h i1 i ∧ r.cell h i2 i) where
  mem := by simp
  obj := fun i h ⟨hz, hTI, ⟨x, y, hTO⟩, ⟨o1, e1, _, d1⟩, ⟨o2, e2, _, d2⟩⟩ c hc => by
    have : c = z ∨ c = TI ∨ c = TO ∨ c = i1 ∨ c = i2 := by simpa using hc
    rcases this with y | y | y | y | y
    · rw [y]; exact ⟨_, hz, fun v q => nomatch q⟩
    · rw [y]; exact ⟨_, hTI, fun v q => nomatch q⟩
    · rw [y]; exact ⟨_, hTO, fun v q => nomatch q⟩
    · rw [y]; exact ⟨o1, e1, fun v q => by rw [d1] at q; cases q⟩
    · rw [y]; exact ⟨o2, e2, fun v q => by rw [d2] at q; cases q⟩
  keep := fun i h h' ⟨hz, hTI, ⟨x, y, hTO⟩, h1, h2⟩ k => ⟨k z (by simp) _ hz, k TI (by simp) _ hTI, ⟨x, y, k TO (by simp) _ hTO⟩, cell_keep h1 fun o e => k i1 (by simp) o e, cell_keep h2 fun o e => k i2 (by simp) o e⟩
  item := by
    intro X hP hw hK hc i pins s σ H E I hf st hg
    subst hP hw hK
    obtain ⟨hz, hTI, ⟨x0, y0, hTO⟩, h1, h2⟩ := st
    obtain ⟨xs, ys, x, y, hqx, hqy, hx, hy⟩ := hg
    obtain ⟨its, ok1, ho1⟩ := src_in I hqx
    obtain ⟨its2, ok2, ho2⟩ := src_in I hqy
    have D1 := src_draws (P := X.prog) (w := X.w) (A := X.A.in1) (I.ok.hd hc) q i1 (D.qs i1 (by simp)) ok1
    have D2 := src_draws (P := X.prog) (w := X.w) (A := X.A.in1) (I.ok.hd hc) r i2 (D.rs i2 (by simp)) ok2
    have hzl : z < s.heap.objs.size := Heap.lt_size hz
    refine wpAny_pyNext_zipD2_item D.sep D1 D2 hz hTI hTO ⟨h1, ho1⟩ ⟨h2, ho2⟩ (List.getElem?_eq_some_iff.mp hx).1 (List.getElem?_eq_some_iff.mp hy).1 fun v1 v2 h' tk p1 p2 hz' hTO' t1 t2 hT hsz hk => ?_
    obtain ⟨x', ex, rx⟩ := p1
    rw [hx] at ex; cases ex
    obtain ⟨y', ey, ry⟩ := p2
    rw [hy] at ey; cases ey
    refine ⟨_, rfl, wpAny_letOwnedTupleGo_zip (s := { s with heap := h', toks := tk }) hz' fun h'' z'' sb => ?_⟩
    have hT2 : h''.get? s.heap.objs.size = some { cls := .type "tuple", data := .seq #[v1, v2] } := (sb.2 _ (Nat.ne_of_gt hzl)).trans hT
    have new : ObjOk X.prog X.w (upd H s.heap.objs.size (.tup [x, y])) h'' s.heap.objs.size (.tup [x, y]) :=
      ⟨by show 2 ≤ sizeLine; decide, [v1, v2], .cons rx (.cons ry .nil), ⟨_, hT2, rfl, _, rfl⟩⟩
    have I1 : Inv X pins σ (upd H s.heap.objs.size (.tup [x, y])) { s with heap := h'', toks := tk } :=
      I.turnedNew (ch := [z, TI, TO, i1, i2]) (fun c o hb e => (sb.2 c (fun w => hb (by simp [w]))).trans (hk c o (fun w => hb (by simp [w])) (fun w => hb (by simp [w])) (fun w => hb (by simp [w])) (fun w => hb (by simp [w])) e)) hf (Nat.le_refl _) new
    refine ⟨.ref s.heap.objs.size, _, I1, rfl, ⟨_, x, y, rfl, I.hok.fresh (Nat.le_refl _), rfl, fun l hl => by rw [src_inj I hl hqx]; exact hx, fun l hl => by rw [src_inj I hl hqy]; exact hy⟩, ⟨z'', ?_, ⟨v1, v2, ?_⟩, ?_, ?_⟩, fun c hcm => ?_⟩
    · exact (sb.2 _ D.a).trans (hk _ _ D.a D.c D.d D.e hTI)
    · exact (sb.2 _ D.b).trans hTO'
    · exact cell_keep t1.1 fun o e => (sb.2 _ (Ne.symm D.f)).trans e
    · exact cell_keep t2.1 fun o e => (sb.2 _ (Ne.symm D.g)).trans e
    · have hlt : c < s.heap.objs.size := by
        have : c = z ∨ c = TI ∨ c = TO ∨ c = i1 ∨ c = i2 := by simpa using hcm
        rcases this with w | w | w | w | w
        · rw [w]; exact hzl
        · rw [w]; exact Heap.lt_size hTI
        · rw [w]; exact Heap.lt_size hTO
        · rw [w]; obtain ⟨_, e1, _⟩ := h1; exact Heap.lt_size e1
        · rw [w]; obtain ⟨_, e2, _⟩ := h2; exact Heap.lt_size e2
      rw [upd_ne (Nat.ne_of_lt hlt)]
      exact (hf c hcm).1
  done := by
    intro X hP hw hK hc i pins s σ H E I hf st hg
    subst hP hw hK
    obtain ⟨hz, hTI, ⟨x0, y0, hTO⟩, h1, h2⟩ := st
    obtain ⟨xs, ys, hqx, hqy, hend⟩ := hg
    obtain ⟨its, ok1, ho1⟩ := src_in I hqx
    obtain ⟨its2, ok2, ho2⟩ := src_in I hqy
    have D1 := src_draws (P := X.prog) (w := X.w) (A := X.A.in1) (I.ok.hd hc) q i1 (D.qs i1 (by simp)) ok1
    have D2 := src_draws (P := X.prog) (w := X.w) (A := X.A.in1) (I.ok.hd hc) r i2 (D.rs i2 (by simp)) ok2
    exact wpAny_pyNext_zipD2_end D.sep D1 D2 hz hTI hTO ⟨h1, ho1⟩ ⟨h2, ho2⟩ (by omega) (by omega) (by omega) fun h' tk hk => ⟨rfl, I.turnedL (t' := tk) (ch := [z, TI, TO, i1, i2]) (fun c o hb e =>
      hk c o (fun w => hb (by simp [w])) (fun w => hb (by simp [w])) (fun w => hb (by simp [w])) (fun w => hb (by simp [w])) e) hf⟩
  self := fun A i s Q E st h => wpAny_pyIter_zip st.1 h
theorem five_le (N : Nat) : ∀ c ∈ [N + 4, N + 2, N + 3, N, N + 1], N ≤ c := by
  intro c hc
  have : c = N + 4 ∨ c = N + 2 ∨ c = N + 3 ∨ c = N ∨ c = N + 1 := by simpa using hc
  omega
theorem apart_new {q r : Src} (N : Nat) (h1 : ∀ b, N ≤ b → q.ap b) (h2 : ∀ b, N ≤ b → r.ap b) : Apart q r (N + 4) (N + 2) (N + 3) N (N + 1) :=
  ⟨show (N + 2 : Nat) ≠ N + 4 by omega, show (N + 3 : Nat) ≠ N + 4 by omega, show (N + 2 : Nat) ≠ N + 3 by omega, show (N + 2 : Nat) ≠ N by omega, show (N + 2 : Nat) ≠ N + 1 by omega, show (N + 4 : Nat) ≠ N by omega, show (N + 4 : Nat) ≠ N + 1 by omega, show (N + 3 : Nat) ≠ N by omega, show (N + 3 : Nat) ≠ N + 1 by omega, show (N : Nat) ≠ N + 1 by omega, fun b hb => h1 b (five_le N b hb), fun b hb => h2 b (five_le N b hb)⟩
def iZipX (K : PySem.W.Frag) (ta : TA) : TI := fun σ H R => ta σ H fun vs H1 => ∃ v v' mk mk' xs ys, vs = [v, v'] ∧ SrcOf v mk ∧ SrcOf v' mk' ∧ (∀ t, (mk t).sq K H1 xs) ∧ (∀ t, (mk' t).sq K H1 ys) ∧ ∀ t t', R (ItzX K (mk t) (mk' t')) H1
theorem pi_zipX {X : Cx} {e e2 : Expr} {ta : TA} {p pos tpos : Pos} {elts : List Expr} {kk : Nat} (hg : Gl X "zip") (hm : X.mg "zip" = none) (ha : PA X [e, e2] ta)
    (hs : starEach [e, e2] X.env = (false, eval e X.env) :: starEach [e2] X.env) (hpl : (backTo pos (starEach [e2] X.env)).any (·.1) = false) :
    PI X (.Tuple elts kk tpos) (.Call (.Name "zip" p) [e, e2] [] pos) (iZipX X.K ta) := by
  constructor
  intro pins s σ H R I h
  refine Call_ (ld_blt I hg hm PyProof.Rows.boot_zip (PyProof.Rows.callWith_type1 (thn (ha.run pos pins s σ H _ I h) fun us s1 ⟨vs, H1, I1, r1, v, v', mk, mk', xs, ys, ev, so, so', hq, hq', hR⟩ => ?_) hs hpl))
  subst ev
  obtain ⟨u, u', rfl, ru, ru'⟩ := r1.two
  obtain ⟨t, eu⟩ := so u ru
  obtain ⟨t', eu'⟩ := so' u' ru'
  obtain ⟨its, ok1, ho1⟩ := src_in I1 (hq t)
  obtain ⟨its2, ok2, ho2⟩ := src_in I1 (hq' t')
  rw [← eu, ← eu']
  refine zip_begins2 (src_begins (mk t) its) (src_begins (mk' t') its2) ho1 ho2 fun h' hz hTI hTO h1 h2 hsz hk => wpAny_pyIter_zip hz ?_
  have I2 : Inv X pins σ H1 { s1 with heap := h' } := I1.kept (t' := s1.toks) hk
  refine ⟨s1.heap.objs.size + 4, [s1.heap.objs.size + 4, s1.heap.objs.size + 2, s1.heap.objs.size + 3, s1.heap.objs.size, s1.heap.objs.size + 1], _, _, H1, rfl, I2, turn_zipX (apart_new s1.heap.objs.size (src_lt ho1) (src_lt ho2)), ⟨hz, hTI, ⟨_, _, hTO⟩, ⟨_, h1, rfl, rfl⟩, ⟨_, h2, rfl, rfl⟩⟩, fun c hcm => ?_, hR t t'⟩
  have hle := five_le s1.heap.objs.size c hcm
  exact I1.fpOk hle (I1.hok.fresh hle)
end RC

set_option Elab.async false
set_option linter.all false
set_option autoImplicit false
set_option maxRecDepth 100000
set_option maxHeartbeats 2000000
/-! Errors that are caught and kept. -/
namespace RC
open PySem PySem.Spec PyProof.Rows L2
theorem erO_ok {P : Program} {w : World} {H : Hp} {h : Heap} {a : Addr} {cls : Value} {d : Option Addr} {oe : Obj} {vs : Array Value} (e : h.get? a = some oe) (z : Zc cls d oe) (dd : oe.data = .fields vs) : ObjOk P w H h a (ErO cls d a) :=
  ⟨⟨oe, vs, e, z, dd⟩, ⟨oe, e⟩, fun h1 h2 ⟨o, v, q, r⟩ k => ⟨o, v, k o q, r⟩⟩
theorem erO_at {P : Program} {w : World} {H : Hp} {h : Heap} {a : Addr} {cls : Value} {d : Option Addr} (hok : HOk P w H h) (e : H a = some (ErO cls d a)) : ∃ (oe : Obj) (vs : Array Value), h.get? a = some oe ∧ Zc cls d oe ∧ oe.data = .fields vs := by
  have x : ObjOk P w H h a (.ext fun h => ∃ (oe : Obj) (vs : Array Value), h.get? a = some oe ∧ Zc cls d oe ∧ oe.data = .fields vs) := hok a _ e
  exact x.1
section
variable {X : Cx} {pins : List (Addr × Obj)} {σ : L2.St} {H : Hp} {s : Shared}
/-- a caught error is known from now on -/
theorem inv_hold {a : Addr} {oe : Obj} {cls : Value} {d : Option Addr} {vs : Array Value} (I : Inv X pins σ H s) (ha : s.heap.get? a = some oe) (hz : Zc cls d oe) (hd : oe.data = .fields vs) (na : H a = none) (nL : a ≠ X.env.locals)
    (n0 : X.s_0.heap.get? a = none) (np : ∀ p ∈ X.pn ++ pins, p.1 ≠ a) : Inv X pins σ (upd H a (ErO cls d a)) s := by
  have n1 : ∀ b o, X.s_0.heap.get? b = some o → b ≠ a := fun b o e z => by rw [z, n0] at e; cases e
  refine ⟨I.ok, I.os, I.bare, ⟨I.base.keep, I.base.slot, fun b o e n x => ?_, I.base.there, fun b xs e => ?_, fun b o u e => ?_, fun b ps e => ?_⟩, I.loc, I.cell, ?_, fun x c e => ?_, fun p hp => ?_, fun b u e => ?_, I.len⟩
  · rw [upd_ne (n1 b o e)]; exact I.base.free b o e n x
  · have q := I.base.tups b xs e
    rw [upd_ne (ne_of_none q na)]; exact q
  · have q := I.base.frzs b o u e
    rw [upd_ne (ne_of_none q na)]; exact q
  · obtain ⟨m, q⟩ := I.base.tbls b ps e
    exact ⟨m, by rw [upd_ne (ne_of_none q na)]; exact q⟩
  · rw [upd_ne (Ne.symm nL)]; exact I.free
  · obtain ⟨v, o, ho, hv⟩ := I.cell x c e
    have hne : c ≠ a := fun z => by
      rw [z, ha] at ho
      cases ho
      rw [hd] at hv; cases hv
    rw [upd_ne hne]; exact I.freeC x c e
  · obtain ⟨e, n, r⟩ := I.pin p hp
    exact ⟨e, by rw [upd_ne (np p hp)]; exact n, r⟩
  · by_cases hb : b = a
    · subst hb
      rw [upd_same] at e
      cases e
      exact erO_ok ha hz hd
    · rw [upd_ne hb] at e
      exact (I.hok b u e).stay (fun _ _ _ q => q) (fun c q => by rw [upd_ne (ne_of_none q na)]; exact q) fun c xs q => by rw [upd_ne (ne_of_none q na)]; exact q
theorem flyZ_keeps {B h h' : Heap} {l : List PySem.Env} {e : Addr} {Z : Obj → Prop} (R : HandSPX.FlyingZ B l e Z h) (k : ∀ b o, h.get? b = some o → h'.get? b = some o) : HandSPX.FlyingZ B l e Z h' := by
  obtain ⟨r1, r2, r3, oe, vs, T, oT, ts, q1, q2, q3, q4, q5, q6, q7, q8⟩ := R
  exact ⟨fun b o z => k b o (r1 b o z), r2, Heap.FunFrames.of_keeps (fun b o z _ => ⟨o, k b o z, rfl⟩) r3, oe, vs, T, oT, ts, k _ _ q1, q2, q3, q4, q5, q6, k _ _ q7, q8⟩
/-- what an except clause asks for: classes by their names -/
inductive Tst (X : Cx) : Expr → List Value → Prop
  | one {x : Str} {p : Pos} {c : Value} (h : Names X x c) : Tst X (.Name x p) [c]
  | two {x y : Str} {p q r : Pos} {n : Nat} {c c' : Value} (h : Names X x c) (h' : Names X y c') : Tst X (.Tuple [.Name x p, .Name y q] n r) [c, c']
  | three {x y z : Str} {p q r t : Pos} {n : Nat} {c c' c'' : Value} (h : Names X x c) (h' : Names X y c') (h'' : Names X z c'') : Tst X (.Tuple [.Name x p, .Name y q, .Name z r] n t) [c, c', c'']
theorem names_run {a : Addr} {pn : List (Addr × Obj)} {x : Str} {c : Value} {p : Pos} {Q : Value → Shared → Prop} {E : Value → Shared → Prop} (h : Names X x c) (S : Inv (X.suite a pn) pins σ H s) (q : Q c s) :
    wpAny (model X.prog X.w) (X.A.mark (some (.ref a))) (eval (.Name x p) X.env) Q E s := by
  obtain ⟨hg, hb, h1 | ⟨h1, h2, h3⟩⟩ := h
  · exact ld_glob (X := X.suite a pn) S hg h1 q hb
  · exact ld_blt (X := X.suite a pn) S hg h1 h2 q h3 hb
theorem tst_run {t : Expr} {cs : List Value} {a : Addr} {pn : List (Addr × Obj)} {cls : Value} {b : Bool} {Q : Bool → Shared → Prop} {E : Value → Shared → Prop} (T : Tst X t cs) (S : Inv (X.suite a pn) pins σ H s)
    (LT : PySem.W.Looks (model X.prog X.w) s.heap (typeOf (.ref a)) cls) (hb : PySem.W.exmAny X.K cls cs = some b) (hq : ∀ h', (∀ b o, s.heap.get? b = some o → h'.get? b = some o) → Q b { s with heap := h' }) :
    wpAny (model X.prog X.w) (X.A.mark (some (.ref a))) (eval t X.env) (fun c s1 => wpAny (model X.prog X.w) (X.A.mark (some (.ref a))) (excMatches (.ref a) c) Q E s1) E s := by
  cases T with
  | one h =>
    obtain ⟨b1, d1, x1, y1, z1⟩ := PySem.W.exmAny_cons hb
    have w1 : some false = some d1 := y1
    cases w1
    rw [Bool.or_false] at z1
    subst z1
    exact names_run h S ((PySem.W.exm_one S.kIn LT x1).here (hq s.heap fun _ _ e => e))
  | two h h' =>
    rename_i _ _ _ _ _ _ c c'
    refine wpAny_Tuple (wpAny_items_cons (names_run h S (wpAny_items_cons (names_run h' S (wpAny_items_nil ⟨by rw [sizeLine_eq]; simp, ?_⟩)))))
    have kp : ∀ b o, s.heap.get? b = some o → (s.heap.push { cls := .type "tuple", data := .seq [c, c'].toArray }).get? b = some o := fun _ _ z => Heap.get?_push_of_some _ z
    exact (PySem.W.exm_tup2 (S.kIn.keeps kp) (LT.keeps kp) (Heap.get?_push_size s.heap rfl) hb).here (hq _ kp)
  | three h h' h'' =>
    rename_i _ _ _ _ _ _ _ _ c c' c''
    refine wpAny_Tuple (wpAny_items_cons (names_run h S (wpAny_items_cons (names_run h' S (wpAny_items_cons (names_run h'' S (wpAny_items_nil ⟨by rw [sizeLine_eq]; simp, ?_⟩)))))))
    have kp : ∀ b o, s.heap.get? b = some o → (s.heap.push { cls := .type "tuple", data := .seq [c, c', c''].toArray }).get? b = some o := fun _ _ z => Heap.get?_push_of_some _ z
    exact (PySem.W.exm_tup3 (S.kIn.keeps kp) (LT.keeps kp) (Heap.get?_push_size s.heap rfl) hb).here (hq _ kp)
end
/-- what 'except .. as n: m = n' wishes of an error of the body -/
def wKeep (K : PySem.W.Frag) (cs : List Value) (i j : Nat) (Wout : WX) (D : Ends) : WX := fun cls d σ H =>
  ∃ b, PySem.W.exmAny K cls cs = some b ∧ (b = true → ∀ a, H a = none → D.nx (((σ.set i (some (.ref a))).set j (some (.ref a))).set i none) (upd H a (ErO cls d a))) ∧ (b = false → Wout cls d σ H)
theorem ps_try_keep {X : Cx} {t : Expr} {n m : Str} {cs : List Value} {i j : Nat} {body : List Stmt} {mp np ap hp pos : Pos} {tb : WX → TS} {Wout : WX} (hs : X.stack = X.env :: X.outer) (hf : X.env.frame = some X.env.locals) (hex : X.ex = []) (hN : X.N.Nodup)
    (hi : X.N[i]? = some n) (hln : X.env.kindOf n = some .local) (hj : X.N[j]? = some m) (hlm : Loc X.env.scope m) (hfm : X.fn m = true) (hnd : (n == ("__debug__" : Str)) = false) (hnc : (n == ("__classdict__" : Str)) = false) (T : Tst X t cs) (tk : Takes X Wout)
    (hb : ∀ (W : WX) (pn : List (Addr × Obj)) (xe : Value → Shared → Prop), Takes (X.tr pn xe) W → PassesOwn (model X.prog X.w) X.A X.env xe → PSs (X.tr pn xe) body (tb W)) :
    PS X (.Try body [.ExceptHandler (some t) (some n) [.Assign [.Name m mp] (.Name n np) ap] hp] [] [] pos) (fun D σ H => tb (wKeep X.K cs i j Wout D) D σ H) := by
  refine ⟨fun pins s σ H D I h => ?_⟩
  have ok := I.ok
  have fr : X.A.frames = some (X.env :: X.outer) := ok.frames.trans (congrArg some hs)
  have hln' : Loc X.env.scope n := .inl hln
  refine wpAny_Try_except (wpAny_mono ((hb (wKeep X.K cs i j Wout D) (X.pn ++ pins) (fun e s1 => wpAny (model X.prog X.w) X.A (noteFrame e X.env) (fun _ s2 => wpAny (model X.prog X.w) X.A (setFlight e none) (fun _ s3 =>
    wpAny (model X.prog X.w) X.A (handleBy e X.env [.ExceptHandler (some t) (some n) [.Assign [.Name m mp] (.Name n np) ap] hp]) (SP X pins D) X.xe s3) X.xe s2) X.xe s1) (fun u s9 xx => ?_) PassesOwn.looking).run [] s σ H D (I.toTry _) h) (fun f s1 hsp => ?_) fun _ _ z => z)
  · obtain ⟨a, B, sI, pins1, σ1, H1, cls, d, rfl, J1, nb, up, sky, na, os, ag, b, hb1, hyes, hno⟩ := xx
    have J : Inv X pins σ1 H1 sI := J1.ofTry ok
    rw [show (X.tr (X.pn ++ pins) _).stack = X.env :: X.outer from hs] at sky
    show wpAny (model X.prog X.w) X.A (noteFrame (.ref a) X.env) _ _ _
    refine Sky.land Zc.steady fr hf sky fun h3 fl3 up3 => ?_
    have J3 : Inv X pins σ1 H1 { s9 with heap := h3 } := J.landed nb fl3.1 (up.trans up3) os ag
    obtain ⟨oe3, vs3, he3, hz3, hd3⟩ := fl3.there
    have nfr : a ∉ frs (X.env :: X.outer) := fun hm => by
      obtain ⟨_, o', e', hnf⟩ := fl3.2.2.1.mem hm
      rw [he3] at e'; cases e'
      exact hnf _ hd3
    have nL : a ≠ X.env.locals := fun z => nfr (List.mem_filterMap.mpr ⟨X.env, List.mem_cons_self, by rw [hf, z]⟩)
    have nF : a ∉ X.fs := fun hm => by
      obtain ⟨e, he, q⟩ := List.mem_filterMap.mp hm
      exact nfr (List.mem_filterMap.mpr ⟨e, List.mem_cons_of_mem _ he, q⟩)
    have nI : sI.heap.get? a = none := by
      cases e : sI.heap.get? a with
      | none => rfl
      | some o =>
        have z := nb a o e (by rw [show (X.tr (X.pn ++ pins) _).stack = X.env :: X.outer from hs]; exact nfr)
        rw [fl3.2.1] at z; cases z
    have n0 : X.s_0.heap.get? a = none := by
      cases e : X.s_0.heap.get? a with
      | none => rfl
      | some o =>
        obtain ⟨o', z⟩ := J.base.there a o e (by rw [hex]; simp)
        rw [nI] at z; cases z
    have S3 := J3.suite he3 hd3 na nL nF
    refine wpAny_handleBy_cons (codeAny_handlers_test ?_) (by intro q; cases q)
    have LT : PySem.W.Looks (model X.prog X.w) h3 (typeOf (.ref a)) cls := fun A Q E s k q => wpAny_typeOf_ref (k _ _ he3) (by rw [hz3.1]; exact q)
    refine tst_run T S3 LT hb1 fun h4 kp => ?_
    have fl4 := flyZ_keeps fl3 kp
    have up4 : sI.heap.UpToSlots h4 := (up.trans up3).trans (Heap.UpToSlots.of_keeps kp)
    cases b with
    | true =>
      refine codeAny_handlers_suite_as (HandSPX.lands_againZ fl4 fun h5 fl5 up5 => ?_)
      have J5 : Inv X pins σ1 H1 { s9 with heap := h5 } := J.landed nb fl5.1 (up4.trans up5) os ag
      obtain ⟨oe5, vs5, he5, hz5, hd5⟩ := fl5.there
      have S5 := J5.suite he5 hd5 na nL nF
      refine store_ok (X := X.suite a ((a, oe5) :: (X.pn ++ pins))) (v := .ref a) S5 hN hi hln' rfl (fun s6 S6 => ?_) (.inr hln)
      have hPS : PS (X.suite a ((a, oe5) :: (X.pn ++ pins))) (.Assign [.Name m mp] (.Name n np) ap) (tAsg (tVar i) (gName j)) := ps_set hN hj hlm (pe_var hi (.inl hln) hnd hnc) rfl (.inl hfm)
      have hlt : i < σ1.length := by rw [J5.len]; exact (List.getElem?_eq_some_iff.mp hi).1
      refine wpAny_mono ((pss_one hPS).run [] s6 _ H1 { nx := fun σ' H' => σ' = (σ1.set i (some (.ref a))).set j (some (.ref a)) ∧ H' = H1, rt := fun _ _ => False } S6 ⟨.ref a, List.getElem?_set_self hlt, rfl, rfl⟩) (fun f s7 hsp => ?_) fun _ _ z => False.elim z
      have ends : ∀ {σ7 : L2.St} {H7 : Hp}, Inv (X.suite a ((a, oe5) :: (X.pn ++ pins))) [] σ7 H7 s7 → Inv X ((a, oe5) :: pins) σ7 H7 s7 := fun {σ7 H7} S7 =>
        ⟨ok, S7.os, S7.bare, S7.base, S7.loc, S7.cell, S7.free, S7.freeC, fun p hp => S7.pin p (by
          rw [List.append_nil]
          show p ∈ (a, oe5) :: (X.pn ++ pins)
          rcases List.mem_append.mp hp with q | q
          · exact List.mem_cons_of_mem _ (List.mem_append_left _ q)
          · rcases List.mem_cons.mp q with q | q
            · rw [q]; exact List.mem_cons_self
            · exact List.mem_cons_of_mem _ (List.mem_append_right _ q)), S7.hok, S7.len⟩
      cases f with
      | next =>
        obtain ⟨σ7, H7, S7, e1, e2⟩ := hsp
        subst e1 e2
        refine gone_ok (ends S7) hN hi hln fun s8 J8 => ⟨_, _, ?_, hyes rfl a na⟩
        obtain ⟨e8, _, _⟩ := J8.pin (a, oe5) (List.mem_append_right _ List.mem_cons_self)
        have J9 : Inv X pins _ H7 s8 := ⟨ok, J8.os, J8.bare, J8.base, J8.loc, J8.cell, J8.free, J8.freeC, fun p hp => J8.pin p (by
          rcases List.mem_append.mp hp with q | q
          · exact List.mem_append_left _ q
          · exact List.mem_append_right _ (List.mem_cons_of_mem _ q)), J8.hok, J8.len⟩
        refine inv_hold J9 e8 hz5 hd5 na nL n0 fun p hp z => ?_
        obtain ⟨e, _⟩ := J.pin p hp
        rw [z, nI] at e; cases e
      | brk => obtain ⟨_, _, _, q⟩ := hsp; exact q.elim
      | cont => obtain ⟨_, _, _, q⟩ := hsp; exact q.elim
      | ret u => obtain ⟨_, _, _, _, _, q⟩ := hsp; exact q.elim
    | false =>
      show wpAny _ X.A (handleBy (.ref a) X.env []) _ _ _
      refine wpAny_handleBy_nil ?_
      obtain ⟨k1, k2, k3, oe, vs, T', oT, ts', he, hz, hd, h1, hr⟩ := id fl4
      unfold PySem.passOn
      refine wpAny_bind (wpAny_field he hd h1 ?_)
      rw [if_neg (show ¬ ((Value.ref T' == Value.none) = true) from by simp)]
      have fin : wpAny (model X.prog X.w) X.A (setFlight (.ref a) X.env.frame) (fun _ s4 => wpAny (model X.prog X.w) X.A (throw (.ref a) : Sem Flow) (SP X pins D) X.xe s4) X.xe { s9 with heap := h4 } := by
        rw [hf]
        exact HandSPX.setFlight_upZ fl4 fun h5 hh5 up5 => wpAny_throw (tk _ _ ⟨a, B, sI, pins, σ1, H1, cls, d, rfl, J, nb, up4.trans up5, .inr (.inr (by rw [hs]; exact hh5)), na, os, ag, hno rfl⟩)
      first | exact wpAny_bind (wpAny_pure (wpAny_bind fin)) | exact wpAny_bind fin
  · cases f with
    | next => obtain ⟨σ1, H1, J1, q⟩ := hsp; exact wpAny_execs_nil ⟨σ1, H1, J1.ofTry ok, q⟩
    | brk => obtain ⟨σ1, H1, J1, q⟩ := hsp; exact ⟨σ1, H1, J1.ofTry ok, q⟩
    | cont => obtain ⟨σ1, H1, J1, q⟩ := hsp; exact ⟨σ1, H1, J1.ofTry ok, q⟩
    | ret u => obtain ⟨v, σ1, H1, J1, r, q⟩ := hsp; exact ⟨v, σ1, H1, J1.ofTry ok, r, q⟩
end RC

set_option Elab.async false
set_option linter.all false
set_option autoImplicit false
set_option maxRecDepth 100000
set_option maxHeartbeats 4000000
/-! Errors that are made, asked for their class, read. -/
namespace RC
open PySem PySem.Spec PyProof.Rows L2
section
variable {X : Cx} {pins : List (Addr × Obj)} {σ : L2.St} {H : Hp} {s : Shared}
/-- e.f, e a held error -/
theorem pe_fld {e : Expr} {te : TE} {n : Str} {pos : Pos} (he : PE X e te) (hb : attributeBase e n X.env (eval e X.env) = eval e X.env) :
    PE X (.Attribute e n pos) (fun σ H Q => te σ H fun x H1 => ∃ (a C d : Addr) (v : V), x = .ref a ∧ H1 a = some (ErO (.ref C) (some d) a) ∧ H1 d = some (.xd [(n, v)]) ∧ XfC X.K C ∧ PySem.W.findIn X.K (.ref C) n = some none ∧ Q v H1) := by
  refine ⟨fun pins s σ H Q I h => attr_of hb (thn (he.run pins s σ H _ I h) fun u s1 ⟨x, H1, I1, rx, a, C, d, v, ex, ea, ed, T, hno, q⟩ => ?_)⟩
  subst ex
  obtain rfl : u = Value.ref a := rx
  obtain ⟨oe, vs, ho, hz, hd⟩ := erO_at I1.hok ea
  have hx : ObjOk X.prog X.w H1 s1.heap d (.xd [(n, v)]) := I1.hok d _ ed
  obtain ⟨mA, hns, hr⟩ := hx
  obtain ⟨od, hod, hl⟩ := lookIn_ns hns
  obtain ⟨w, hu, ru⟩ := RelO.some_of (v := v) (o := mA n) (by have := hr n; simpa using this)
  have J : PySem.W.InstAt s1.heap a oe C (some od) := ⟨ho, hz.1, by unfold PySem.W.notCls; rw [hd] <;> rfl, by rw [hz.2]; exact hod⟩
  exact HandSPX.exc_get I1.kIn J T.ga T.gg T.exC (PySem.W.findObj_own T.hdC hno rfl (by rw [hl, hu])) (handed_of ru) ⟨v, H1, I1.tok _, ru, q⟩
/-- isinstance of a held error, or of None -/
def rIsX (K : PySem.W.Frag) : List V → Hp → VK → Prop := fun xs H Q => ∃ (x c : V) (u : Value) (b : Bool), xs = [x, c] ∧ ClsV c u ∧
  ((x = .non ∧ PySem.W.kitOne K (.type "NoneType") u = some b) ∨ ∃ (a C : Addr) (da : Option Addr), x = .ref a ∧ H a = some (ErO (.ref C) da a) ∧ (∀ d, da = some d → ∃ fs, H d = some (.xd fs)) ∧ ExcC K C ∧ PySem.W.kitOne K (.ref C) u = some b) ∧ Q (.bl b) H
theorem call_isX : CallR X (.builtin "isinstance") (rIsX X.K) := by
  intro pins s σ H xs us Q I r h
  obtain ⟨x, c, u, b, rfl, k, h, q⟩ := h
  rcases h with ⟨rfl, e⟩ | ⟨a, C, da, rfl, ea, ed, T, e⟩
  · exact call_isi pins s σ H _ us Q I r ⟨.non, c, .type "NoneType", u, b, rfl, k, .base .non, e, q⟩
  · obtain ⟨u1, u2, rfl, r1, r2⟩ := vals2 r
    have e2 := k.eq r2
    subst e2
    obtain rfl : u1 = Value.ref a := r1
    obtain ⟨oe, vs, ho, hz, hd⟩ := erO_at I.hok ea
    have hcl : (PySem.W.clsIn X.K C).isSome = true := by obtain ⟨cd, hc, _⟩ := PySem.W.any_some T.hd; rw [hc]; rfl
    obtain ⟨od, J⟩ : ∃ od, PySem.W.InstAt s.heap a oe C od := by
      have nc : PySem.W.notCls oe = true := by unfold PySem.W.notCls; rw [hd] <;> rfl
      cases da with
      | none => exact ⟨none, ho, hz.1, nc, by rw [hz.2]; trivial⟩
      | some d =>
        obtain ⟨fs, e3⟩ := ed d rfl
        obtain ⟨o, e4⟩ := objOk_get (I.hok d _ e3)
        exact ⟨some o, ho, hz.1, nc, by rw [hz.2]; exact e4⟩
    exact PySem.W.kia_one (PySem.W.kitx_exc hcl T.hg T.hk T.hs T.ha T.hn T.ht T.hm) I.kIn J e (fun z => nomatch z) fun tk => ⟨.bl b, H, I.tok tk, rfl, q⟩
end
section
variable {X : Cx} {pins : List (Addr × Obj)} {σ : L2.St} {H : Hp} {s : Shared} {B newId initId : String} {bmB : List Value}
/-- self.f = y, in an error's __init__ -/
theorem ost_any {a C : Addr} {f : Str} {y : V} {u : Value} {Q : Unit → Shared → Prop} {E : Value → Shared → Prop} {A : Around} (SF : StoreFacts B bmB "object.__setattr__" "object") (hov : PySem.W.excOver X.K C bmB = true) (hdi : PySem.W.hasDictIn X.K C = true)
    (sa : PySem.W.findIn X.K (.ref C) "__setattr__" = some (some (.builtin "object.__setattr__"))) (I : Inv X pins σ H s) (e : H a = some (exo a C none)) (hno : PySem.W.findIn X.K (.ref C) f = some none) (ry : RelV y u)
    (h : ∀ dx s', H dx = none → dx ≠ a → Inv X pins σ (upd (upd H dx (exd dx [(f, y)])) a (exo a C (some dx))) s' → Q () s') : wpAny (model X.prog X.w) A (setAttr (.ref a) f u) Q E s := by
  obtain ⟨t1, ho⟩ := exo_at I.hok e
  obtain ⟨cd, hcd, hh⟩ := PySem.W.any_some hdi
  obtain ⟨hp, g, d, t, os⟩ := s
  have J : PySem.W.InstAt hp a { cls := .ref C, dict := none, data := .fields #[.ref t1, .none, .none, .none, .bool false, .none] } C none := ⟨ho, rfl, rfl, trivial⟩
  have hcls : PySem.W.Looks (model X.prog X.w) hp (classData C) cd := PySem.W.looks_clsIn I.kIn hcd
  have tk0 : PySem.W.takerIn X.K C f = some none := by unfold PySem.W.takerIn; rw [hno] <;> rfl
  have hxs : a ≠ hp.objs.size := Nat.ne_of_lt (Heap.lt_size ho)
  refine PySem.W.set_plain I.kIn J sa (PySem.W.osa_openX SF I.kIn J hov tk0 fun b => ?_)
  obtain ⟨nm, bs, mro, ns, qn, hd, sn, sb, ab, col, del⟩ := cd
  dsimp only at hh
  subst hh
  show wpAny _ _ (Builtin.ObjectAttr.storeInOwnDict (.ref a) (.ref C) (.str f t) f u b) _ _ _
  unfold Builtin.ObjectAttr.storeInOwnDict Builtin.ObjectAttr.ownDictForStores
  repeat (first | with_reducible refine HandSPX.store_in_new ?_ ?_ | with_reducible refine wpAny_loadPart_at ho ?_ | with_reducible refine hcls.at ?_ | wp_step)
  · exact ⟨_, #[], _, (Heap.get?_update_ne _ _ _ _ hxs.symm).trans (Heap.get?_push_at rfl rfl), rfl, fun e he => absurd he (by simp), fun _ => rfl⟩
  · intro h' tk' hn' hs
    have ho' : hp.get? a = some { cls := .ref C, dict := none, data := .fields #[.ref t1, .none, .none, .none, .bool false, .none] } := ho
    have k : ∀ b o, b ≠ a → hp.get? b = some o → h'.get? b = some o := fun b o hb z => (hs.2 b (Nat.ne_of_lt (Heap.lt_size z))).trans ((Heap.get?_update_ne _ _ _ _ hb).trans (Heap.get?_push_of_some _ z))
    have hx : h'.get? a = some { cls := .ref C, dict := some hp.objs.size, data := .fields #[.ref t1, .none, .none, .none, .bool false, .none] } :=
      (hs.2 a hxs).trans (Heap.get?_update_self (fun o => { o with dict := some hp.objs.size }) (Heap.get?_push_of_some _ ho') rfl)
    have hnd : H hp.objs.size = none := I.hok.fresh (Nat.le_refl _)
    have nd : ∀ {b : Addr} {o : Obj}, hp.get? b = some o → b ≠ hp.objs.size := fun z => Nat.ne_of_lt (Heap.lt_size z)
    have na : ∀ {b : Addr}, H b = none → b ≠ a := fun {b} n z => by rw [z, e] at n; cases n
    refine h hp.objs.size _ hnd hxs.symm (I.un (t' := tk') (h' := h') ⟨fun b o q n _ _ => k b o (na n) q, fun b o q n _ _ => ⟨o.slots, k b o (na n) q⟩, fun b o q n _ => ?_, fun b o q _ => ?_, fun b xs q => ?_, fun b o v q => ?_, fun b ps q => ?_⟩ fun b o q => ?_)
    · rw [upd_ne (na n), upd_ne (nd q)]; exact n
    · by_cases hb : b = a
      · rw [hb]; exact ⟨_, hx⟩
      · exact ⟨o, k b o hb q⟩
    · rw [upd_ne (at_ne e q exo_tup), upd_ne (ne_of_none q hnd)]; exact q
    · rw [upd_ne (at_ne e q exo_frz), upd_ne (ne_of_none q hnd)]; exact q
    · exact ⟨#[], by rw [upd_ne (at_ne e q exo_tbl), upd_ne (ne_of_none q hnd), q]; simp⟩
    · by_cases hb : b = a
      · subst hb
        rw [upd_same] at q; cases q
        exact exo_ok hx
      · rw [upd_ne hb] at q
        by_cases hd : b = hp.objs.size
        · subst hd
          rw [upd_same] at q; cases q
          exact exd_ok hn' (relO_put (fs := []) ry fun g => True.intro)
        · rw [upd_ne hd] at q
          refine (I.hok b o q).stay (fun c v hc z => k c v ?_ z) (fun c hc => ?_) fun c xs hc => ?_
          · rcases hc with hc | hc
            · rw [hc]; exact hb
            · exact at_ne e hc exo_own
          · rw [upd_ne (at_ne e hc exo_own), upd_ne (ne_of_none hc hnd)]; exact hc
          · rw [upd_ne (at_ne e hc exo_tup), upd_ne (ne_of_none hc hnd)]; exact hc
/-- an error's __init__: it keeps its argument as the field f -/
def spIni (C : Addr) (f : Str) : Sp := fun vs H Q _ => ∃ (a : Addr) (y : V), vs = [.ref a, y] ∧ H a = some (exo a C none) ∧ ∀ dx, H dx = none → dx ≠ a → Q .non (upd (upd H dx (exd dx [(f, y)])) a (exo a C (some dx)))
/-- C(e), C's own __init__ keeping e as f -/
theorem pmk_ini {CX : CXT} {x f : Str} {C fI : Addr} {fd : FuncData} {ps : List Str} {e : Expr} {te : TE} {p pos : Pos} (FB : ExcBaseFacts B newId initId bmB) (qC : PySem.W.excInitIn X.K C bmB newId = true) (exC : PySem.W.subIn X.K (.ref C) (.type "BaseException") = some true)
    (tyC : PySem.W.typeIn X.K (.ref C) = some (.type "type")) (kC : PySem.W.keepIn X.K (.ref C) = true) (iC : PySem.W.findIn X.K (.ref C) "__init__" = some (some (.ref fI))) (tI : PySem.W.typeIn X.K (.ref fI) = some (.type "function"))
    (F1 : FnOk X.prog X.w X.K X.mg X.base CX 1 fI fd ps (spIni C f)) (hr : Room 2 X.A) (hb : Binds X.K fd ps []) (hx : Passes CX X (fun _ _ _ => False)) (hg : Gl X x) (hm : X.mg x = some (.ref C)) (he : PE X e te)
    (hdb : (x == ("__debug__" : Str)) = false) (hst : starEach [e] X.env = [(false, eval e X.env)]) :
    PMk X (.Call (.Name x p) [e] [] pos) (fun σ H Q => te σ H fun y H1 => ∀ d, H1 d = none → Q (.ref C) (some d) (upd H1 d (.xd [(f, y)]))) := by
  intro pins s σ H Q I h
  refine wpAny_Call_Name_kw (ld_glob I hg hm ?_ hdb)
  have pa : PA X [e] (tCons te tNil) := pa_cons he pa_nil hst
  refine PySem.W.callWith_K (h₀ := X.base) I.ok.mod.kin kC (thn (pa.run pos pins s σ H (fun vs H1 => match vs with | [y] => ∀ d, H1 d = none → Q (.ref C) (some d) (upd H1 d (.xd [(f, y)])) | _ => False) I h) fun us s1 ⟨vs, H1, I1, r1, q1⟩ => ⟨I1.kIn, ?_⟩) hst rfl
  match vs, r1, q1 with
  | [y], .cons (b := u) ru .nil, q1 =>
    show wpAny _ _ (call (.ref C) [u]) _ _ _
    obtain ⟨hp, g, dr, tk, os⟩ := s1
    obtain ⟨nm, N, qn, bs, bm, hdct, sn, sub, ab, col, dd, k0, k1, k2, k3, k5, hC, hbm⟩ := PySem.W.excInit_of I1.kIn qC
    have hsz : hp.objs.size ≤ hp.objs.size + 1 := Nat.le_succ _
    have hn : H1 (hp.objs.size + 1) = none := I1.hok.fresh hsz
    have kk : ∀ b o, hp.get? b = some o → ((hp.push (PySem.W.kdv_tup [u])).push (HandSPX.excO C hp.objs.size)).get? b = some o := fun b o z => Heap.get?_push_of_some _ (Heap.get?_push_of_some _ z)
    have hget : ((hp.push (PySem.W.kdv_tup [u])).push (HandSPX.excO C hp.objs.size)).get? (hp.objs.size + 1) = some (HandSPX.excO C hp.objs.size) := by heap_get
    have I2 : Inv X pins σ (upd H1 (hp.objs.size + 1) (exo (hp.objs.size + 1) C none)) ⟨(hp.push (PySem.W.kdv_tup [u])).push (HandSPX.excO C hp.objs.size), g, dr, tk, os⟩ :=
      I1.laid (t' := tk) (a := hp.objs.size + 1) (o := exo (hp.objs.size + 1) C none) (h' := (hp.push (PySem.W.kdv_tup [u])).push (HandSPX.excO C hp.objs.size)) kk hsz (exo_ok hget)
    have sp : spIni C f [.ref (hp.objs.size + 1), y] (upd H1 (hp.objs.size + 1) (exo (hp.objs.size + 1) C none)) (fun v H2 => v = .non ∧ ∃ d, H2 (hp.objs.size + 1) = some (exo (hp.objs.size + 1) C (some d)) ∧ H2 d = some (exd d [(f, y)]) ∧ H1 d = none ∧
        upd (del H2 (hp.objs.size + 1)) d (.xd [(f, y)]) = upd H1 d (.xd [(f, y)])) fun _ _ _ => False := by
      refine ⟨_, y, rfl, upd_same, fun dx n ne => ⟨rfl, dx, upd_same, by rw [upd_ne ne, upd_same], by rw [upd_ne ne] at n; exact n, ?_⟩⟩
      funext b
      by_cases hb : b = dx
      · rw [hb, upd_same, upd_same]
      · rw [upd_ne hb, upd_ne hb]
        by_cases ha : b = hp.objs.size + 1
        · rw [ha, del_same, hn]
        · rw [del_ne ha, upd_ne ha, upd_ne hb, upd_ne ha]
    have r2 : Vals [V.ref (hp.objs.size + 1), y] [Value.ref (hp.objs.size + 1), u] := .cons rfl (.cons ru .nil)
    have hl : ([Value.ref (hp.objs.size + 1), u] ++ []).length = ps.length := F1.len _ _ _ _ sp
    have bd := hb _ [Value.ref (hp.objs.size + 1), u] I2.kIn hl
    rw [List.append_nil] at bd
    refine wpAny_call (HandSPX.call_own FB hbm hC (PySem.W.looks_findIn I1.kIn iC) (fun self => PySem.W.bind_fn I1.kIn self tI) (by rw [sizeLine_eq]; simp)
      (codeAny_mono (F1.run _ X.stack _ _ ⟨[Value.ref (hp.objs.size + 1), u], []⟩ [Value.ref (hp.objs.size + 1), u] _ _ (fun _ _ _ => False) (hr.make C [u] []) (I2.env0.make C [u] []) bd r2 sp) fun r s' hq' => ?_))
    match r, hq' with
    | .error er, hq' => exact hx pins σ _ _ er s' I2 hq'
    | .ok (.ret w), hq' =>
      obtain ⟨v, H2, os2, bare2, un2, hok2, rv, ev, d, ea, ed, hd1, eH⟩ := hq'
      subst ev
      obtain ⟨h2, g2, d2, t2, os'⟩ := s'
      exact ⟨rv, mk_end (raises_own exC tyC) I1 hsz kk un2 hok2 os2 bare2 ea ed hd1 (by rw [eH]; exact q1 d hd1)⟩
end
end RC

set_option Elab.async false
set_option linter.all false
set_option autoImplicit false
set_option maxRecDepth 100000
set_option maxHeartbeats 2000000
/-! The classes of errors. -/
namespace RC
open PySem PySem.Spec PyProof.Rows L2
structure ClsF (K : PySem.W.Frag) (c : Nat) (C : Addr) : Prop where
  at_ : clV K c = .ref C
  xf : XfC K C
  ex : ExcC K C
  fld : fldC c ≠ 0 → PySem.W.findIn K (.ref C) (fname (fldC c)) = some none
  kit : ∀ t, t < 20 → clV K t ≠ .none → PySem.W.kitOne K (.ref C) (clV K t) = some (isaC c t)
  exm : ∀ t, t < 20 → clV K t ≠ .none → PySem.W.exmOne K (.ref C) (clV K t) = some (isaC c t)
theorem clsB_ok {K : PySem.W.Frag} {c : Nat} (h : clsB K c = true) : ∃ C, ClsF K c C := by
  unfold clsB at h
  split at h
  · rename_i C hC
    simp only [Bool.and_eq_true] at h
    obtain ⟨⟨⟨⟨⟨⟨h1, h2⟩, h3⟩, h4⟩, h5⟩, h6⟩, h7⟩ := h
    have xf := xfB_ok h1
    have each : ∀ t, t < 20 → clV K t ≠ .none → PySem.W.kitOne K (.ref C) (clV K t) = some (isaC c t) ∧ PySem.W.exmOne K (.ref C) (clV K t) = some (isaC c t) := fun t ht hn => by
      have z := List.all_eq_true.mp h7 t (List.mem_range.mpr ht)
      rw [Bool.or_eq_true] at z
      rcases z with z | z
      · exact absurd (of_decide_eq_true z) hn
      · rw [Bool.and_eq_true] at z
        exact ⟨of_decide_eq_true z.1, of_decide_eq_true z.2⟩
    refine ⟨C, hC, xf, ⟨xf.ga, xf.gg, xf.exC, xf.hdC, of_decide_eq_true h2, of_decide_eq_true h3, of_decide_eq_true h4, of_decide_eq_true h5⟩, fun hf => ?_, fun t ht hn => (each t ht hn).1, fun t ht hn => (each t ht hn).2⟩
    rw [Bool.or_eq_true] at h6
    rcases h6 with z | z
    · exact absurd (of_decide_eq_true z) hf
    · exact of_decide_eq_true z
  · cases h
/-- the built-in base of the class c -/
def inC (c : Nat) : String := if isaC c 17 then "ValueError.__init__" else if isaC c 18 then "ArithmeticError.__init__" else "LookupError.__init__"
theorem baseF (c : Nat) : ExcBaseFacts (bsC c) (nwC c) (inC c) (bsL c) := by
  unfold bsL bsC nwC inC
  split
  · exact F.excBase_ValueError
  · split
    · exact F.excBase_ArithmeticError
    · exact F.excBase_LookupError
theorem storeF (c : Nat) : StoreFacts (bsC c) (bsL c) "object.__setattr__" "object" := by
  unfold bsL bsC
  split
  · exact F.store_ValueError
  · split
    · exact F.store_ArithmeticError
    · exact F.store_LookupError
structure RzF (K : PySem.W.Frag) (c : Nat) (C : Addr) : Prop where
  kp : PySem.W.keepIn K (.ref C) = true
  sb : PySem.W.subIn K (.ref C) (.type "BaseException") = some true
  ty : PySem.W.typeIn K (.ref C) = some (.type "type")
  nn : PySem.W.kitOne K (.type "NoneType") (.ref C) = some false
  no : fldC c = 0 → PySem.W.excIn K C (bsL c) (nwC c) = true
  wi : fldC c ≠ 0 → PySem.W.excInitIn K C (bsL c) (nwC c) = true ∧ PySem.W.excOver K C (bsL c) = true ∧ PySem.W.findIn K (.ref C) "__setattr__" = some (some (.builtin "object.__setattr__"))
theorem rzB_ok {K : PySem.W.Frag} {c : Nat} {C : Addr} (h : rzB K c = true) (e : clV K c = .ref C) : RzF K c C := by
  unfold rzB at h
  rw [e] at h
  simp only [Bool.and_eq_true] at h
  obtain ⟨⟨⟨⟨h1, h2⟩, h3⟩, h4⟩, h5⟩ := h
  refine ⟨h1, of_decide_eq_true h2, of_decide_eq_true h3, of_decide_eq_true h4, fun z => ?_, fun z => ?_⟩
  · rw [z] at h5; exact h5
  · have z' : (fldC c == 0) = false := by simpa using z
    rw [z'] at h5
    simp only [cond_false, Bool.and_eq_true] at h5
    exact ⟨h5.1.1, h5.1.2, of_decide_eq_true h5.2⟩
/-- what is known of a class whose errors are raised -/
structure RzOk (P : Program) (w : World) (K : PySem.W.Frag) (mg : Str → Option Value) (base : Heap) (c : Nat) : Prop where
  lt : c < 17
  cls : clsB K c = true
  glo : mg (cname c) = some (clV K c)
  rz : rzB K c = true
  ini : fldC c ≠ 0 → ∃ (C fI : Addr) (fd : FuncData) (ps : List Str), clV K c = .ref C ∧ PySem.W.findIn K (.ref C) "__init__" = some (some (.ref fI)) ∧ PySem.W.typeIn K (.ref fI) = some (.type "function") ∧
    FnOk P w K mg base (L2.CX P w) 1 fI fd ps (spIni C (fname (fldC c))) ∧ Binds K fd ps []
theorem cname_dbg (c : Nat) (h : c < 17) : (cname c == ("__debug__" : Str)) = false := by
  revert c; decide +kernel
theorem plain_cname (c : Nat) (h : c < 20) : (cname c == ("__debug__" : Str)) = false ∧ (cname c == ("__classdict__" : Str)) = false ∧ cname c ≠ "__name__" := by
  revert c; decide +kernel
section
variable {P : Program} {w : World} {K : PySem.W.Frag} {mg : Str → Option Value} {base : Heap}
/-- the def of such an __init__ -/
theorem ini_ok {c : Nat} {C fI : Addr} {fd : FuncData} {q sx vx : Str} {pa : Arguments} {sc : Scope} {p1 p2 p3 p4 : Pos} (hf : ClsF K c C) (rz : RzF K c C) (h0 : fldC c ≠ 0)
    (F : FunD K "__init__" q pa [.Assign [.Attribute (.Name sx p1) (fname (fldC c)) p2] (.Name vx p3) p4] sc [] [] fI fd) (S : FnScope [sx, vx] [sx, vx] sc)
    (n1 : (sx == ("__debug__" : Str)) = false) (n2 : (sx == ("__classdict__" : Str)) = false) (n3 : (vx == ("__debug__" : Str)) = false) (n4 : (vx == ("__classdict__" : Str)) = false) :
    FnOk P w K mg base (L2.CX P w) 1 fI fd [sx, vx] (spIni C (fname (fldC c))) := by
  refine F.ok (k := 0) S (fun vs H Q E ⟨a, y, e, _⟩ => by rw [e]; rfl) fun cdv A outer s H vs Q E hr ⟨a, y, e, ea, hq⟩ => ?_
  subst e
  have vis : ∀ x, x ∈ [sx, vx] → Vis sc x := fun x hx => by
    rcases S.par x hx with z | z
    · exact .inl z
    · exact .inr (.inl z)
  let X := cxOf (L2.CX P w) P w K mg base [sx, vx] q sc fI cdv A outer s H E
  have o1 : PE X (.Name sx p1) (tVar 0) := pe_var rfl (vis _ (by simp)) n1 n2
  have o2 : PE X (.Name vx p3) (tVar 1) := pe_var rfl (vis _ (by simp)) n3 n4
  refine ⟨fun D σ H => tVar 1 σ H fun y H1 => tVar 0 σ H1 fun x H2 => ∃ a, x = .ref a ∧ H2 a = some (exo a C none) ∧ ∀ dx, H2 dx = none → dx ≠ a → D.nx σ (upd (upd H2 dx (exd dx [(fname (fldC c), y)])) a (exo a C (some dx))), pss_one ⟨fun pins s σ H D I h => ?_⟩, ?_⟩
  · refine plainObj_wpAny_Assign_Attribute (thn (o2.run pins s σ H _ I h) fun v s1 ⟨y, H1, I1, r1, q1⟩ => thn (o1.run pins s1 σ H1 _ I1 q1) fun u s2 ⟨x, H2, I2, r2, a, ex, ea, q⟩ => ?_) rfl
    subst ex
    obtain rfl : u = Value.ref a := r2
    exact ost_any (X := X) (storeF c) (rz.wi h0).2.1 hf.xf.hdC (rz.wi h0).2.2 I2 ea (hf.fld h0) r1 fun dx s' n ne J => ⟨σ, _, J, q dx n ne⟩
  · exact ⟨y, rfl, .ref a, rfl, a, rfl, ea, hq⟩
end
end RC

set_option Elab.async false
set_option linter.all false
set_option autoImplicit false
set_option maxRecDepth 100000
set_option maxHeartbeats 1000000
namespace RC
open PySem PySem.Spec PyProof.Rows L2
variable [LX]

/-- a def's promise: it does what the core's def does -/
def spF (K : PySem.W.Frag) (J : Inf) (k : Nat) (f : Nat) : Sp := fun vs H Q E => ∃ O θ M ds, RM H O θ M ∧ Reps K H O θ ds vs ∧
  After K J O (fun cls d _ H' => E cls d H') [] θ H (callF J.P k f ds M) fun d _ θ' H' => ∀ v, Rep K H' O θ' d v → Q v H'
/-- no tables -/
abbrev lx0 : LX := ⟨[], none, fun _ => none, [], fun _ => False⟩
/-- the frame of the def g at fa, called from X with a lambda -/
abbrev lamZ (X : Cx) (Ng : List Str) (x : Str) (sg : Scope) (fa : Addr) (cdv : Value) (s : Shared) (H : Hp) : Cx := cxOf (L2.CX X.prog X.w) X.prog X.w X.K X.mg X.base Ng x sg fa cdv X.A X.stack s H fun _ _ _ => False
/-- the body of g, given what a call of its parameter does -/
def GiveL (X : Cx) (J : Inf) (k g : Nat) (Ng : List Str) (x : Str) (sg : Scope) (fa : Addr) (cdv : Value) (bg : List Stmt) (a : Str) : Prop :=
  ∀ (f c' : Addr) (q : Str) (s : Shared) (H : Hp) (Q : VK) (tl : XK → Hp → VK → Prop) (F : Store → Res D) (O : OSet) (θ : List Addr) (M : Store),
    Room (k + 3) (X.A.deeper (envOfC x sg s.heap.objs.size fa cdv)) → X.A.guards = some [] → X.A.units + 16 * (k + 4) + 210 < cLine →
    (∀ (W : WX) (pn : List (Addr × Obj)) (xe : Value → Shared → Prop) (p1 p2 : Pos), Takes ((lamZ X Ng x sg fa cdv s H).tr pn xe) W →
      PE ((lamZ X Ng x sg fa cdv s H).tr pn xe) (.Call (.Name a p1) [] [] p2) (fun σZ HZ Q => σZ[0]? = some (some (.ref f)) ∧ HZ c' = some (LamX.CodeO c' q) ∧ tl (WE W σZ) HZ Q)) →
    (H c' = some (LamX.CodeO c' q) ∧ ¬ O c' ∧ c' ∉ θ) → RM H O θ M →
    (∀ (HZ : Hp) (O' : OSet) (θ' : List Addr) (M' : Store) (E : XK) (Q' : VK), Ext θ θ' H HZ → (∀ a, O a → O' a) → (∀ a, O' a → O a ∨ Nn H a) → RM HZ O' θ' M' →
      After X.K J O' (fun cls d _ H' => E cls d H') [] θ' HZ (F M') (fun d _ θ'' H'' => ∀ v, Rep X.K H'' O' θ'' d v → Q' v H'') → tl E HZ Q') →
    After X.K J O (fun _ _ _ _ => False) [] θ H (lamF J.P k g F M).quiet (fun d _ θ' H' => ∀ v, Rep X.K H' O θ' d v → Q v H') →
    ∃ t, PSs (lamZ X Ng x sg fa cdv s H) bg t ∧ t { nx := fun _ H' => Q .non H', rt := Q } (L2.start Ng [.ref f]) H
/-- lambdas may be made in X -/
structure MkL (J : Inf) (k : Nat) (X : Cx) : Prop where
  fn : ∀ z, X.fn z = true
  tab : ∃ c P, X.env.code = .ref c ∧ LamX.TabB X.base X.mg c P ∧ (P, X.env.qual ++ "<lambda>") ∈ LX.tabs ∧ ∀ p ∈ LX.tabs, p.1 = P → p.2 = X.env.qual ++ "<lambda>"
  give : ∀ g x, J.fn g = some x → ∀ fn, J.P.T g = some fn → fn.np = 1 → ∃ (nm : Str) (Ng : List Str) (a : Str) (pg : Arguments) (bg : List Stmt) (sg : Scope) (fa : Addr) (fd : FuncData), X.mg x = some (.ref fa) ∧ FunD X.K nm nm pg bg sg [] [] fa fd ∧ Binds X.K fd [a] [] ∧ FnScope Ng [a] sg ∧
    (a == ("__debug__" : Str)) = false ∧ (a == ("__classdict__" : Str)) = false ∧ ∀ cdv, fd.code = cdv → GiveL X J k g Ng nm sg fa cdv bg a
structure XOk (J : Inf) (k : Nat) (X : Cx) : Prop where
  calm : X.calm = true
  nd : X.N.Nodup
  kind : X.env.scope.kind = .function
  room : Room (k + 4) X.A
  gd : X.A.guards = some []
  rp : ∀ d s, J.P.rp d = some s → rpOk d s
  fns : ∀ T, T = LX.tabs → ∀ (lx : LX), lx.tabs = T → ∀ k', k' ≤ k → ∀ f x, J.fn f = some x → ∃ fa fd ps, X.mg x = some (.ref fa) ∧ PySem.W.keepIn X.K (.ref fa) = true ∧ Binds X.K fd ps [] ∧ FnG X.prog X.w X.K X.mg X.base (L2.CX X.prog X.w) (k' + 4) fa fd ps (@spF lx X.K J k' f)
  blt : ∀ x, x ∈ bltNames → X.mg x = none
  gls : ∀ g x d, J.gl g = some x → J.P.G g = some d → ∃ u v, X.mg x = some u ∧ RelV v u ∧ ∀ H O θ, Rep X.K H O θ d v
  sl : X.A.units + 16 * (k + 4) + 210 < cLine
  isa : J.P.isa = isaC
  fld : J.P.fld = fldC
  cls : ∀ c, c ∈ J.cs → RzOk X.prog X.w X.K X.mg X.base c
  act : J.ac = true → ∀ (pn : List (Addr × Obj)) (xe : Value → Shared → Prop) (W : WX), Takes (X.tr pn xe) W → ∀ (x : Str) (p1 p2 : Pos), X.N[0]? = some x → Vis X.env.scope x → PE (X.tr pn xe) (.Call (.Name x p1) [] [] p2) (tX X.K J k W false (.act 0))
  lam : J.ml = true → J.lo = false ∧ MkL J k X
  key : ∀ k', k' ≤ k → ∀ f x, J.kfn f = some x → ∃ fa fd ps, X.mg x = some (.ref fa) ∧ PySem.W.keepIn X.K (.ref fa) = true ∧ Binds X.K fd ps [] ∧ FnG X.prog X.w X.K X.mg X.base (L2.CX X.prog X.w) (k' + 4) fa fd ps (@spF lx0 X.K J k' f)

theorem PE.imp {X : Cx} {e : Expr} {t t' : TE} (h : PE X e t) (i : ∀ σ H Q, t' σ H Q → t σ H Q) : PE X e t' := ⟨fun pins s σ H Q I q => h.run pins s σ H Q I (i σ H Q q)⟩
theorem PT.imp {X : Cx} {e : Expr} {t t' : TT} (h : PT X e t) (i : ∀ σ H Q, t' σ H Q → t σ H Q) : PT X e t' := ⟨fun pins s σ H Q I q => h.run pins s σ H Q I (i σ H Q q)⟩
theorem PW.imp {X : Cx} {e : Expr} {t t' : TT} (h : PW X e t) (i : ∀ σ H Q, t' σ H Q → t σ H Q) : PW X e t' := ⟨fun w pins s σ H Q I q => h.run w pins s σ H Q I (i σ H Q q)⟩
theorem PA.imp {X : Cx} {e : List Expr} {t t' : TA} (h : PA X e t) (i : ∀ σ H Q, t' σ H Q → t σ H Q) : PA X e t' := ⟨fun p pins s σ H Q I q => h.run p pins s σ H Q I (i σ H Q q)⟩

section
variable {X : Cx} {J : Inf} {k : Nat} {W : WX} {bb : Bool} {l r c : Expr} {a b d : E} {pos : Pos}

theorem pd_var {i : Nat} {x : Str} (hN : X.N[i]? = some x) (hv : Vis X.env.scope x) (hd : (x == ("__debug__" : Str)) = false) (hc : (x == ("__classdict__" : Str)) = false) : PE X (.Name x pos) (tX X.K J k W bb (.var i)) := by
  refine PE.imp (pe_var hN hv hd hc) fun σ H Q ⟨A, ρ, M, θ, O, rs, h⟩ => ?_
  obtain ⟨d, e, q⟩ := After.pure (o := getV ρ i) h
  unfold getV at e
  split at e
  · rename_i d' hd'
    cases e
    obtain ⟨v, h1, h2⟩ := rs.env i _ hd'
    exact ⟨v, h1, q H (Same.refl H) rs.rm v (.of h2)⟩
  · cases e
theorem pd_bor {i : Nat} {x : Str} (hN : X.N[i]? = some x) (hv : Vis X.env.scope x) (hd : (x == ("__debug__" : Str)) = false) (hc : (x == ("__classdict__" : Str)) = false) : PE X (.Name x pos) (tX X.K J k W true (.bor i)) := by
  refine PE.imp (pe_var hN hv hd hc) fun σ H Q ⟨A, ρ, M, θ, O, rs, h⟩ => ?_
  obtain ⟨d, e, q⟩ := After.pure (o := (getO ρ i).map D.lst) h
  unfold getO at e
  split at e
  · rename_i xs hxs
    cases e
    obtain ⟨a, vs, h1, h2, h3, h4, h5⟩ := rs.own i _ hxs
    exact ⟨.ref a, h1, q H (Same.refl H) rs.rm _ (.inr ⟨xs, a, vs, rfl, rfl, h2, fun z => rs.rm.noO a z h4, h3⟩)⟩
  · cases e
theorem const_pe {dd : D} {cc : Const} {j : Nat} (h : constOk dd cc = true) : ∃ v, PE X (.Constant cc j pos) (tC v) ∧ ∀ H O θ, Rep X.K H O θ dd v := by
  unfold constOk at h
  split at h
  · exact ⟨_, pe_non, fun _ _ _ => rfl⟩
  · have e := eq_of_beq h
    subst e
    exact ⟨_, pe_bl, fun _ _ _ => rfl⟩
  · have e := of_decide_eq_true h
    subst e
    exact ⟨_, pe_int, fun _ _ _ => rfl⟩
  · have e := of_decide_eq_true h
    subst e
    exact ⟨_, pe_str, fun _ _ _ => rfl⟩
  · cases h
theorem pd_cst {dd : D} {cc : Const} {j : Nat} (h : constOk dd cc = true) : PE X (.Constant cc j pos) (tX X.K J k W bb (.cst dd)) := by
  obtain ⟨v, hp, hr⟩ := const_pe (X := X) (pos := pos) (j := j) h
  refine PE.imp hp fun σ H Q ⟨A, ρ, M, θ, O, rs, h⟩ => ?_
  exact h θ H (Ext.refl _ _) rs.rm v (.of (hr H O θ))
theorem pd_dct : PE X (.Dict [] [] pos) (tX X.K J k W bb (.cst (.clo 0 []))) := by
  refine PE.imp pe_dnewK fun σ H Q ⟨A, ρ, M, θ, O, rs, h⟩ => fun p hp => ?_
  exact h θ (upd H p (.dK [])) (Ext.upd hp) (sm_rm (sm_upd hp) rs.rm) _ (.of ⟨rfl, rfl, p, rfl, .inl upd_same, (rs.rm.tr.new hp).1, (rs.rm.tr.new hp).2⟩)
theorem pd_glb {g : Nat} {x : Str} (hx : XOk J k X) (hg : J.gl g = some x) (hgl : Gl X x) (hd : (x == ("__debug__" : Str)) = false) : PE X (.Name x pos) (tX X.K J k W bb (.glb g)) := by
  cases e : J.P.G g with
  | none =>
    refine ⟨fun pins s σ H Q I ⟨A, ρ, M, θ, O, rs, h⟩ => ?_⟩
    have : ev (J.cfg k) (.glb g) ρ M = Res.of M (J.P.G g) := rfl
    rw [this, e] at h
    exact (show False from h).elim
  | some dd =>
    obtain ⟨u, v, h1, h2, h3⟩ := hx.gls g x dd hg e
    refine PE.imp (pe_glob hgl h1 h2 hd) fun σ H Q ⟨A, ρ, M, θ, O, rs, h⟩ => ?_
    have : ev (J.cfg k) (.glb g) ρ M = Res.of M (J.P.G g) := rfl
    rw [this, e] at h
    exact h θ H (Ext.refl _ _) rs.rm v (.of (h3 H O θ))
theorem pd_bin {op : Operator} {o : BO} (ho : OpR X (binaryOp op) (rOp X.K (binF o))) (ha : PE X l (tX X.K J k W true a)) (hb : PE X r (tX X.K J k W true b)) : PE X (.BinOp l op r pos) (tX X.K J k W bb (.bin o a b)) := by
  refine PE.imp (pe_op ho ha hb) fun σ H Q ⟨A, ρ, M, θ, O, rs, h⟩ => ?_
  refine tX_of rs (After.bind h) fun d1 M1 θ1 H1 x1 rs1 h1 v1 r1 => tX_of rs1 (After.bind h1) fun d2 M2 θ2 H2 x2 rs2 h2 v2 r2 => ?_
  obtain ⟨dd, e, q⟩ := h2.pure
  exact ⟨O, θ2, d1, d2, dd, rs2.rm.tr, RepB.ext r1 x2, r2, e, fun v H' sm rep => q H' sm rs2.rm v (.of rep)⟩
theorem pd_cmp {op : CmpOp} {o : CO} (ho : OpR X (compareOp op) (rCmp X.K (cmpF o))) (ha : PE X l (tX X.K J k W true a)) (hb : PE X r (tX X.K J k W true b)) (hm : behindInMarks op r = false) : PE X (.Compare l [op] [r] pos) (tX X.K J k W bb (.cmp o a b)) := by
  refine PE.imp (pe_cmpR ho ha hb hm) fun σ H Q ⟨A, ρ, M, θ, O, rs, h⟩ => ?_
  refine tX_of rs (After.bind h) fun d1 M1 θ1 H1 x1 rs1 h1 v1 r1 => tX_of rs1 (After.bind h1) fun d2 M2 θ2 H2 x2 rs2 h2 v2 r2 => ?_
  obtain ⟨dd, e, q⟩ := h2.pure
  cases z : cmpF o d1 d2 with
  | none => rw [z] at e; cases e
  | some t =>
    rw [z] at e
    cases e
    exact ⟨O, θ2, d1, d2, t, RepB.ext r1 x2, r2, z, q H2 (Same.refl _) rs2.rm _ (.of rfl)⟩
theorem truth_of {o : Option Bool} {M : Store} {α : Type} {f : Bool → Store → Res α} : truth (Res.of M (o.map D.bl)) f = (Res.of M o).bind f := by
  cases o <;> rfl
theorem truth_bind {α β : Type} {r : Res α} {f : α → Store → Res D} {g : Bool → Store → Res β} : truth (r.bind f) g = r.bind fun x M => truth (f x M) g := by
  cases r <;> rfl
theorem pq_cmp {op : CmpOp} {o : CO} (ho : OpR X (compareOp op) (rCmp X.K (cmpF o))) (ha : PE X l (tX X.K J k W true a)) (hb : PE X r (tX X.K J k W true b)) (hm : behindInMarks op r = false) : PT X (.Compare l [op] [r] pos) (tQ X.K J k W (.cmp o a b)) := by
  refine PT.imp (pt_cmpR ho ha hb hm) fun σ H Q ⟨A, ρ, M, θ, O, rs, h⟩ => ?_
  have e0 : ev (J.cfg k) (.cmp o a b) ρ M = (ev (J.cfg k) a ρ M).bind fun x M1 => (ev (J.cfg k) b ρ M1).bind fun y M2 => Res.of M2 ((cmpF o x y).map .bl) := rfl
  rw [e0, truth_bind] at h
  refine tX_of rs (After.bind h) fun d1 M1 θ1 H1 x1 rs1 h1 v1 r1 => ?_
  rw [truth_bind] at h1
  refine tX_of rs1 (After.bind h1) fun d2 M2 θ2 H2 x2 rs2 h2 v2 r2 => ?_
  rw [truth_of] at h2
  obtain ⟨t, e, q⟩ := (After.bind h2).pure
  exact ⟨O, θ2, d1, d2, t, RepB.ext r1 x2, r2, e, t, rfl, q H2 (Same.refl _) rs2.rm θ2 H2 (Ext.refl _ _) rs2.rm⟩
theorem pd_chain {op op' : CmpOp} {o o' : CO} (ho : OpR X (compareOp op) (rCmp X.K (cmpF o))) (ho' : OpR X (compareOp op') (rCmp X.K (cmpF o'))) (ha : PE X l (tX X.K J k W true a)) (hb : PE X r (tX X.K J k W true b)) (hc : PE X c (tX X.K J k W true d)) (hm : lastMarks [op, op'] [r, c] = false) :
    PE X (.Compare l [op, op'] [r, c] pos) (tX X.K J k W bb (.chain o o' a b d)) := by
  refine PE.imp (pe_chain ho ho' ha hb hc hm) fun σ H Q ⟨A, ρ, M, θ, O, rs, h⟩ => ?_
  refine tX_of rs (After.bind h) fun d1 M1 θ1 H1 x1 rs1 h1 v1 r1 => tX_of rs1 (After.bind h1) fun d2 M2 θ2 H2 x2 rs2 h2 v2 r2 => ?_
  cases z : cmpF o d1 d2 with
  | none => rw [z] at h2; exact (show False from h2).elim
  | some t =>
    rw [z] at h2
    refine ⟨O, θ2, d1, d2, t, RepB.ext r1 x2, r2, z, t, rfl, ?_⟩
    cases t with
    | false => exact h2 θ2 H2 (Ext.refl _ _) rs2.rm _ (.of rfl)
    | true =>
      refine tX_of rs2 (After.bind h2) fun d3 M3 θ3 H3 x3 rs3 h3 v3 r3 => ?_
      obtain ⟨dd, e, q⟩ := h3.pure
      cases z' : cmpF o' d2 d3 with
      | none => rw [z'] at e; cases e
      | some t' =>
        rw [z'] at e
        cases e
        exact ⟨O, θ3, d2, d3, t', RepB.ext r2 x3, r3, z', q H3 (Same.refl _) rs3.rm _ (.of rfl)⟩
theorem pq_chain {op op' : CmpOp} {o o' : CO} (ho : OpR X (compareOp op) (rCmp X.K (cmpF o))) (ho' : OpR X (compareOp op') (rCmp X.K (cmpF o'))) (ha : PE X l (tX X.K J k W true a)) (hb : PE X r (tX X.K J k W true b)) (hc : PE X c (tX X.K J k W true d)) (hm : lastMarks [op, op'] [r, c] = false) :
    PT X (.Compare l [op, op'] [r, c] pos) (tQ X.K J k W (.chain o o' a b d)) := by
  refine PT.imp (pt_chain ho ho' ha hb hc hm) fun σ H Q ⟨A, ρ, M, θ, O, rs, h⟩ => ?_
  have e0 : ev (J.cfg k) (.chain o o' a b d) ρ M = (ev (J.cfg k) a ρ M).bind fun x M1 => (ev (J.cfg k) b ρ M1).bind fun y M2 => match cmpF o x y with
    | some true => (ev (J.cfg k) d ρ M2).bind fun z M3 => Res.of M3 ((cmpF o' y z).map .bl)
    | some false => .ok (.bl false) M2
    | none => .stuck := rfl
  rw [e0, truth_bind] at h
  refine tX_of rs (After.bind h) fun d1 M1 θ1 H1 x1 rs1 h1 v1 r1 => ?_
  rw [truth_bind] at h1
  refine tX_of rs1 (After.bind h1) fun d2 M2 θ2 H2 x2 rs2 h2 v2 r2 => ?_
  cases z : cmpF o d1 d2 with
  | none => rw [z] at h2; exact (show False from h2).elim
  | some t =>
    rw [z] at h2
    refine ⟨O, θ2, d1, d2, t, RepB.ext r1 x2, r2, z, t, rfl, ?_⟩
    cases t with
    | false => exact ⟨false, rfl, h2 θ2 H2 (Ext.refl _ _) rs2.rm⟩
    | true =>
      have h2' : After X.K J O W σ θ2 H2 (truth ((ev (J.cfg k) d ρ M2).bind fun z M3 => Res.of M3 ((cmpF o' d2 z).map .bl)) fun b M1 => Res.ok b M1) (fun b _ _ H' => Q b H') := h2
      rw [truth_bind] at h2'
      refine tX_of rs2 (After.bind h2') fun d3 M3 θ3 H3 x3 rs3 h3 v3 r3 => ?_
      rw [truth_of] at h3
      obtain ⟨t', e, q⟩ := (After.bind h3).pure
      exact ⟨O, θ3, d2, d3, t', RepB.ext r2 x3, r3, e, t', rfl, q H3 (Same.refl _) rs3.rm θ3 H3 (Ext.refl _ _) rs3.rm⟩
/-- a value that is a bool, as a test -/
theorem pq_val {e : Expr} {x : E} (h : PE X e (tX X.K J k W false x)) (he : ∀ whole, isTrue e X.env whole = (do let v ← whole; standAt e.pos; holding [v] (truthy v))) : PT X e (tQ X.K J k W x) := by
  refine PT.imp (pt_val h he) fun σ H Q ⟨A, ρ, M, θ, O, rs, h⟩ => ?_
  refine tX_of (R := fun d _ θ1 H1 => ∃ t, d = .bl t ∧ Q t H1) rs ?_ fun d1 M1 θ1 H1 x1 rs1 h1 v1 r1 => ?_
  · unfold truth at h
    refine (After.bind h).mono fun d1 M1 θ1 H1 x1 m1 h1 => ?_
    cases d1 <;> first | exact (show False from h1).elim | skip
    exact ⟨_, rfl, h1 θ1 H1 (Ext.refl _ _) m1⟩
  · obtain ⟨t, rfl, q⟩ := h1
    exact ⟨t, r1, q⟩
end
end RC

set_option Elab.async false
set_option linter.all false
set_option autoImplicit false
set_option maxRecDepth 100000
set_option maxHeartbeats 2000000
/-! Lambdas: made, handed to a def, called there. -/
namespace RC
open PySem PySem.Spec PyProof.Rows L2
/-- x(), in the def that got the lambda (the errors by the slots) -/
theorem pe_actS {X : Cx} {pins : List (Addr × Obj)} {σ : L2.St} {H : Hp} {s : Shared} {CXg : CXT} {Eg : XK} {Ng : List Str} {qg : Str} {sg : Scope} {g f c' : Addr} {cdg pm ctv : Value} {pa : Arguments} {body : Expr} {sc : Scope} {k i : Nat} {a : Str}
    {pn : List (Addr × Obj)} {xe : Value → Shared → Prop} {W : WX} {tb : XK → TE} {p1 p2 : Pos} (I : Inv X pins σ H s) (L : LamX.LamS X.env.scope sc) (hf : s.heap.get? f = some (PySem.W.kla_obj "<lambda>" (X.env.qual ++ "<lambda>") pa body sc (cloFrom X.env.cells sc.names []) pm c' ctv))
    (hfn : H f = none) (hfr : f ∉ frs X.stack) (hbind : bindArgs (PySem.W.kla_fn "<lambda>" (X.env.qual ++ "<lambda>") pa body sc (cloFrom X.env.cells sc.names []) pm (.ref c') ctv) ⟨[], []⟩ = pure [])
    (tk : Takes ((cxOf CXg X.prog X.w X.K X.mg X.base Ng qg sg g cdg X.A X.stack s H Eg).tr pn xe) W) (hr : Room (k + 1) (X.A.deeper (envOfC qg sg s.heap.objs.size g cdg)))
    (hbody : ∀ (s1 : Shared) (H1 : Hp) (E : XK), PE (LamX.lamCx X (X.A.deeper (envOfC qg sg s.heap.objs.size g cdg)) (envOfC qg sg s.heap.objs.size g cdg :: X.stack) s1 H1 E sc f c') body (tb E))
    (hN : Ng[i]? = some a) (hv : Vis sg a) (hd : (a == ("__debug__" : Str)) = false) (hcd : (a == ("__classdict__" : Str)) = false) :
    PE ((cxOf CXg X.prog X.w X.K X.mg X.base Ng qg sg g cdg X.A X.stack s H Eg).tr pn xe) (.Call (.Name a p1) [] [] p2) (fun σZ HZ Q => σZ[i]? = some (some (.ref f)) ∧ HZ c' = some (LamX.CodeO c' (X.env.qual ++ "<lambda>")) ∧ tb (WE W σZ) σ HZ Q) := by
  refine ⟨fun pinsZ sZ σZ HZ Q IZ ⟨hs, hc, ht⟩ => wpAny_Call_Name_kw (thn ((pe_var (pos := p1) (i := i) hN hv hd hcd).run pinsZ sZ σZ HZ (fun v H1 => v = .ref f ∧ H1 = HZ) IZ ⟨.ref f, hs, rfl, rfl⟩) fun u s1 ⟨v, H1, I1, r1, ev, eH⟩ => ?_)⟩
  subst ev
  rw [eH] at I1
  obtain rfl : u = Value.ref f := r1
  have of1 := I1.base.keep f _ hf hfn hfr (fun z => nomatch (show f ∈ ([] : List Addr) from z))
  obtain ⟨⟨oc, vs, t, hoc, hdc, hvc⟩, _, _⟩ := I1.hok c' _ hc
  have rc : codeAny (model X.prog X.w) (X.A.deeper (envOfC qg sg s.heap.objs.size g cdg)) (.call (.ref f) ⟨[], []⟩) (CR (L2.CX X.prog X.w) (envOfC qg sg s.heap.objs.size g cdg :: X.stack) X.prog X.w HZ s1 Q (WE W σZ)) s1 := by
    refine PySem.W.kla_callFunE hr.depth of1 rfl L.co L.gen rfl ⟨c', oc, vs, t, rfl, hoc, hdc, hvc⟩ ?_
    rw [hbind]
    refine wpAny_pure (wpAny_newFunctionEnv (fun y hy => (L.own y hy).2) (fun y hy => absurd hy (by simp)) (fun h₁ hns hsb => ⟨I1.nolimit.fresh _ hsb, ?_⟩) L.kind)
    have kp : ∀ b o, s1.heap.get? b = some o → h₁.get? b = some o := fun b o z => hsb.extBut b o (Nat.ne_of_lt (Heap.lt_size z)) (Heap.get?_push_of_some _ z)
    have J := LamX.lam_start2 (f := f) (c' := c') (E := WE W σZ) (tk := s1.toks + ([] : List (Str × Value)).length) I L I1.env0 hr.hd I1.base hns kp
    refine PySem.W.kla_codeExpr (wpAny_mono ((hbody s1 HZ (WE W σZ)).run [] _ _ HZ Q J ht) (fun v s' ⟨w', H', J', rv, q⟩ => ⟨w', H', J'.os, J'.bare, J'.base, J'.hok, rv, q⟩) fun _ _ z => z)
  refine PySem.W.callWith_F0 ⟨_, _, _, _, of1⟩ (wpAny_call (codeAny_mono rc fun r s' hq => ?_))
  match r, hq with
  | .error e, hq => exact passAt tk σZ pinsZ HZ s1 e s' I1 hq
  | .ok (.ret u), hq => exact I1.after hq
/-- x(lambda: body) -/
theorem pe_lamS {X : Cx} {T : List (Addr × Str)} {TT : (XK → Hp → VK → Prop) → Addr → Hp → VK → Prop} {x y a : Str} {g c P : Addr} {k : Nat} {pg : Arguments} {bg : List Stmt} {sg : Scope} {dV kV doc pm cdv ct oc : Value} {an od : Option Addr} {osl : Array (Option Value)} {Ng : List Str}
    {pa : Arguments} {body : Expr} {sc : Scope} {t : XK → TE} {p lpos pos : Pos} (hg : Gl X y) (hm : X.mg y = some (.ref g)) (hk : PySem.W.keepIn X.K (.ref g) = true) (lk : X.K.lookup g = some ⟨oc, od, .func (PySem.W.fnOf x x pg bg sg dV kV doc pm an cdv ct), osl⟩)
    (hcg : PySem.W.codeIn X.K cdv x = true) (hb : L2.Binds X.K (PySem.W.fnOf x x pg bg sg dV kV doc pm an cdv ct) [a] []) (Sg : FnScope Ng [a] sg) (hNg : Ng[0]? = some a) (hva : Vis sg a)
    (hG : ∀ (f c' : Addr) (s : Shared) (H : Hp) (Q : VK) (tl : XK → Hp → VK → Prop), Room (k + 1) (X.A.deeper (envOfC x sg s.heap.objs.size g cdv)) →
      (∀ (W : WX) (pn : List (Addr × Obj)) (xe : Value → Shared → Prop) (p1 p2 : Pos), Takes ((lamZ X Ng x sg g cdv s H).tr pn xe) W →
        PE ((lamZ X Ng x sg g cdv s H).tr pn xe) (.Call (.Name a p1) [] [] p2) (fun σZ HZ Q => σZ[0]? = some (some (.ref f)) ∧ HZ c' = some (LamX.CodeO c' (X.env.qual ++ "<lambda>")) ∧ tl (WE W σZ) HZ Q)) →
      H c' = some (LamX.CodeO c' (X.env.qual ++ "<lambda>")) → TT tl c' H Q → ∃ t, PSs (lamZ X Ng x sg g cdv s H) bg t ∧ t { nx := fun _ H' => Q .non H', rt := Q } (L2.start Ng [.ref f]) H)
    (TB : LamX.TabB X.base X.mg c P) (hcode : X.env.code = .ref c) (hmT : (P, X.env.qual ++ "<lambda>") ∈ T) (hu : ∀ p ∈ T, p.1 = P → p.2 = X.env.qual ++ "<lambda>") (hr : Room (k + 2) X.A) (L : LamX.LamS X.env.scope sc) (hdef : defaultsOf pa X.env = ([], []))
    (hbind : ∀ (q : Str) (cl : List (Str × Addr)) (pm cv ctv : Value), bindArgs (PySem.W.kla_fn "<lambda>" q pa body sc cl pm cv ctv) ⟨[], []⟩ = pure [])
    (hbody : ∀ (s s1 : Shared) (H1 : Hp) (E : XK) (f c' : Addr), PE (LamX.lamCx X (X.A.deeper (envOfC x sg s.heap.objs.size g cdv)) (envOfC x sg s.heap.objs.size g cdv :: X.stack) s1 H1 E sc f c') body (t E))
    (hdb : (y == ("__debug__" : Str)) = false) (hd : (a == ("__debug__" : Str)) = false) (hcd : (a == ("__classdict__" : Str)) = false) :
    PE X (.Call (.Name y p) [.Lambda pa body sc lpos] [] pos) (fun σ H Q => LamX.Tabs T H ∧ ∀ H1 c', LamX.ExtN H H1 → LamX.Tabs T H1 → H1 c' = some (LamX.CodeO c' (X.env.qual ++ "<lambda>")) → TT (fun E H' Q' => t E σ H' Q') c' H1 Q) := by
  refine ⟨fun pins s σ H Q I ⟨hT, h⟩ => wpAny_Call_Name_kw (ld_glob I hg hm (PySem.W.callWith_K (h₀ := X.base) I.ok.mod.kin hk ?_ rfl rfl) hdb)⟩
  show wpAny _ _ (spliced ((false, eval (.Lambda pa body sc lpos) X.env) :: backTo pos (starEach [] X.env))) _ _ s
  refine Calls.spliced_cons (LamX.lam_make2 I TB hcode hmT hu hT hdef (L.has I.ok) fun f c' pm' ctv H1 s' I1 eN T1 hf hfn hfr hco => Calls.spliced_nil ⟨I1.kIn, ?_⟩)
  have rc : codeAny (model X.prog X.w) X.A (.call (.ref g) ⟨[.ref f], []⟩) (CR (L2.CX X.prog X.w) X.stack X.prog X.w H1 s' Q fun _ _ _ => False) s' := by
    refine LamX.run_ofS (N := Ng) (ps := [a]) (us := [.ref f]) (vs := [.ref f]) lk hcg Sg hr I1.env0 (hb s' [.ref f] I1.kIn rfl) (.cons rfl .nil) rfl fun hr' => ?_
    exact hG f c' s' H1 Q (fun E H' Q' => t E σ H' Q') hr' (fun W pn xe p1 p2 tk => pe_actS (i := 0) I1 L hf hfn hfr (hbind _ _ _ _ _) tk hr' (fun s1 H2 E => hbody s' s1 H2 E f c') hNg hva hd hcd) hco (h H1 c' eN T1 hco)
  refine wpAny_call (codeAny_mono rc fun r s2 hq => ?_)
  match r, hq with
  | .error e, hq =>
    obtain ⟨_, _, _, _, _, _, _, _, _, _, _, _, z⟩ := hq
    exact z.elim
  | .ok (.ret u), hq => exact I1.after hq
end RC

set_option Elab.async false
set_option linter.all false
set_option autoImplicit false
set_option maxRecDepth 100000
set_option maxHeartbeats 1000000
namespace RC
open PySem PySem.Spec PyProof.Rows L2
variable [LX]
section
variable {X : Cx} {J : Inf} {k : Nat} {W : WX} {bb : Bool} {l r c : Expr} {a b d : E} {pos : Pos} {rest : List Expr}
theorem pd_and (ha : PE X l (tX X.K J k W false a)) (hb : PE X (.BoolOp .And (r :: rest) pos) (tX X.K J k W bb b)) : PE X (.BoolOp .And (l :: r :: rest) pos) (tX X.K J k W bb (.and a b)) := by
  refine PE.imp (pe_and ha hb) fun σ H Q ⟨A, ρ, M, θ, O, rs, h⟩ => ?_
  have h' : After X.K J O W σ θ H (truth (ev (J.cfg k) a ρ M) fun x M1 => if x then ev (J.cfg k) b ρ M1 else .ok (.bl false) M1) _ := h
  unfold truth at h'
  refine tX_of rs (After.bind h') fun d1 M1 θ1 H1 x1 rs1 h1 v1 r1 => ?_
  cases d1 <;> first | exact (show False from h1).elim | skip
  rename_i t
  refine ⟨t, r1, ?_⟩
  cases t with
  | false => exact h1 θ1 H1 (Ext.refl _ _) rs1.rm _ (.of rfl)
  | true => exact ⟨A, ρ, M1, θ1, O, rs1, h1⟩
theorem pd_or (ha : PE X l (tX X.K J k W false a)) (hb : PE X (.BoolOp .Or (r :: rest) pos) (tX X.K J k W bb b)) : PE X (.BoolOp .Or (l :: r :: rest) pos) (tX X.K J k W bb (.or a b)) := by
  refine PE.imp (pe_or ha hb) fun σ H Q ⟨A, ρ, M, θ, O, rs, h⟩ => ?_
  have h' : After X.K J O W σ θ H (truth (ev (J.cfg k) a ρ M) fun x M1 => if x then .ok (.bl true) M1 else ev (J.cfg k) b ρ M1) _ := h
  unfold truth at h'
  refine tX_of rs (After.bind h') fun d1 M1 θ1 H1 x1 rs1 h1 v1 r1 => ?_
  cases d1 <;> first | exact (show False from h1).elim | skip
  rename_i t
  refine ⟨t, r1, ?_⟩
  cases t with
  | true => exact h1 θ1 H1 (Ext.refl _ _) rs1.rm _ (.of rfl)
  | false => exact ⟨A, ρ, M1, θ1, O, rs1, h1⟩
theorem truth_truth {α : Type} {r : Res D} {f : Bool → Store → Res D} {g : Bool → Store → Res α} : truth (truth r f) g = truth r fun x M => truth (f x M) g := by
  unfold truth
  cases r with
  | ok d M => cases d <;> rfl
  | exc c v M => rfl
  | stuck => rfl
theorem pq_and (ha : PT X l (tQ X.K J k W a)) (hb : PW X (.BoolOp .And (r :: rest) pos) (tQ X.K J k W b)) : PW X (.BoolOp .And (l :: r :: rest) pos) (tQ X.K J k W (.and a b)) := by
  refine PW.imp (pw_and ha hb) fun σ H Q ⟨A, ρ, M, θ, O, rs, h⟩ => ?_
  have e0 : ev (J.cfg k) (.and a b) ρ M = truth (ev (J.cfg k) a ρ M) fun x M1 => if x then ev (J.cfg k) b ρ M1 else .ok (.bl false) M1 := rfl
  rw [e0, truth_truth] at h
  refine tQ_of (R := fun _ _ _ _ => True) rs h fun t M1 θ1 H1 x1 rs1 h1 => ?_
  cases t with
  | false => exact h1 θ1 H1 (Ext.refl _ _) rs1.rm
  | true => exact ⟨A, ρ, M1, θ1, O, rs1, h1⟩
theorem pq_or (ha : PT X l (tQ X.K J k W a)) (hb : PW X (.BoolOp .Or (r :: rest) pos) (tQ X.K J k W b)) : PW X (.BoolOp .Or (l :: r :: rest) pos) (tQ X.K J k W (.or a b)) := by
  refine PW.imp (pw_or ha hb) fun σ H Q ⟨A, ρ, M, θ, O, rs, h⟩ => ?_
  have e0 : ev (J.cfg k) (.or a b) ρ M = truth (ev (J.cfg k) a ρ M) fun x M1 => if x then .ok (.bl true) M1 else ev (J.cfg k) b ρ M1 := rfl
  rw [e0, truth_truth] at h
  refine tQ_of (R := fun _ _ _ _ => True) rs h fun t M1 θ1 H1 x1 rs1 h1 => ?_
  cases t with
  | true => exact h1 θ1 H1 (Ext.refl _ _) rs1.rm
  | false => exact ⟨A, ρ, M1, θ1, O, rs1, h1⟩
theorem pd_not (ha : PE X l (tX X.K J k W false a)) : PE X (.UnaryOp .Not l pos) (tX X.K J k W bb (.not a)) := by
  refine PE.imp (pe_not ha) fun σ H Q ⟨A, ρ, M, θ, O, rs, h⟩ => ?_
  have h' : After X.K J O W σ θ H (truth (ev (J.cfg k) a ρ M) fun x M1 => .ok (D.bl (!x)) M1) (fun d _ θ' H' => ∀ v, RepQ bb X.K H' O θ' d v → Q v H') := h
  unfold truth at h'
  refine tX_of rs (After.bind h') fun d1 M1 θ1 H1 x1 rs1 h1 v1 r1 => ?_
  cases d1 <;> first | exact (show False from h1).elim | skip
  exact ⟨_, r1, h1 θ1 H1 (Ext.refl _ _) rs1.rm _ (.of rfl)⟩
theorem pq_not (ha : PT X l (tQ X.K J k W a)) : PT X (.UnaryOp .Not l pos) (tQ X.K J k W (.not a)) := by
  refine PT.imp (pt_not ha) fun σ H Q ⟨A, ρ, M, θ, O, rs, h⟩ => ?_
  have e0 : ev (J.cfg k) (.not a) ρ M = truth (ev (J.cfg k) a ρ M) fun x M1 => .ok (.bl (!x)) M1 := rfl
  rw [e0, truth_truth] at h
  exact tQ_of (R := fun _ _ _ _ => True) rs h fun t M1 θ1 H1 x1 rs1 h1 => h1 θ1 H1 (Ext.refl _ _) rs1.rm
theorem pd_neg (ha : PE X l (tX X.K J k W false a)) : PE X (.UnaryOp .USub l pos) (tX X.K J k W bb (.neg a)) := by
  refine PE.imp (pe_un un_neg ha) fun σ H Q ⟨A, ρ, M, θ, O, rs, h⟩ => ?_
  refine tX_of rs (After.bind h) fun d1 M1 θ1 H1 x1 rs1 h1 v1 r1 => ?_
  cases d1 <;> first | exact (show False from h1).elim | skip
  exact ⟨_, r1, h1 θ1 H1 (Ext.refl _ _) rs1.rm _ (.of rfl)⟩
theorem pd_ife (hc : PT X c (tQ X.K J k W d)) (ha : PE X l (tX X.K J k W bb a)) (hb : PE X r (tX X.K J k W bb b)) : PE X (.IfExp c l r pos) (tX X.K J k W bb (.ife d a b)) := by
  refine PE.imp (pe_ifExp hc ha hb) fun σ H Q ⟨A, ρ, M, θ, O, rs, h⟩ => ?_
  have h' : After X.K J O W σ θ H (truth (ev (J.cfg k) d ρ M) fun x M1 => if x then ev (J.cfg k) a ρ M1 else ev (J.cfg k) b ρ M1) _ := h
  refine tQ_of (R := fun _ _ _ _ => True) rs h' fun t M1 θ1 H1 x1 rs1 h1 => ?_
  cases t with
  | true => exact ⟨A, ρ, M1, θ1, O, rs1, h1⟩
  | false => exact ⟨A, ρ, M1, θ1, O, rs1, h1⟩
/-! ### arguments -/
theorem pa_d_nil : PA X [] (tXs X.K J k W bb .nil) := PA.imp pa_nil fun σ H Q ⟨A, ρ, M, θ, O, rs, h⟩ => h θ H (Ext.refl _ _) rs.rm [] (by cases bb <;> rfl)
theorem pa_d_cons {e : Expr} {es : List Expr} {x : E} {xs : Es} (ha : PE X e (tX X.K J k W bb x)) (hr : PA X es (tXs X.K J k W bb xs)) (hs : starEach (e :: es) X.env = (false, eval e X.env) :: starEach es X.env) : PA X (e :: es) (tXs X.K J k W bb (.cons x xs)) := by
  refine PA.imp (pa_cons ha hr hs) fun σ H Q ⟨A, ρ, M, θ, O, rs, h⟩ => ?_
  refine tX_of rs (After.bind h) fun d1 M1 θ1 H1 x1 rs1 h1 v1 r1 => tXs_of rs1 (After.bind h1) fun ds M2 θ2 H2 x2 rs2 h2 vs r2 => ?_
  refine h2 θ2 H2 (Ext.refl _ _) rs2.rm (v1 :: vs) ?_
  cases bb with
  | true => exact ⟨v1, vs, rfl, RepB.ext r1 x2, r2⟩
  | false => exact ⟨v1, vs, rfl, Rep.ext r1 x2, r2⟩
/-! ### calls -/
theorem pd_call {f : Nat} {x : Str} {e : Expr} {es : List Expr} {xs : Es} {p : Pos} (hx : XOk J k X) (tk : Takes X W) (hf : J.fn f = some x) (hg : Gl X x) (ha : PA X (e :: es) (tXs X.K J k W false xs)) (hdb : (x == ("__debug__" : Str)) = false)
    (he : starEach (e :: es) X.env = (false, eval e X.env) :: starEach es X.env) (hpl : (backTo pos (starEach es X.env)).any (·.1) = false) : PE X (.Call (.Name x p) (e :: es) [] pos) (tX X.K J k W bb (.call f xs)) := by
  obtain ⟨fa, fd, ps, h1, h2, h3, h4⟩ := hx.fns _ rfl inferInstance rfl k (Nat.le_refl k) f x hf
  refine PE.imp (pe_callG h4 hx.gd hx.room hg h1 h2 h3 (fun σ => passAt tk σ) ha hdb he hpl) fun σ H Q ⟨A, ρ, M, θ, O, rs, h⟩ => ?_
  refine tXs_of rs (After.bind h) fun ds M1 θ1 H1 x1 rs1 h1 vs r1 => ?_
  refine ⟨O, θ1, M1, ds, rs1.rm, r1, ?_⟩
  have h1' : After X.K J O W σ θ1 H1 (callF J.P k f ds M1) fun d _ θ' H' => ∀ v, RepQ bb X.K H' O θ' d v → Q v H' := h1
  cases q : callF J.P k f ds M1 with
  | ok d M2 =>
    rw [q] at h1'
    exact fun θ' H' x m v rep => h1' θ' H' x m v (.of rep)
  | exc c v M2 =>
    rw [q] at h1'
    exact fun θ' H' cls da x m rep => h1' θ' H' cls da x m rep
  | stuck => rw [q] at h1'; exact h1'
theorem pd_biB {id : String} {y : Str} {bi : Bi} {e : Expr} {es : List Expr} {xs : Es} {p : Pos} (hc : CallR X (.builtin id) (rCall X.K (biF bi))) (hg : Gl X y) (hm : X.mg y = none) (hv : bootBuiltins y = some (.builtin id)) (ha : PA X (e :: es) (tXs X.K J k W true xs)) (hn : y ≠ "__name__") (hdb : (y == ("__debug__" : Str)) = false)
    (he : starEach (e :: es) X.env = (false, eval e X.env) :: starEach es X.env) (hpl : (backTo pos (starEach es X.env)).any (·.1) = false) : PE X (.Call (.Name y p) (e :: es) [] pos) (tX X.K J k W bb (.bi bi xs)) := by
  refine PE.imp (pe_callB hc hg hm hv ha hn hdb he hpl) fun σ H Q ⟨A, ρ, M, θ, O, rs, h⟩ => ?_
  refine tXs_of rs (After.bind h) fun ds M1 θ1 H1 x1 rs1 h1 vs r1 => ?_
  obtain ⟨dd, e, q⟩ := h1.pure
  exact ⟨O, θ1, ds, dd, rs1.rm.tr, r1, e, fun v H' sm rep => q H' sm rs1.rm v (.of rep)⟩
theorem pd_biT {T : String} {y : Str} {bi : Bi} {e : Expr} {es : List Expr} {xs : Es} {p : Pos} (hc : CallR X (.type T) (rCall X.K (biF bi))) (hg : Gl X y) (hm : X.mg y = none) (hv : bootBuiltins y = some (.type T)) (ha : PA X (e :: es) (tXs X.K J k W true xs)) (hn : y ≠ "__name__") (hdb : (y == ("__debug__" : Str)) = false)
    (he : starEach (e :: es) X.env = (false, eval e X.env) :: starEach es X.env) (hpl : (backTo pos (starEach es X.env)).any (·.1) = false) : PE X (.Call (.Name y p) (e :: es) [] pos) (tX X.K J k W bb (.bi bi xs)) := by
  refine PE.imp (pe_callTy hc hg hm hv ha hn hdb he hpl) fun σ H Q ⟨A, ρ, M, θ, O, rs, h⟩ => ?_
  refine tXs_of rs (After.bind h) fun ds M1 θ1 H1 x1 rs1 h1 vs r1 => ?_
  obtain ⟨dd, e, q⟩ := h1.pure
  exact ⟨O, θ1, ds, dd, rs1.rm.tr, r1, e, fun v H' sm rep => q H' sm rs1.rm v (.of rep)⟩
def notStar0 : Expr → Bool
  | .Starred _ _ => false
  | _ => true
/-- isinstance -/
theorem pd_isi {t : Ty} {y : Str} {p p2 : Pos} (ht : tyStr t = some y) (hx : XOk J k X) (ha : PE X l (tX X.K J k W true a)) (hg : Gl X "isinstance") (hgk : Gl X y) (hs : starEach [l, .Name y p2] X.env = (false, eval l X.env) :: starEach [.Name y p2] X.env) :
    PE X (.Call (.Name "isinstance" p) [l, .Name y p2] [] pos) (tX X.K J k W bb (.isi a t)) := by
  have hnown : ∀ c, t ≠ .own c := fun c e => by subst e; cases ht
  have hty : PE X (.Name y p2) (tC (.ty (tyName t))) := by
    cases t with
    | int => cases ht; exact pe_bltn (v := .ty "int") hgk (hx.blt _ (by decide)) PyProof.Rows.boot_int rfl
    | bool => cases ht; exact pe_bltn (v := .ty "bool") hgk (hx.blt _ (by decide)) PyProof.Rows.boot_bool rfl
    | str => cases ht; exact pe_bltn (v := .ty "str") hgk (hx.blt _ (by decide)) PyProof.Rows.boot_str rfl
    | tuple => cases ht; exact pe_bltn (v := .ty "tuple") hgk (hx.blt _ (by decide)) PyProof.Rows.boot_tuple rfl
    | list => cases ht; exact pe_bltn (v := .ty "list") hgk (hx.blt _ (by decide)) PyProof.Rows.boot_list rfl
    | own c => cases ht
  refine PE.imp (pe_callB (bi_isi (isa := J.P.isa) hnown) hg (hx.blt _ (by decide)) PyProof.Rows.boot_isinstance (pa_cons ha (pa_cons hty pa_nil rfl) hs) (by decide) (by decide) hs rfl) fun σ H Q ⟨A, ρ, M, θ, O, rs, h⟩ => ?_
  refine tX_of rs (After.bind h) fun d1 M1 θ1 H1 x1 rs1 h1 v1 r1 => ?_
  obtain ⟨dd, e, q⟩ := h1.pure
  cases z : isiF (J.cfg k).isa d1 t with
  | none => rw [z] at e; cases e
  | some t' =>
    rw [z] at e
    cases e
    exact ⟨v1, O, θ1, d1, t', rfl, r1, z, q H1 (Same.refl _) rs1.rm _ (.of rfl)⟩
/-- isinstance, one of two classes -/
theorem pd_isi2 {t u : Ty} {y y' : Str} {p p2 p3 p4 : Pos} {kt : Nat} (ht : tyStr t = some y) (hu : tyStr u = some y') (hx : XOk J k X) (ha : PE X l (tX X.K J k W true a)) (hg : Gl X "isinstance") (hgk : Gl X y) (hgk' : Gl X y') (hs : notStar0 l = true) :
    PE X (.Call (.Name "isinstance" p) [l, .Tuple [.Name y p2, .Name y' p3] kt p4] [] pos) (tX X.K J k W bb (.isi2 a t u)) := by
  have hty : ∀ (t : Ty) (y : Str) (p2 : Pos), tyStr t = some y → Gl X y → PE X (.Name y p2) (tC (.ty (tyName t))) := fun t y p2 ht hgk => by
    cases t with
    | int => cases ht; exact pe_bltn (v := .ty "int") hgk (hx.blt _ (by decide)) PyProof.Rows.boot_int rfl
    | bool => cases ht; exact pe_bltn (v := .ty "bool") hgk (hx.blt _ (by decide)) PyProof.Rows.boot_bool rfl
    | str => cases ht; exact pe_bltn (v := .ty "str") hgk (hx.blt _ (by decide)) PyProof.Rows.boot_str rfl
    | tuple => cases ht; exact pe_bltn (v := .ty "tuple") hgk (hx.blt _ (by decide)) PyProof.Rows.boot_tuple rfl
    | list => cases ht; exact pe_bltn (v := .ty "list") hgk (hx.blt _ (by decide)) PyProof.Rows.boot_list rfl
    | own c => cases ht
  have hk1 : ∀ c, t ≠ .own c := fun c e => by subst e; cases ht
  have hk2 : ∀ c, u ≠ .own c := fun c e => by subst e; cases hu
  have hs' : ∀ es, starEach (l :: es) X.env = (false, eval l X.env) :: starEach es X.env := fun es => by
    cases l <;> first | rfl | cases hs
  refine PE.imp (pe_callB (bi_isi2 (isa := J.P.isa) hk1 hk2) hg (hx.blt _ (by decide)) PyProof.Rows.boot_isinstance (pa_cons ha (pa_cons (pe_tup (pa_cons (hty t y p2 ht hgk) (pa_cons (hty u y' p3 hu hgk') pa_nil rfl) rfl)) pa_nil rfl) (hs' _)) (by decide) (by decide) (hs' _) rfl) fun σ H Q ⟨A, ρ, M, θ, O, rs, h⟩ => ?_
  refine tX_of rs (After.bind h) fun d1 M1 θ1 H1 x1 rs1 h1 v1 r1 => ?_
  obtain ⟨dd, e, q⟩ := h1.pure
  cases z : isi2F (J.cfg k).isa d1 t u with
  | none => rw [z] at e; cases e
  | some t' =>
    rw [z] at e
    cases e
    refine ⟨by simp [sizeLine_eq], fun tp hp => ?_⟩
    exact ⟨v1, tp, O, θ1, d1, t', rfl, upd_same, RepB.ext r1 (sm_ext (sm_upd hp) θ1), z, q _ (sm_upd hp) rs1.rm _ (.of rfl)⟩
theorem kit17 {K : PySem.W.Frag} : PySem.W.kitOne K (.type "NoneType") (.type "ValueError") = some false := by kernel_rfl
/-- isinstance of an error -/
theorem pd_isx {t : Nat} {p p2 : Pos} (hx : XOk J k X) (ht : (t < 17 ∧ t ∈ J.cs) ∨ t = 17) (ha : PE X l (tX X.K J k W false a)) (hg : Gl X "isinstance") (hgk : Gl X (cname t)) (hs : starEach [l, .Name (cname t) p2] X.env = (false, eval l X.env) :: starEach [.Name (cname t) p2] X.env) :
    PE X (.Call (.Name "isinstance" p) [l, .Name (cname t) p2] [] pos) (tX X.K J k W bb (.isx a t)) := by
  obtain ⟨cv, hcv, hV, nn, n0, lt⟩ : ∃ cv, PE X (.Name (cname t) p2) (tC cv) ∧ ClsV cv (clV X.K t) ∧ PySem.W.kitOne X.K (.type "NoneType") (clV X.K t) = some false ∧ clV X.K t ≠ .none ∧ t < 20 := by
    rcases ht with ⟨h1, h2⟩ | h1
    · have R := hx.cls t h2
      obtain ⟨C, F⟩ := clsB_ok R.cls
      have Z := rzB_ok R.rz F.at_
      refine ⟨.ref C, ?_, by rw [F.at_]; exact .own C, by rw [F.at_]; exact Z.nn, by rw [F.at_]; simp, by omega⟩
      exact ⟨fun pins s σ H Q I q => ld_glob I hgk (R.glo.trans (congrArg some F.at_)) ⟨.ref C, H, I, rfl, q⟩ (cname_dbg t h1)⟩
    · subst h1
      exact ⟨.ty "ValueError", pe_bltn (v := .ty "ValueError") hgk (hx.blt _ (by decide)) PyProof.Rows.Boot.«ValueError» rfl, .ty _, kit17, by simp [clV], by decide⟩
  refine PE.imp (pe_callB call_isX hg (hx.blt _ (by decide)) PyProof.Rows.boot_isinstance (pa_cons ha (pa_cons hcv pa_nil rfl) hs) (by decide) (by decide) hs rfl) fun σ H Q ⟨A, ρ, M, θ, O, rs, h⟩ => ?_
  refine tX_of rs (After.bind h) fun d1 M1 θ1 H1 x1 rs1 h1 v1 r1 => ?_
  obtain ⟨dd, e, q⟩ := h1.pure
  rw [show (J.cfg k).isa = isaC from hx.isa] at e
  have r1 : Rep X.K H1 O θ1 d1 v1 := r1
  cases d1 with
  | non =>
    cases e
    have e1 : v1 = .non := r1
    exact ⟨v1, cv, clV X.K t, false, rfl, hV, .inl ⟨e1, nn⟩, q H1 (Same.refl _) rs1.rm _ (.of rfl)⟩
  | exc c y =>
    cases e
    obtain ⟨hc, a, da, e1, ea, hd⟩ := r1
    obtain ⟨C, F⟩ := clsB_ok hc
    refine ⟨v1, cv, clV X.K t, isaC c t, rfl, hV, .inr ⟨a, C, da, e1, by rw [← F.at_]; exact ea.1, fun d z => ?_, F.ex, F.kit t lt n0⟩, q H1 (Same.refl _) rs1.rm _ (.of rfl)⟩
    rcases hd with ⟨_, z2⟩ | ⟨_, d', w, z2, z3, _⟩
    · rw [z2] at z; cases z
    · rw [z2] at z; cases z
      exact ⟨_, z3.1⟩
  | _ => cases e
/-- an error's field -/
theorem pd_att {n : Nat} {z : Str} {p2 : Pos} (hx : XOk J k X) (ha : PE X (.Name z p2) (tX X.K J k W false a)) : PE X (.Attribute (.Name z p2) (fname n) pos) (tX X.K J k W bb (.att a n)) := by
  refine PE.imp (pe_fld ha rfl) fun σ H Q ⟨A, ρ, M, θ, O, rs, h⟩ => ?_
  refine tX_of rs (After.bind h) fun d1 M1 θ1 H1 x1 rs1 h1 v1 r1 => ?_
  obtain ⟨dd, e, q⟩ := h1.pure
  rw [show (J.cfg k).fld = fldC from hx.fld] at e
  have r1 : Rep X.K H1 O θ1 d1 v1 := r1
  cases d1 with
  | exc c y =>
    have e' : (if n ≠ 0 ∧ fldC c = n then some y else none) = some dd := e
    split at e'
    · rename_i hn
      cases e'
      obtain ⟨hc, a, da, e1, ea, hd⟩ := r1
      obtain ⟨C, F⟩ := clsB_ok hc
      rcases hd with ⟨z1, _⟩ | ⟨z1, d', w, z2, z3, z4⟩
      · exact absurd (hn.2.symm.trans z1) hn.1
      · subst z2
        rw [hn.2] at z3
        have z5 := F.fld z1
        rw [hn.2] at z5
        exact ⟨a, C, d', w, e1, by rw [← F.at_]; exact ea.1, z3.1, F.xf, z5, q H1 (Same.refl _) rs1.rm _ (.of z4)⟩
    · cases e'
  | _ => cases e
theorem pd_rpr {p : Pos} (hx : XOk J k X) (ha : PE X l (tX X.K J k W true a)) (hg : Gl X "repr") (hs : starEach [l] X.env = [(false, eval l X.env)]) :
    PE X (.Call (.Name "repr" p) [l] [] pos) (tX X.K J k W bb (.rpr a)) := by
  have hu : X.A.units + 65 < cLine := by have := hx.room.un; omega
  refine PE.imp (pe_callB (call_repr hx.gd hu) hg (hx.blt _ (by decide)) PyProof.Rows.boot_repr (pa_cons ha pa_nil hs) (by decide) (by decide) hs rfl) fun σ H Q ⟨A, ρ, M, θ, O, rs, h⟩ => ?_
  refine tX_of rs (After.bind h) fun d1 M1 θ1 H1 x1 rs1 h1 v1 r1 => ?_
  obtain ⟨dd, e, q⟩ := h1.pure
  cases z : (J.cfg k).rp d1 with
  | none => rw [z] at e; cases e
  | some t =>
    rw [z] at e
    cases e
    exact ⟨v1, O, θ1, d1, t, rfl, r1, hx.rp d1 t z, q H1 (Same.refl _) rs1.rm _ (.of rfl)⟩
/-! ### methods of texts -/
theorem pd_mt0 {m : Mt} {id : String} {name : Str} {ap : Pos} (slot : Slot "str" name id) (ty : typeOf (.builtin id) = pure (.type "method_descriptor")) (rule : MtR X id (rMt X.K m)) (ho : PE X l (tX X.K J k W false a))
    (hbase : attributeBase l name X.env (eval l X.env) = eval l X.env) (hline : (ap.endLine == pos.line) = true) : PE X (.Call (.Attribute l name ap) [] [] pos) (tX X.K J k W bb (.mt m a .nil)) := by
  refine PE.imp (pe_m0 slot ty rule ho hbase hline) fun σ H Q ⟨A, ρ, M, θ, O, rs, h⟩ => ?_
  refine tX_of rs (After.bind h) fun d1 M1 θ1 H1 x1 rs1 h1 v1 r1 => ?_
  cases d1 <;> first | exact (show False from h1).elim | skip
  rename_i s
  have h1' : After X.K J O W σ θ1 H1 (Res.of M1 (mtF m (.str s) [])) _ := h1
  obtain ⟨dd, e, q⟩ := h1'.pure
  exact ⟨⟨_, r1⟩, O, θ1, .str s, [], dd, rs1.rm.tr, .inl r1, rfl, e, fun v H' sm rep => q H' sm rs1.rm v (.of rep)⟩
theorem pd_mt1 {m : Mt} {id : String} {name : Str} {ap : Pos} (slot : Slot "str" name id) (ty : typeOf (.builtin id) = pure (.type "method_descriptor")) (rule : MtR X id (rMt X.K m)) (ho : PE X l (tX X.K J k W false a)) (he : PE X r (tX X.K J k W true b))
    (hs : starEach [r] X.env = [(false, eval r X.env)]) (hbase : attributeBase l name X.env (eval l X.env) = eval l X.env) (hline : (ap.endLine == pos.line) = true) : PE X (.Call (.Attribute l name ap) [r] [] pos) (tX X.K J k W bb (.mt m a (.cons b .nil))) := by
  refine PE.imp (pe_m1 slot ty rule ho he hs hbase hline) fun σ H Q ⟨A, ρ, M, θ, O, rs, h⟩ => ?_
  refine tX_of rs (After.bind h) fun d1 M1 θ1 H1 x1 rs1 h1 v1 r1 => ?_
  cases d1 <;> first | exact (show False from h1).elim | skip
  rename_i s
  refine ⟨⟨_, r1⟩, ?_⟩
  have h1' : After X.K J O W σ θ1 H1 ((ev (J.cfg k) b ρ M1).bind fun y M2 => Res.of M2 (mtF m (.str s) [y])) (fun d _ θ' H' => ∀ v, RepQ bb X.K H' O θ' d v → Q v H') := by
    have h2 : After X.K J O W σ θ1 H1 (((ev (J.cfg k) b ρ M1).bind fun x M2 => .ok [x] M2).bind fun xs M2 => Res.of M2 (mtF m (.str s) xs)) (fun d _ θ' H' => ∀ v, RepQ bb X.K H' O θ' d v → Q v H') := h1
    cases z : ev (J.cfg k) b ρ M1 with
    | ok y M2 => rw [z] at h2; exact h2
    | exc c v M2 => rw [z] at h2; exact h2
    | stuck => rw [z] at h2; exact h2
  refine tX_of rs1 (After.bind h1') fun d2 M2 θ2 H2 x2 rs2 h2 v2 r2 => ?_
  obtain ⟨dd, e, q⟩ := h2.pure
  exact ⟨O, θ2, .str s, [d2], dd, rs2.rm.tr, .inl r1, ⟨v2, [], rfl, r2, rfl⟩, e, fun v H' sm rep => q H' sm rs2.rm v (.of rep)⟩
end
end RC

set_option Elab.async false
set_option linter.all false
set_option autoImplicit false
set_option maxRecDepth 100000
set_option maxHeartbeats 2000000
/-! min by a key that is a def, over texts. -/
namespace RC
open PySem PySem.Spec PyProof.Rows L2
variable [LX]
mutual
/-- data as they stand in a heap, away from some places -/
def RdAt (h : Heap) (bad : Addr → Prop) : D → Value → Prop
  | .non, u => u = .none
  | .bl b, u => u = .bool b
  | .int i, u => ∃ t, u = .int i t
  | .str s, u => ∃ t, u = .str ⟨s.toArray⟩ t
  | .lst ds, u => ∃ a o its n, u = .ref a ∧ ¬ bad a ∧ h.get? a = some o ∧ o.cls = .type "list" ∧ o.data = .seq its n ∧ RdAll h bad ds its.toList
  | .tup ds, u => ∃ a o its n, u = .ref a ∧ ¬ bad a ∧ h.get? a = some o ∧ o.cls = .type "tuple" ∧ o.data = .seq its n ∧ RdAll h bad ds its.toList
  | _, _ => False
def RdAll (h : Heap) (bad : Addr → Prop) : List D → List Value → Prop
  | [], us => us = []
  | d :: ds, us => ∃ u r, us = u :: r ∧ RdAt h bad d u ∧ RdAll h bad ds r
end
mutual
theorem RdAt.keep {h h' : Heap} {bad : Addr → Prop} (k : ∀ b o, ¬ bad b → h.get? b = some o → h'.get? b = some o) : ∀ (d : D) (u : Value), RdAt h bad d u → RdAt h' bad d u
  | .non, _, z => by simpa [RdAt] using z
  | .bl _, _, z => by simpa [RdAt] using z
  | .int _, _, z => by simpa [RdAt] using z
  | .str _, _, z => by simpa [RdAt] using z
  | .lst ds, u, z => by
    rw [RdAt] at z ⊢
    obtain ⟨a, o, its, n, e, nb, g, c, dt, r⟩ := z
    exact ⟨a, o, its, n, e, nb, k a o nb g, c, dt, RdAll.keep k ds _ r⟩
  | .tup ds, u, z => by
    rw [RdAt] at z ⊢
    obtain ⟨a, o, its, n, e, nb, g, c, dt, r⟩ := z
    exact ⟨a, o, its, n, e, nb, k a o nb g, c, dt, RdAll.keep k ds _ r⟩
  | .ref _, _, z => by simp [RdAt] at z
  | .exc _ _, _, z => by simp [RdAt] at z
  | .clo _ _, _, z => by simp [RdAt] at z
theorem RdAll.keep {h h' : Heap} {bad : Addr → Prop} (k : ∀ b o, ¬ bad b → h.get? b = some o → h'.get? b = some o) : ∀ (ds : List D) (us : List Value), RdAll h bad ds us → RdAll h' bad ds us
  | [], _, z => by simpa [RdAll] using z
  | d :: ds, _, z => by
    rw [RdAll] at z ⊢
    obtain ⟨u, r, e, z1, z2⟩ := z
    exact ⟨u, r, e, RdAt.keep k d u z1, RdAll.keep k ds r z2⟩
end
mutual
theorem RdAt.reads {h : Heap} {bad : Addr → Prop} : ∀ (d : D) (u : Value), RdAt h bad d u → ∃ as, Reads h u (toPy d) as
  | .non, u, z => by
    have e : u = .none := by simpa [RdAt] using z
    subst e
    exact ⟨_, .none⟩
  | .bl b, u, z => by
    have e : u = .bool b := by simpa [RdAt] using z
    subst e
    exact ⟨_, .bool b⟩
  | .int i, u, z => by
    rw [RdAt] at z
    obtain ⟨t, rfl⟩ := z
    exact ⟨_, .int i t⟩
  | .str s, u, z => by
    rw [RdAt] at z
    obtain ⟨t, rfl⟩ := z
    exact ⟨_, .str _ t⟩
  | .lst ds, u, z => by
    rw [RdAt] at z
    obtain ⟨a, o, its, n, rfl, nb, g, c, dt, r⟩ := z
    obtain ⟨as, q⟩ := RdAll.reads ds _ r
    exact ⟨_, .list g c dt q⟩
  | .tup ds, u, z => by
    rw [RdAt] at z
    obtain ⟨a, o, its, n, rfl, nb, g, c, dt, r⟩ := z
    obtain ⟨as, q⟩ := RdAll.reads ds _ r
    exact ⟨_, .tuple g c dt q⟩
  | .ref _, _, z => by simp [RdAt] at z
  | .exc _ _, _, z => by simp [RdAt] at z
  | .clo _ _, _, z => by simp [RdAt] at z
theorem RdAll.reads {h : Heap} {bad : Addr → Prop} : ∀ (ds : List D) (us : List Value), RdAll h bad ds us → ∃ as, ReadsAll h us (toPys ds) as
  | [], us, z => by
    have e : us = [] := by simpa [RdAll] using z
    subst e
    exact ⟨_, .nil⟩
  | d :: ds, _, z => by
    rw [RdAll] at z
    obtain ⟨u, r, rfl, z1, z2⟩ := z
    obtain ⟨as, q1⟩ := RdAt.reads d u z1
    obtain ⟨bs, q2⟩ := RdAll.reads ds r z2
    exact ⟨_, .cons q1 q2⟩
end
section
variable {P : Program} {w : World} {K : PySem.W.Frag} {H : Hp} {h : Heap} {O : OSet} {θ : List Addr} {bad : Addr → Prop}
mutual
theorem RdAt.of (hok : HOk P w H h) (kin : K.In h) (n1 : ∀ a o, H a = some o → ¬ bad a) (n2 : ∀ a o, K.lookup a = some o → ¬ bad a) : ∀ (n : Nat) (d : D) (v : V) (u : Value), plain n d = true → Rep K H O θ d v → RelV v u → RdAt h bad d u
  | _, .non, _, u, _, r, q => by
    have e : _ = V.non := r
    subst e
    have e : u = Value.none := q
    simpa [RdAt] using e
  | _, .bl b, _, u, _, r, q => by
    have e : _ = V.bl b := r
    subst e
    have e : u = Value.bool b := q
    simpa [RdAt] using e
  | _, .int i, _, u, _, r, q => by
    have e : _ = V.int i := r
    subst e
    rw [RdAt]; exact q
  | _, .str s, _, u, _, r, q => by
    have e : _ = sV s := r
    subst e
    rw [RdAt]; exact q
  | n, .lst ds, _, u, p, r, q => by
    obtain ⟨a, vs, rfl, l, rs⟩ := r
    have e : u = Value.ref a := q
    subst e
    cases n with
    | zero => simp [plain] at p
    | succ n =>
      obtain ⟨_, its, m, rv, g⟩ := l.1.ok hok
      rw [RdAt]
      refine ⟨a, _, _, _, rfl, ?_, g, rfl, rfl, RdAll.of hok kin n1 n2 n ds vs its (by simpa [plain] using p) rs rv⟩
      rcases l.1 with z | ⟨_, z⟩ <;> exact n1 a _ z
  | n, .tup ds, _, u, p, r, q => by
    obtain ⟨a, vs, rfl, l, rs⟩ := r
    have e : u = Value.ref a := q
    subst e
    cases n with
    | zero => simp [plain] at p
    | succ n =>
      rw [RdAt]
      rcases l with ⟨rd, _, _⟩ | ⟨o, its, m, z, c, dt, _, rv⟩
      · obtain ⟨_, its, rv, o, g, c, m, dt⟩ := rd.ok hok
        refine ⟨a, o, _, m, rfl, ?_, g, c, dt, RdAll.of hok kin n1 n2 n ds vs its (by simpa [plain] using p) rs rv⟩
        rcases rd with z | ⟨_, z⟩ <;> exact n1 a _ z
      · exact ⟨a, o, its, m, rfl, n2 a o z, kin a o z, c, dt, RdAll.of hok kin n1 n2 n ds vs its.toList (by simpa [plain] using p) rs rv⟩
  | _, .ref _, _, _, p, _, _ => by simp [plain] at p
  | _, .exc _ _, _, _, p, _, _ => by simp [plain] at p
  | _, .clo _ _, _, _, p, _, _ => by simp [plain] at p
theorem RdAll.of (hok : HOk P w H h) (kin : K.In h) (n1 : ∀ a o, H a = some o → ¬ bad a) (n2 : ∀ a o, K.lookup a = some o → ¬ bad a) : ∀ (n : Nat) (ds : List D) (vs : List V) (us : List Value), plainAll n ds = true → Reps K H O θ ds vs → Vals vs us → RdAll h bad ds us
  | _, [], _, us, _, r, q => by
    have e : _ = [] := r
    subst e
    cases q
    simp [RdAll]
  | n, d :: ds, _, us, p, r, q => by
    obtain ⟨v, r', rfl, r1, r2⟩ := r
    rw [plainAll, Bool.and_eq_true] at p
    cases q with
    | cons q1 q2 =>
      rw [RdAll]
      exact ⟨_, _, rfl, RdAt.of hok kin n1 n2 n d v _ p.1 r1 q1, RdAll.of hok kin n1 n2 n ds r' _ p.2 r2 q2⟩
end
end
section
variable {X : Cx} {J : Inf} {k : Nat} {pins : List (Addr × Obj)} {σ : L2.St} {H : Hp} {s : Shared}
/-- min's own places, and the frames -/
def badAt (X : Cx) (S it : Addr) (a : Addr) : Prop := a = S ∨ a = it ∨ a ∈ frs X.stack
theorem fp_frs {b : Addr} (I : Inv X pins σ H s) (f : FpOk X pins H b) : b ∉ frs X.stack := fun z => by
  rcases List.mem_cons.mp (I.stkSub b z) with e | e
  · exact f.2.1 e
  · exact f.2.2.1 e
theorem moved2 {s' : Shared} {S it : Addr} (I : Inv X pins σ H s) (fS : FpOk X pins H S) (fi : FpOk X pins H it) (m : Moved [S, it] (fun a b => b = a) s s') : Inv X pins σ H s' := by
  have hg : s'.gens = s.gens := m.gens
  have hd := m.drawn
  have ho := m.os
  obtain ⟨h', g', d', t', o'⟩ := s'
  simp only at hg hd ho
  subst hg hd ho
  have nin : ∀ c u, H c = some u → c ∉ [S, it] := fun c u e z => by
    rcases (by simpa using z : c = S ∨ c = it) with z | z
    · rw [z, fS.1] at e; cases e
    · rw [z, fi.1] at e; cases e
  refine I.step (g' := s.gens) (d' := s.drawn) (ch := [S, it]) (fun b hb => ?_) (fun b o _ _ hc e _ => m.heap b o hc e) (fun b o _ _ hc e _ => ⟨o.slots, m.heap b o hc e⟩) (fun _ _ _ _ n => n) (fun b o hc e => ⟨o, m.heap b o hc e⟩) (fun _ _ e => e) (fun _ _ _ e => e) (fun b ps e => ⟨#[], by rw [e]; simp⟩) (fun m' hm => ?_) (fun b u e => ?_) I.bare
  · rcases (by simpa using hb : b = S ∨ b = it) with z | z
    · rw [z]; exact ⟨fS.2.2.2.1, fS.2.1, fS.2.2.2.2.1, fS.2.2.2.2.2⟩
    · rw [z]; exact ⟨fi.2.2.2.1, fi.2.1, fi.2.2.2.2.1, fi.2.2.2.2.2⟩
  · obtain ⟨o, es, ep, ho, r⟩ := hm
    refine ⟨o, es, ep, m.heap _ o (fun z => ?_) ho, r⟩
    rcases (by simpa using z : X.env.locals = S ∨ X.env.locals = it) with z | z
    · exact fS.2.1 z.symm
    · exact fi.2.1 z.symm
  · refine (I.hok b u e).stay (fun c v hc q => m.heap c v ?_ q) (fun _ q => q) fun _ _ q => q
    rcases hc with z | z
    · rw [z]; exact nin b u e
    · exact nin c _ z
/-- what each text's key is -/
structure Keys (J : Inf) (k f : Nat) (ds : List D) (vs : List V) (kf : Nat → D) : Prop where
  len : ds.length = vs.length
  at_ : ∀ i, i < ds.length → ∃ t, ds[i]? = some (.str t) ∧ vs[i]? = some (sV t) ∧ callF J.P k f [.str t] [] = .ok (kf i) [] ∧ isPlain (kf i) = true
  alk : ∀ i j, i < ds.length → j < ds.length → alk (kf i) (kf j) = true
omit [LX] in
theorem rm_lx0 : @RM lx0 (fun _ => none) (fun _ => False) [] [] :=
  @RM.mk lx0 _ _ _ _ rfl List.nodup_nil (fun n a ns h => by simp at h) (fun a h => by simp at h) (fun a h => h.elim) (fun p hp => by cases hp)
theorem key_run {f : Nat} {fa l S it : Addr} {fd : FuncData} {ps : List Str} {its : List Value} {vs : List V} {ds : List D} {kf : Nat → D} (I : Inv X pins σ H s) (hx : XOk J k X) (F : FnG X.prog X.w X.K X.mg X.base (L2.CX X.prog X.w) (k + 4) fa fd ps (@spF lx0 X.K J k f)) (hb : Binds X.K fd ps [])
    (rv : Vals vs its) (Ks : Keys J k f ds vs kf) (fS : FpOk X pins H S) (fi : FpOk X pins H it) (bS : X.base.get? S = none) (bi : X.base.get? it = none) (hl : ∃ u, H l = some u) :
    KeyRun X.prog X.w X.A.in1 (.ref fa) .Lt S [it] (fun a b => b = a) its.toArray.size (fun i v => its.toArray[i]? = some v) (fun i s' => s'.heap.IsListIter it l i ∧ s'.heap.IsList l its.toArray) (fun s => Inv X pins σ H s)
      (fun i u s => i < ds.length ∧ RdAt s.heap (badAt X S it) (kf i) u) (fun i j => ltT (ktoks (kf i)) (ktoks (kf j))) where
  keep := fun s1 s2 I1 m => moved2 I1 fS fi m
  keepV := fun i u s1 s2 z m => ⟨z.1, RdAt.keep (fun b o nb e => m.heap b o (fun q => nb (by
    rcases (by simpa using q : b = S ∨ b = it) with q | q
    · exact .inl q
    · exact .inr (.inl q))) e) _ _ z.2⟩
  turn := fun i v s1 o Q E hi hP I1 st hS hq => by
    have hlen : its.length = ds.length := by rw [← rv.length, Ks.len]
    have hi' : i < ds.length := by rw [← hlen]; simpa using hi
    obtain ⟨t, h1, h2, h3, h4⟩ := Ks.at_ i hi'
    obtain ⟨u, e1, r1⟩ := rv.get h2
    have e2 : v = u := by
      have : its[i]? = some v := by simpa using hP
      rw [e1] at this
      exact (Option.some.inj this).symm
    subst e2
    have hroom : Room (k + 4) X.A.in1 := ⟨hx.room.hd, hx.room.dp, by have := hx.sl; show X.A.units + 1 + 16 * (k + 4) + 200 < _; omega⟩
    have e0 : Env0 X.prog X.w X.K X.mg X.base X.A.in1 X.stack s1 (fun _ => none) :=
      ⟨I1.env0.frames, I1.env0.mod, fun b o e => ⟨(I1.env0.bs b o e).1, rfl⟩, I1.env0.bsz, I1.env0.funs, fun _ _ => rfl, (fun _ _ e => (by cases e)), I1.env0.bare⟩
    have hsp : @spF lx0 X.K J k f [sV t] (fun _ => none) (fun v H' => Rep X.K H' (fun _ => False) [] (kf i) v) (fun _ _ _ => False) := by
      refine ⟨fun _ => False, [], [], [.str t], rm_lx0, Reps.one rfl, ?_⟩
      rw [h3]
      intro θ' H' _ m v rp
      have e : θ' = [] := List.eq_nil_of_length_eq_zero (by have := @RM.len lx0 _ _ _ _ m; simpa using this)
      subst e
      exact rp
    have many : [sV t].length = ps.length := F.many _ _ _ _ hsp
    have bd : BindsTo s1 fd ⟨[v], []⟩ (ps.zip [v]) := by
      have := hb s1 [v] I1.kIn (by simpa using many)
      simpa using this
    refine wpAny_call (codeAny_mono (F.does X.A.in1 X.stack s1 (fun _ => none) ⟨[v], []⟩ [v] [sV t] _ _ hx.gd hroom e0 bd (.cons r1 .nil) hsp) fun res s2 hq2 => ?_)
    match res, hq2 with
    | .error e, hq2 =>
      obtain ⟨_, _, _, _, _, _, _, _, _, _, _, _, z⟩ := hq2
      exact z.elim
    | .ok (.ret u), hq2 =>
      obtain ⟨v', H', os, bare, un, hok, rv', rp⟩ := hq2
      have kp : ∀ b o, b ∉ frs X.stack → s1.heap.get? b = some o → s2.heap.get? b = some o := fun b o nb e => un.keep b o e rfl nb (by simp)
      have nS := fp_frs I1 fS
      have ni := fp_frs I1 fi
      have nl : l ∉ frs X.stack := fun z => by
        obtain ⟨u, e⟩ := hl
        rw [I1.stkFree l z] at e; cases e
      have I2 : Inv X pins σ H s2 := by
        refine I1.call' (H' := H) (ch := []) os ⟨fun b o e n nb hx => un.keep b o e rfl nb hx, fun b o e n nb hx => un.slot b o e rfl nb hx, fun _ _ _ n _ => n, fun b o e hx => un.there b o e hx, fun _ _ e => e, fun _ _ _ e => e, fun b ps e => ⟨#[], by rw [e]; simp⟩⟩ (fun b u e => ?_) bare (fun _ z => by cases z)
        refine (I1.hok b u e).stay (fun c v hc q => kp c v (fun z => ?_) q) (fun _ q => q) fun _ _ q => q
        have hn := I1.stkFree c z
        rcases hc with hc | hc
        · rw [hc, e] at hn; cases hn
        · rw [hc] at hn; cases hn
      obtain ⟨oi, gi, ci⟩ := st.1
      have gi2 := kp it oi ni gi
      have hS2 := kp S o nS hS
      have gone : ∀ b o, s1.heap.get? b = some o → H' b = none := fun b o e => un.free b o e rfl (by simp)
      refine hq u s2 I2 ⟨⟨oi, gi2, ci⟩, ?_⟩ hS2 ⟨hi', ?_⟩ fun j k' z => ⟨z.1, RdAt.keep (fun b o nb e => kp b o (fun q => nb (.inr (.inr q))) e) _ _ z.2⟩
      · obtain ⟨ol, gl, cl⟩ := st.2
        exact ⟨ol, kp l ol nl gl, cl⟩
      · refine RdAt.of hok I2.kIn (fun a oa ea z => ?_) (fun a oa ea z => ?_) 40 _ v' u h4 rp rv'
        · rcases z with z | z | z
          · rw [z, gone S o hS] at ea; cases ea
          · rw [z, gone it oi gi] at ea; cases ea
          · obtain ⟨_, fo, eo, _⟩ := I1.stack.mem z
            rw [gone a fo eo] at ea; cases ea
        · have eb := I1.ok.mod.kin a oa ea
          rcases z with z | z | z
          · rw [z, bS] at eb; cases eb
          · rw [z, bi] at eb; cases eb
          · rw [(I1.stack.mem z).1] at eb; cases eb
  cmp := fun i j ki kj s1 Q E I1 zi zj hq => by
    obtain ⟨as, r1⟩ := RdAt.reads _ _ zi.2
    obtain ⟨bs, r2⟩ := RdAt.reads _ _ zj.2
    have al := Ks.alk i j zi.1 zj.1
    obtain ⟨t, _, _, _, pl⟩ := Ks.at_ i zi.1
    refine PySem.W.rcLt_alike _ _ X.A.in1 s1 ki kj _ _ r1 r2 (alike_py _ _ al) (alk_ne al) ?_ X.prog X.w E Q ?_
    · have h1 := depth_le pl
      have h2 := hx.room.un
      show X.A.units + 1 + min _ _ < _
      omega
    · rw [dataLt_py]; exact hq
end
/-! ### the call -/
theorem keyAll_ok {g : D → Option D} : ∀ {ds : List D} {ks : List (D × D)}, keyAll g ds = some ks → ks.map (·.2) = ds ∧ ∀ (i : Nat) (p : D × D), ks[i]? = some p → g p.2 = some p.1
  | [], ks, h => by
    cases h
    exact ⟨rfl, fun i p e => by simp at e⟩
  | d :: ds, ks, h => by
    rw [keyAll] at h
    cases z : g d with
    | none => rw [z] at h; cases h
    | some kd =>
      rw [z] at h
      cases z2 : keyAll g ds with
      | none => rw [z2] at h; cases h
      | some r =>
        rw [z2] at h
        cases h
        obtain ⟨h1, h2⟩ := keyAll_ok z2
        refine ⟨by simp [h1], fun i p e => ?_⟩
        cases i with
        | zero =>
          have e' : (kd, d) = p := by simpa using e
          subst e'
          exact z
        | succ i => exact h2 i p (by simpa using e)
theorem keyOf_ok {J : Inf} {k f : Nat} {d kd : D} (h : keyOf (J.cfg k) f d = some kd) : ∃ t, d = .str t ∧ callF J.P k f [.str t] [] = .ok kd [] ∧ isPlain kd = true := by
  unfold keyOf at h
  split at h
  · rename_i t
    split at h
    · rename_i kk e
      split at h
      · rename_i pl
        cases h
        exact ⟨t, rfl, e, pl⟩
      · cases h
    · cases h
  · cases h
theorem bestK_fold : ∀ (r : List (D × D)) (kb b : D), bestK kb b r = (r.foldl (fun a y => if ltT (ktoks y.1) (ktoks a.1) then y else a) (kb, b)).2
  | [], _, _ => rfl
  | (k, d) :: r, kb, b => by
    rw [bestK, List.foldl_cons]
    split
    · rename_i h
      exact bestK_fold r k d
    · rename_i h
      exact bestK_fold r kb b
section
variable {X : Cx} {J : Inf} {k : Nat}
/-- the keys of a list's texts -/
theorem keys_of {K : PySem.W.Frag} {H : Hp} {O : OSet} {θ : List Addr} {f : Nat} {ds : List D} {vs : List V} {ks : List (D × D)} (h : keyAll (keyOf (J.cfg k) f) ds = some ks) (ha : alkEach ks = true) (rs : Reps K H O θ ds vs) :
    Keys J k f ds vs fun i => (ks.getD i (.non, .non)).1 := by
  obtain ⟨h1, h2⟩ := keyAll_ok h
  have hl : ks.length = ds.length := by rw [← h1, List.length_map]
  have at' : ∀ i, i < ds.length → ∃ p, ks[i]? = some p ∧ ks.getD i (.non, .non) = p := fun i hi => by
    have hi2 : i < ks.length := by omega
    exact ⟨ks[i], List.getElem?_eq_getElem hi2, by rw [List.getD_eq_getElem?_getD, List.getElem?_eq_getElem hi2]; rfl⟩
  refine ⟨rs.length, fun i hi => ?_, fun i j hi hj => ?_⟩
  · obtain ⟨p, e1, e2⟩ := at' i hi
    obtain ⟨t, e3, e4, e5⟩ := keyOf_ok (h2 i p e1)
    have e6 : ds[i]? = some (.str t) := by rw [← h1, List.getElem?_map, e1, Option.map_some, e3]
    obtain ⟨v, e7, e8⟩ := rs.get e6
    have e9 : v = sV t := e8
    subst e9
    exact ⟨t, e6, e7, by rw [e2]; exact e4, by rw [e2]; exact e5⟩
  · obtain ⟨p, e1, e2⟩ := at' i hi
    obtain ⟨q, e3, e4⟩ := at' j hj
    rw [e2, e4]
    exact List.all_eq_true.mp (List.all_eq_true.mp ha p (List.mem_of_getElem? e1)) q (List.mem_of_getElem? e3)
/-- which text has the least key -/
theorem best_at {f : Nat} {ds : List D} {kd d : D} {r : List (D × D)} (h : keyAll (keyOf (J.cfg k) f) ds = some ((kd, d) :: r)) :
    ds[argBest (fun i j => ltT (ktoks (((kd, d) :: r).getD i (.non, .non)).1) (ktoks (((kd, d) :: r).getD j (.non, .non)).1)) (ds.length - 1)]? = some (bestK kd d r) := by
  obtain ⟨h1, _⟩ := keyAll_ok h
  have hl : ds.length = r.length + 1 := by rw [← h1]; simp
  obtain ⟨a1, a2⟩ := PySem.W.argBest_fold (fun p q : D × D => ltT (ktoks p.1) (ktoks q.1)) (.non, .non) (kd, d) r r.length (Nat.le_refl _)
  rw [List.take_length] at a2
  have e1 : ds.length - 1 = r.length := by omega
  rw [e1, bestK_fold, ← a2, ← h1, List.getElem?_map, List.getD_eq_getElem?_getD]
  rw [List.getElem?_eq_getElem (by simp only [List.length_cons]; omega)]
  rfl
/-! ### min of data -/
theorem bestD_fold : ∀ (r : List D) (b : D), bestD b r = r.foldl (fun a y => if ltT (ktoks y) (ktoks a) then y else a) b
  | [], _ => rfl
  | d :: r, b => by
    rw [bestD, List.foldl_cons]
    split
    · exact bestD_fold r d
    · exact bestD_fold r b
theorem bestD_at {d : D} {r : List D} : (d :: r)[argBest (fun i j => ltT (ktoks ((d :: r).getD i .non)) (ktoks ((d :: r).getD j .non))) ((d :: r).length - 1)]? = some (bestD d r) := by
  obtain ⟨a1, a2⟩ := PySem.W.argBest_fold (fun p q : D => ltT (ktoks p) (ktoks q)) .non d r r.length (Nat.le_refl _)
  rw [List.take_length] at a2
  have e1 : (d :: r).length - 1 = r.length := by simp
  rw [e1, bestD_fold, ← a2, List.getD_eq_getElem?_getD]
  rw [List.getElem?_eq_getElem (by simp only [List.length_cons]; omega)]
  rfl
theorem bi_min1 (hx : XOk J k X) (hc : X.calm = true) : CallR X (.builtin "min") (rCall X.K (biF .min1)) := by
  intro pins s σ H xs us Q I rv h
  obtain ⟨O, θ, ds, d, tr, hr, e, q⟩ := h
  match ds, e, hr with
  | [.lst ys], e, hr =>
    simp only [biF] at e
    split at e
    · rename_i m ns z
      exact bi_minI hc pins s σ H xs us Q I rv ⟨O, θ, [.lst ys], d, tr, hr, by simp only [minI1, z]; exact e, q⟩
    · cases e
    · rename_i z
      obtain ⟨v, rfl, h1⟩ := hr.one
      cases ys with
      | nil => cases e
      | cons d0 r =>
        rw [minD] at e
        split at e
        · rename_i hh
          cases e
          obtain ⟨hp, ha⟩ := Bool.and_eq_true_iff.mp hh
          obtain ⟨l, vs, rfl, t, p⟩ := h1.lst
          obtain rfl := Vals.ref1 rv
          obtain ⟨_, its, n, rvs, len, g⟩ := rd_get I t
          have hl : s.heap.IsList l its.toArray := ⟨_, g, rfl, n, rfl⟩
          have hsz : its.toArray.size = (d0 :: r).length := by simp only [List.size_toArray]; rw [← len, p.length]
          have item : ∀ i u, its.toArray[i]? = some u → ∃ x y, (d0 :: r)[i]? = some x ∧ (d0 :: r).getD i .non = x ∧ vs[i]? = some y ∧ Rep X.K H O θ x y ∧ RelV y u := fun i u hu => by
            have hi : i < (d0 :: r).length := by rw [← hsz]; exact (Array.getElem?_eq_some_iff.mp hu).1
            have e1 : (d0 :: r)[i]? = some (d0 :: r)[i] := List.getElem?_eq_getElem hi
            obtain ⟨y, e2, e3⟩ := p.get e1
            obtain ⟨u', e4, e5⟩ := rvs.get e2
            have e6 : its[i]? = some u := by simpa using hu
            rw [e4] at e6
            cases e6
            exact ⟨_, y, e1, by rw [List.getD_eq_getElem?_getD, e1]; rfl, e2, e3, e5⟩
          refine call_min_walkH (PySem.W.iter_listW (A := X.A.in1) hx.room.hd hl fun s₂ e W st hfp hw hk => ?_)
          refine ⟨_, _, _, _, _, _, _, s.heap, (fun i j => ltT (ktoks ((d0 :: r).getD i .non)) (ktoks ((d0 :: r).getD j .non))), rfl, W, st, hfp, by rw [hsz]; exact Nat.succ_pos _, hw, hk, ?_, fun v s' hP hm => ?_⟩
          · intro i j vi vj s1 Q1 E1 hk1 hi hj hq
            obtain ⟨x, y, a1, a2, a3, a4, a5⟩ := item i vi hi
            obtain ⟨x', y', b1, b2, b3, b4, b5⟩ := item j vj hj
            have px : isPlain x = true := List.all_eq_true.mp hp x (List.mem_of_getElem? a1)
            have py : isPlain x' = true := List.all_eq_true.mp hp x' (List.mem_of_getElem? b1)
            have al : alk x x' = true := List.all_eq_true.mp (List.all_eq_true.mp ha x (List.mem_of_getElem? a1)) x' (List.mem_of_getElem? b1)
            obtain ⟨as, r1⟩ := RdAt.reads _ _ (RdAt.keep (bad := fun _ => False) (fun b o _ e => hk1 b o e) _ _ (RdAt.of I.hok I.kIn (fun _ _ _ z => z) (fun _ _ _ z => z) 40 x y vi px a4 a5))
            obtain ⟨bs, r2⟩ := RdAt.reads _ _ (RdAt.keep (bad := fun _ => False) (fun b o _ e => hk1 b o e) _ _ (RdAt.of I.hok I.kIn (fun _ _ _ z => z) (fun _ _ _ z => z) 40 x' y' vj py b4 b5))
            refine PySem.W.rcLt_alike _ _ X.A.in1 s1 vi vj _ _ r1 r2 (alike_py _ _ al) (alk_ne al) ?_ X.prog X.w E1 Q1 ?_
            · have h1 := depth_le px
              have h2 := hx.room.un
              show X.A.units + 1 + min _ _ < _
              omega
            · rw [dataLt_py, ← a2, ← b2]; exact hq
          · rw [hsz] at hP
            obtain ⟨x, y, a1, _, _, a4, a5⟩ := item _ v hP
            rw [bestD_at] at a1
            cases a1
            have I' : Inv X pins σ H s' := by
              subst e
              have I2 : Inv X pins σ H { s with heap := s.heap.push { cls := .type "list_iterator", data := .fields #[.ref l, .int 0 0] } } := I.kept (t' := s.toks) fun b u q => Heap.get?_push_of_some _ q
              have fi := I.fpOk (Nat.le_refl _) (I.hok.fresh (Nat.le_refl _))
              exact moved2 I2 fi fi (hm.mono fun b hb => by simp at hb; simp [hb])
            exact ⟨y, H, I', a5, q y H (Same.refl H) a4⟩
        · cases e
def rMin (K : PySem.W.Frag) (J : Inf) (k f : Nat) (fa : Addr) : List V → List V → Hp → VK → Prop := fun xs zs H Q => ∃ O θ ds v dr, xs = [v] ∧ zs = [V.ref fa] ∧ Rep K H O θ (.lst ds) v ∧ minF (keyOf (J.cfg k) f) (.lst ds) = some dr ∧ ∀ u, Rep K H O θ dr u → Q u H
def rMinD (K : PySem.W.Frag) (J : Inf) (k f : Nat) (fa : Addr) : List V → List V → Hp → VK → Prop := fun xs zs H Q => ∃ O θ ds v z dz dr, xs = [v] ∧ zs = [V.ref fa, z] ∧ Rep K H O θ (.lst ds) v ∧ Rep K H O θ dz z ∧ minFD (keyOf (J.cfg k) f) (.lst ds) dz = some dr ∧ ∀ u, Rep K H O θ dr u → Q u H
theorem minF_ok {g : D → Option D} {ds : List D} {dr : D} (h : minF g (.lst ds) = some dr) : ∃ kd d r, keyAll g ds = some ((kd, d) :: r) ∧ alkEach ((kd, d) :: r) = true ∧ dr = bestK kd d r := by
  unfold minF at h
  simp only at h
  split at h
  · rename_i kd d r e
    split at h
    · rename_i ha
      cases h
      exact ⟨kd, d, r, e, ha, rfl⟩
    · cases h
  · cases h
/-- what both forms of the call need -/
theorem min_pre {f : Nat} {fa l : Addr} {fd : FuncData} {ps : List Str} {pins : List (Addr × Obj)} {σ : L2.St} {H : Hp} {s s2 : Shared} {its : List Value} {vs : List V} {ds : List D} {ks : List (D × D)} {O : OSet} {θ : List Addr} (I : Inv X pins σ H s) (hx : XOk J k X)
    (F : FnG X.prog X.w X.K X.mg X.base (L2.CX X.prog X.w) (k + 4) fa fd ps (@spF lx0 X.K J k f)) (hb : Binds X.K fd ps []) (rv : Vals vs its) (rs : Reps X.K H O θ ds vs) (hl : ∃ u, H l = some u) (hkA : keyAll (keyOf (J.cfg k) f) ds = some ks) (hal : alkEach ks = true)
    (e : s2 = { s with heap := s.heap.push { cls := .type "list_iterator", data := .fields #[.ref l, .int 0 0] } }) : Inv X pins σ H s2 ∧
    KeyRun X.prog X.w X.A.in1 (.ref fa) .Lt s2.heap.objs.size [s.heap.objs.size] (fun a b => b = a) its.toArray.size (fun i v => its.toArray[i]? = some v) (fun i s' => s'.heap.IsListIter s.heap.objs.size l i ∧ s'.heap.IsList l its.toArray) (fun s => Inv X pins σ H s)
      (fun i u s' => i < ds.length ∧ RdAt s'.heap (badAt X s2.heap.objs.size s.heap.objs.size) (ks.getD i (.non, .non)).1 u) (fun i j => ltT (ktoks (ks.getD i (.non, .non)).1) (ktoks (ks.getD j (.non, .non)).1)) := by
  subst e
  have I2 : Inv X pins σ H { s with heap := s.heap.push { cls := .type "list_iterator", data := .fields #[.ref l, .int 0 0] } } := I.kept (t' := s.toks) fun b u q => Heap.get?_push_of_some _ q
  have hsz : s.heap.objs.size ≤ (s.heap.push { cls := .type "list_iterator", data := .fields #[.ref l, .int 0 0] }).objs.size := by rw [Heap.size_push]; exact Nat.le_succ _
  have nb : ∀ b, s.heap.objs.size ≤ b → X.base.get? b = none := fun b hb => by
    cases z : X.base.get? b with
    | none => rfl
    | some o => exact absurd (Heap.lt_size (I.bs b o z).1) (Nat.not_lt.mpr hb)
  exact ⟨I2, key_run I2 hx F hb rv (keys_of hkA hal rs) (I.fpOk hsz (I.hok.fresh hsz)) (I.fpOk (Nat.le_refl _) (I.hok.fresh (Nat.le_refl _))) (nb _ hsz) (nb _ (Nat.le_refl _)) hl⟩
theorem cr_min {f : Nat} {fa : Addr} {fd : FuncData} {ps : List Str} (hx : XOk J k X) (F : FnG X.prog X.w X.K X.mg X.base (L2.CX X.prog X.w) (k + 4) fa fd ps (@spF lx0 X.K J k f)) (hb : Binds X.K fd ps []) : CallRK X (.builtin "min") [Str.ofString "key"] (rMin X.K J k f fa) := by
  intro pins s σ H xs zs us ws Q I rx rz h
  obtain ⟨O, θ, ds, v, dr, rfl, rfl, ⟨l, vs, rfl, la, rs⟩, hm, q⟩ := h
  obtain rfl := Vals.ref1 rx
  obtain rfl := Vals.ref1 rz
  obtain ⟨kd, d, r, hkA, hal, rfl⟩ := minF_ok hm
  obtain ⟨_, its, n, rv, len, g⟩ := rd_get I la.1
  have hl : s.heap.IsList l its.toArray := ⟨_, g, rfl, n, rfl⟩
  have hex : ∃ u, H l = some u := by rcases la.1 with z | ⟨o, z⟩ <;> exact ⟨_, z⟩
  have hsz : its.toArray.size = ds.length := by simp [← len, rs.length]
  have hpos : 0 < ds.length := by
    obtain ⟨h1, _⟩ := keyAll_ok hkA
    rw [← h1]; simp
  refine call_min_walkK (PySem.W.iter_listW (A := X.A.in1) hx.room.hd hl fun s₂ e W st hfp hw hk => ?_)
  obtain ⟨I2, KR⟩ := min_pre I hx F hb rv rs hex hkA hal e
  refine ⟨_, _, _, _, _, _, _, _, _, _, rfl, W, st, hfp, by rw [hsz]; exact hpos, KR, I2, fun v s' hP I' => ?_⟩
  have hb := best_at hkA
  rw [hsz] at hP
  obtain ⟨x, e1, e2⟩ := rs.get hb
  obtain ⟨u, e3, e4⟩ := rv.get e1
  have hP' : its[argBest (fun i j => ltT (ktoks (((kd, d) :: r).getD i (.non, .non)).1) (ktoks (((kd, d) :: r).getD j (.non, .non)).1)) (ds.length - 1)]? = some v := by simpa using hP
  rw [e3] at hP'
  cases hP'
  exact ⟨x, H, I', e4, q x e2⟩
theorem cr_minD {f : Nat} {fa : Addr} {fd : FuncData} {ps : List Str} (hx : XOk J k X) (F : FnG X.prog X.w X.K X.mg X.base (L2.CX X.prog X.w) (k + 4) fa fd ps (@spF lx0 X.K J k f)) (hb : Binds X.K fd ps []) : CallRK X (.builtin "min") [Str.ofString "key", Str.ofString "default"] (rMinD X.K J k f fa) := by
  intro pins s σ H xs zs us ws Q I rx rz h
  obtain ⟨O, θ, ds, v, z, dz, dr, rfl, rfl, ⟨l, vs, rfl, la, rs⟩, rz0, hm, q⟩ := h
  obtain rfl := Vals.ref1 rx
  obtain ⟨w1, w2, rfl, q1, q2⟩ := vals2 rz
  obtain rfl : w1 = Value.ref fa := q1
  obtain ⟨_, its, n, rv, len, g⟩ := rd_get I la.1
  have hl : s.heap.IsList l its.toArray := ⟨_, g, rfl, n, rfl⟩
  have hex : ∃ u, H l = some u := by rcases la.1 with z | ⟨o, z⟩ <;> exact ⟨_, z⟩
  have hsz : its.toArray.size = ds.length := by simp [← len, rs.length]
  obtain ⟨ks, hkA, hal, hcase⟩ : ∃ ks, keyAll (keyOf (J.cfg k) f) ds = some ks ∧ alkEach ks = true ∧ ((ds = [] ∧ dr = dz) ∨ ∃ kd d r, ks = (kd, d) :: r ∧ dr = bestK kd d r) := by
    cases ds with
    | nil =>
      have : dz = dr := by simpa [minFD] using hm
      exact ⟨[], rfl, rfl, .inl ⟨rfl, this.symm⟩⟩
    | cons d0 ds0 =>
      obtain ⟨kd, d, r, h1, h2, h3⟩ := minF_ok (show minF (keyOf (J.cfg k) f) (.lst (d0 :: ds0)) = some dr from hm)
      exact ⟨_, h1, h2, .inr ⟨kd, d, r, rfl, h3⟩⟩
  refine call_min_walkKD (PySem.W.iter_listW (A := X.A.in1) hx.room.hd hl fun s₂ e W st hfp hw hk => ?_)
  obtain ⟨I2, KR⟩ := min_pre I hx F hb rv rs hex hkA hal e
  refine ⟨_, _, _, _, _, _, _, _, _, _, rfl, W, st, hfp, KR, I2, fun hz s' I' => ?_, fun hp v s' hP I' => ?_⟩
  · rcases hcase with ⟨rfl, rfl⟩ | ⟨kd, d, r, rfl, rfl⟩
    · exact ⟨z, H, I', q2, q z rz0⟩
    · obtain ⟨h1, _⟩ := keyAll_ok hkA
      rw [hsz, ← h1] at hz
      simp at hz
  · rcases hcase with ⟨rfl, rfl⟩ | ⟨kd, d, r, rfl, rfl⟩
    · rw [hsz] at hp
      simp at hp
    · have hb := best_at hkA
      rw [hsz] at hP
      obtain ⟨x, e1, e2⟩ := rs.get hb
      obtain ⟨u, e3, e4⟩ := rv.get e1
      have hP' : its[argBest (fun i j => ltT (ktoks (((kd, d) :: r).getD i (.non, .non)).1) (ktoks (((kd, d) :: r).getD j (.non, .non)).1)) (ds.length - 1)]? = some v := by simpa using hP
      rw [e3] at hP'
      cases hP'
      exact ⟨x, H, I', e4, q x e2⟩
variable {W : WX} {bb : Bool} {pos : Pos}
theorem pd_minK {f : Nat} {x : Str} {e : Expr} {a : E} {p kp np : Pos} (hx : XOk J k X) (hf : J.kfn f = some x) (hgf : Gl X x) (hdb : (x == ("__debug__" : Str)) = false) (ha : PE X e (tX X.K J k W false a)) (hg : Gl X "min") (hs : starEach [e] X.env = [(false, eval e X.env)]) :
    PE X (.Call (.Name "min" p) [e] [⟨some "key", .Name x np, kp⟩] pos) (tX X.K J k W bb (.minK f a)) := by
  obtain ⟨fa, fd, ps, h1, h2, h3, h4⟩ := hx.key k (Nat.le_refl k) f x hf
  refine PE.imp (pe_callBK (cr_min hx h4 h3) hg (hx.blt "min" (by decide)) boot_min (pa_cons ha pa_nil (by rw [hs]; rfl)) (pk_cons (pe_glob hgf h1 (show RelV (.ref fa) _ from rfl) hdb) pk_nil) (he := by rw [hs]; rfl) (hpl := by rw [hs]; rfl)) fun σ H Q ⟨A, ρ, M, θ, O, rs, h⟩ => ?_
  refine tX_of rs (After.bind h) fun d M1 θ1 H1 x1 rs1 h1 v1 r1 => ?_
  obtain ⟨dr, e1, q⟩ := After.pure h1
  have r1' : Rep X.K H1 O θ1 d v1 := r1
  cases d <;> first | (cases (show (none : Option D) = some dr from e1)) | skip
  rename_i ds
  exact ⟨O, θ1, ds, v1, dr, rfl, rfl, r1', e1, fun u ru => q H1 (Same.refl _) rs1.rm u (.of ru)⟩
theorem pd_minKD {f : Nat} {x : Str} {e e2 : Expr} {a b : E} {p kp kp2 np : Pos} (hx : XOk J k X) (hf : J.kfn f = some x) (hgf : Gl X x) (hdb : (x == ("__debug__" : Str)) = false) (ha : PE X e (tX X.K J k W false a)) (hb : PE X e2 (tX X.K J k W false b)) (hg : Gl X "min") (hs : starEach [e] X.env = [(false, eval e X.env)]) :
    PE X (.Call (.Name "min" p) [e] [⟨some "key", .Name x np, kp⟩, ⟨some "default", e2, kp2⟩] pos) (tX X.K J k W bb (.minKD f a b)) := by
  obtain ⟨fa, fd, ps, h1, h2, h3, h4⟩ := hx.key k (Nat.le_refl k) f x hf
  refine PE.imp (pe_callBK (cr_minD hx h4 h3) hg (hx.blt "min" (by decide)) boot_min (pa_cons ha pa_nil (by rw [hs]; rfl)) (pk_cons (pe_glob hgf h1 (show RelV (.ref fa) _ from rfl) hdb) (pk_cons hb pk_nil)) (he := by rw [hs]; rfl) (hpl := by rw [hs]; rfl)) fun σ H Q ⟨A, ρ, M, θ, O, rs, h⟩ => ?_
  refine tX_of rs (After.bind h) fun d M1 θ1 H1 x1 rs1 h1 v1 r1 => ?_
  refine tX_of rs1 (After.bind h1) fun dz M2 θ2 H2 x2 rs2 h2 v2 r2 => ?_
  obtain ⟨dr, e1, q⟩ := After.pure h2
  have r1' : Rep X.K H2 O θ2 d v1 := Rep.ext r1 x2
  have r2' : Rep X.K H2 O θ2 dz v2 := r2
  cases d <;> first | (cases (show (none : Option D) = some dr from e1)) | skip
  rename_i ds
  exact ⟨O, θ2, ds, v1, v2, dz, dr, rfl, rfl, r1', r2', e1, fun u ru => q H2 (Same.refl _) rs2.rm u (.of ru)⟩
end
end RC

set_option Elab.async false
set_option linter.all false
set_option autoImplicit false
set_option maxRecDepth 100000
set_option maxHeartbeats 2000000
/-! sorted of data -/
namespace RC
open PySem PySem.Spec PyProof.Rows L2
variable [LX]
mutual
theorem RdAt.reads2 {h : Heap} {bad : Addr → Prop} : ∀ (d : D) (u : Value), RdAt h bad d u → ∃ as, Reads h u (toPy d) as ∧ ∀ a ∈ as, ¬ bad a
  | .non, u, z => by
    have e : u = .none := by simpa [RdAt] using z
    subst e
    exact ⟨_, .none, by simp⟩
  | .bl b, u, z => by
    have e : u = .bool b := by simpa [RdAt] using z
    subst e
    exact ⟨_, .bool b, by simp⟩
  | .int i, u, z => by
    rw [RdAt] at z
    obtain ⟨t, rfl⟩ := z
    exact ⟨_, .int i t, by simp⟩
  | .str s, u, z => by
    rw [RdAt] at z
    obtain ⟨t, rfl⟩ := z
    exact ⟨_, .str _ t, by simp⟩
  | .lst ds, u, z => by
    rw [RdAt] at z
    obtain ⟨a, o, its, n, rfl, nb, g, c, dt, r⟩ := z
    obtain ⟨as, q, qn⟩ := RdAll.reads2 ds _ r
    refine ⟨_, .list g c dt q, fun b hb => ?_⟩
    rcases List.mem_cons.mp hb with e | e
    · rw [e]; exact nb
    · exact qn b e
  | .tup ds, u, z => by
    rw [RdAt] at z
    obtain ⟨a, o, its, n, rfl, nb, g, c, dt, r⟩ := z
    obtain ⟨as, q, qn⟩ := RdAll.reads2 ds _ r
    exact ⟨_, .tuple g c dt q, qn⟩
  | .ref _, _, z => by simp [RdAt] at z
  | .exc _ _, _, z => by simp [RdAt] at z
  | .clo _ _, _, z => by simp [RdAt] at z
theorem RdAll.reads2 {h : Heap} {bad : Addr → Prop} : ∀ (ds : List D) (us : List Value), RdAll h bad ds us → ∃ as, ReadsAll h us (toPys ds) as ∧ ∀ a ∈ as, ¬ bad a
  | [], us, z => by
    have e : us = [] := by simpa [RdAll] using z
    subst e
    exact ⟨_, .nil, by simp⟩
  | d :: ds, _, z => by
    rw [RdAll] at z
    obtain ⟨u, r, rfl, z1, z2⟩ := z
    obtain ⟨as, q1, n1⟩ := RdAt.reads2 d u z1
    obtain ⟨bs, q2, n2⟩ := RdAll.reads2 ds r z2
    exact ⟨_, .cons q1 q2, fun b hb => (List.mem_append.mp hb).elim (n1 b) (n2 b)⟩
end
theorem plainAll_of {n : Nat} : ∀ {xs : List D}, (∀ x ∈ xs, plain n x = true) → plainAll n xs = true
  | [], _ => by rw [plainAll]
  | x :: xs, h => by rw [plainAll, h x List.mem_cons_self, plainAll_of fun y hy => h y (List.mem_cons_of_mem _ hy)]; rfl
theorem each_vals {K : PySem.W.Frag} {H : Hp} {O : OSet} {θ : List Addr} : ∀ {xs : List D} {vs : List V} {us : List Value}, Reps K H O θ xs vs → Vals vs us → PySem.W.EachIs (fun u (p : V × D) => RelV p.1 u ∧ Rep K H O θ p.2 p.1) us (vs.zip xs)
  | [], _, _, h, r => by
    have e : _ = [] := h
    subst e
    cases r
    exact .nil
  | x :: xs, _, _, h, r => by
    obtain ⟨v, t, rfl, h1, h2⟩ := h
    cases r with
    | cons r1 r2 => exact .cons ⟨r1, h1⟩ (each_vals h2 r2)
theorem vals_each {K : PySem.W.Frag} {H : Hp} {O : OSet} {θ : List Addr} : ∀ {ps : List (V × D)} {us : List Value}, PySem.W.EachIs (fun u (p : V × D) => RelV p.1 u ∧ Rep K H O θ p.2 p.1) us ps → Vals (ps.map (·.1)) us ∧ Reps K H O θ (ps.map (·.2)) (ps.map (·.1))
  | [], _, h => by
    cases h
    exact ⟨.nil, rfl⟩
  | p :: ps, _, h => by
    cases h with
    | cons h1 h2 =>
      obtain ⟨a, b⟩ := vals_each h2
      exact ⟨.cons h1.1 a, _, _, rfl, h1.2, b⟩
theorem zip_snd {K : PySem.W.Frag} {H : Hp} {O : OSet} {θ : List Addr} {xs : List D} {vs : List V} (h : Reps K H O θ xs vs) : (vs.zip xs).map (·.2) = xs := by
  rw [List.map_snd_zip]
  rw [h.length]; exact Nat.le_refl _
theorem each_reads {h : Heap} {a : Addr} : ∀ {xs : List D} {vs : List V} {us : List Value}, xs.length = vs.length → RdAll h (fun b => b = a) xs us → PySem.W.EachIs (fun u (p : V × D) => ∃ as, Reads h u (toPy p.2) as ∧ a ∉ as) us (vs.zip xs)
  | [], [], us, _, r => by
    have e : us = [] := by simpa [RdAll] using r
    subst e
    exact .nil
  | x :: xs, v :: vs, _, hl, r => by
    rw [RdAll] at r
    obtain ⟨u, t, rfl, r1, r2⟩ := r
    obtain ⟨as, q, qn⟩ := RdAt.reads2 _ _ r1
    exact .cons ⟨as, q, fun z => qn a z rfl⟩ (each_reads (by simpa using hl) r2)
section
variable {X : Cx} {J : Inf} {k : Nat}
theorem sort_le (ps : List (V × D)) : (ps.mergeSort (PySem.W.dataLe false fun p => toPy p.2)).map (·.2) = sortK (ps.map (·.2)) := by
  unfold sortK
  refine List.map_mergeSort fun a _ b _ => ?_
  show (!PySem.W.dataLt (toPy b.2) (toPy a.2)) = _
  rw [dataLt_py]
/-- a call that makes a list -/
def rCallN (K : PySem.W.Frag) (f : List D → Option D) : List V → Hp → VK → Prop := fun xs H Q => ∃ O θ ds zs, Tr H O θ ∧ RepsB K H O θ ds xs ∧ f ds = some (.lst zs) ∧ ∀ p vs, H p = none → Reps K H O θ zs vs → Q (.ref p) (upd H p (.lst vs))
theorem callN_r {f : Value} {g : List D → Option D} (hl : ∀ ds d, g ds = some d → ∃ zs, d = .lst zs) (h : CallR X f (rCallN X.K g)) : CallR X f (rCall X.K g) := by
  intro pins s σ H xs us Q I r q
  obtain ⟨O, θ, ds, d, tr, hr, e, q⟩ := q
  obtain ⟨zs, rfl⟩ := hl ds d e
  exact h pins s σ H xs us Q I r ⟨O, θ, ds, zs, tr, hr, e, fun p vs hp rp => q _ _ (sm_upd hp) (rep_new_lst tr hp rp)⟩
theorem bi_sortedN (hx : XOk J k X) (hc : X.calm = true) : CallR X (.builtin "sorted") (rCallN X.K (biF .sorted)) := by
  intro pins s σ H xs us Q I r q
  obtain ⟨O, θ, ds, zs, tr, hr, e, q⟩ := q
  match ds, e with
  | [x], e =>
    obtain ⟨v, rfl, h1⟩ := hr.one
    obtain ⟨u, rfl, ru⟩ := vals1 r
    cases hit : itemsOf x with
    | none => simp only [biF, hit] at e; cases e
    | some ys =>
      simp only [biF, hit] at e
      split at e
      · rename_i hh
        cases e
        obtain ⟨hh, hsz⟩ := hh
        have hsz' : ys.length ≤ sizeLine := by rw [← SZ_line]; exact hsz
        unfold sortOk at hh
        rw [Bool.and_eq_true, Bool.and_eq_true] at hh
        obtain ⟨⟨hp, ha⟩, hk⟩ := hh
        have hp' : plainAll 40 ys = true := plainAll_of fun y hy => List.all_eq_true.mp hp y hy
        -- the items, and how they are gathered
        obtain ⟨vs, rs, hcol⟩ : ∃ vs, Reps X.K H O θ ys vs ∧ ∀ (E' : Value → Shared → Prop) (Q' : List Value → Shared → Prop), (∀ s' us, (∀ b o, s.heap.get? b = some o → s'.heap.get? b = some o) → s'.gens = s.gens → s'.drawn = s.drawn → s'.os = s.os → Vals vs us → Q' us s') → wpAny (model X.prog X.w) X.A.in1 (collect u) Q' E' s := by
          cases x <;> simp only [itemsOf] at hit <;> first | cases hit | skip
          · rename_i y
            have e1 := h1.str
            subst e1
            obtain ⟨t, rfl⟩ := ru
            refine ⟨_, reps_signs y, fun E' Q' hq => wpAny_collect_str (A := X.A.in1) (I.ok.hd hc) _ t (fun s' acc kp g d o hi => ?_) (by simpa using hsz')⟩
            exact hq s' acc.toList kp g d o (signs_vals (by simpa using hi))
          · obtain ⟨a, vs, rfl, t, p⟩ := h1.tup
            obtain rfl : u = Value.ref a := ru
            obtain ⟨its, rv, ⟨o, g, c, n, dt⟩, hz⟩ := I.tuple t.sq
            refine ⟨vs, p, fun E' Q' hq => wpAny_collect_seq (A := X.A.in1) a (.inr rfl) g c dt (fun h' kp => hq _ its kp rfl rfl rfl rv) ?_⟩
            rw [List.size_toArray, ← rv.length]; exact hz
          · obtain ⟨a, vs, rfl, t, p⟩ := h1.lst
            obtain rfl : u = Value.ref a := ru
            obtain ⟨hz, its, n, rv, len, g⟩ := rd_get I t
            refine ⟨vs, p, fun E' Q' hq => wpAny_collect_seq (A := X.A.in1) a (.inl rfl) g rfl rfl (fun h' kp => hq _ its kp rfl rfl rfl rv) ?_⟩
            rw [List.size_toArray, ← len]; exact hz
        refine Calls.call_function_entry kind_sorted plain_sorted entry_sorted (args_sorted1 _) ?_
        unfold Builtin.«sorted»
        refine wpAny_bind (m := checkCount "sorted" 1 1 _) (wpAny_pure ?_)
        refine wpAny_bind (hcol _ _ fun s' us kp hg hd ho rv => ?_)
        obtain ⟨h', g', d', t', o'⟩ := s'
        simp only at hg hd ho kp
        subst hg hd ho
        have hul : us.length = ys.length := by rw [← rv.length, rs.length]
        refine wpAny_bind (wpAny_newList ?_ (by rw [hul]; exact hsz'))
        have I1 : Inv X pins σ H { s with heap := h', toks := t' } := I.kept kp
        have hnew : (h'.push (seqObj "list" us.toArray 0)).get? h'.objs.size = some (seqObj "list" us.toArray 0) := Heap.get?_push_size h' rfl
        have fr : H h'.objs.size = none := I1.hok.fresh (Nat.le_refl _)
        have kp2 : ∀ b o, h'.get? b = some o → (h'.push (seqObj "list" us.toArray 0)).get? b = some o := fun b o e => Heap.get?_push_of_some _ e
        have I2 : Inv X pins σ H { s with heap := h'.push (seqObj "list" us.toArray 0), toks := t' } := I.kept fun b o e => kp2 b o (kp b o e)
        have er0 : RdAll (h'.push (seqObj "list" us.toArray 0)) (fun b => b = h'.objs.size) ys us := RdAll.of I2.hok I2.kIn (fun a o ea z => by rw [z, fr] at ea; cases ea) (fun a o ea z => by
          have h1 := (I.bs a o (I.ok.mod.kin a o ea)).1
          have h2 := Heap.lt_size (kp _ _ h1)
          rw [z] at h2
          exact Nat.lt_irrefl _ h2) 40 ys vs us hp' rs rv
        obtain ⟨bs, ebs⟩ : ∃ bs, bs = vs.zip ys := ⟨_, rfl⟩
        have hbl : bs.length = ys.length := by rw [ebs, List.length_zip, rs.length, Nat.min_self]
        have hmem : ∀ p ∈ bs, p.2 ∈ ys := fun p hp => by rw [ebs] at hp; exact (List.of_mem_zip hp).2
        have e0 : PySem.W.EachIs (fun u (p : V × D) => RelV p.1 u ∧ Rep X.K H O θ p.2 p.1) us bs := by rw [ebs]; exact each_vals rs rv
        have er : PySem.W.EachIs (fun u (p : V × D) => ∃ as, Reads (h'.push (seqObj "list" us.toArray 0)) u (toPy p.2) as ∧ h'.objs.size ∉ as) us bs := by
          rw [ebs]
          exact each_reads rs.length er0
        have hal : PySem.W.AllAlike (bs.map fun p => toPy p.2) := by
          intro d hd d2 hd2
          obtain ⟨p, hp1, rfl⟩ := List.mem_map.mp hd
          obtain ⟨p2, hp2, rfl⟩ := List.mem_map.mp hd2
          exact alike_py _ _ (List.all_eq_true.mp (List.all_eq_true.mp ha _ (hmem p hp1)) _ (hmem p2 hp2))
        have hsk : PySem.W.Sortable (bs.map fun p => toPy p.2) := by
          rcases Bool.or_eq_true _ _ ▸ hk with z | z
          · refine .inl fun d hd => ?_
            obtain ⟨p, hp1, rfl⟩ := List.mem_map.mp hd
            have := List.all_eq_true.mp z _ (hmem p hp1)
            cases q : p.2 <;> rw [q] at this <;> first | cases this | skip
            rename_i xs
            cases xs with
            | nil => cases this
            | cons x xs => exact ⟨toPy x, toPys xs, by simp [toPy, toPys]⟩
          · refine .inr fun d hd => ?_
            obtain ⟨p, hp1, rfl⟩ := List.mem_map.mp hd
            have h1 := List.all_eq_true.mp z _ (hmem p hp1)
            have h2 := alk_ne (List.all_eq_true.mp (List.all_eq_true.mp ha _ (hmem p hp1)) _ (hmem p hp1))
            refine ⟨h2, fun xs e => ?_⟩
            cases q : p.2 <;> rw [q] at h1 e <;> first | (simp [toPy] at e; done) | cases h1
        refine wpAny_bind (wpAny_holding ?_)
        refine PySem.W.list_sort_data (A := X.A.in1) (s := { s with heap := h'.push (seqObj "list" us.toArray 0), toks := t' }) (enc := fun p : V × D => toPy p.2) hnew e0 er hal hsk (by rw [hbl]; exact hsz') (fun p hp1 => ?_) fun out ho eo => ?_
        · have h1 := depth_le (List.all_eq_true.mp hp _ (hmem p hp1))
          have h2 := hx.room.un
          show X.A.units + 1 + 1 + _ < _
          omega
        obtain ⟨a1, a2⟩ := vals_each eo
        rw [sort_le, show bs.map (·.2) = ys from by rw [ebs]; exact zip_snd rs] at a2
        obtain ⟨ep, he⟩ := PyProof.Rows.sortedHeap_at (vs := us) (out := out.toArray) hnew
        have kp3 : ∀ b o, h'.get? b = some o → (PyProof.Rows.sortedHeap (h'.push (seqObj "list" us.toArray 0)) h'.objs.size us out.toArray).get? b = some o := fun b o e => by
          rw [PyProof.Rows.sortedHeap_old (Nat.ne_of_lt (Heap.lt_size e)) (Heap.lt_size (kp2 b o e))]
          exact kp2 b o e
        refine wpAny_pure ⟨_, rfl, .ref _, upd H h'.objs.size (.lst ((bs.mergeSort (PySem.W.dataLe false fun p => toPy p.2)).map (·.1))), I1.laid (t' := t') kp3 (Nat.le_refl _) ⟨?_, out, ep, a1, he⟩, rfl, q _ _ fr a2⟩
        rw [List.length_map, List.length_mergeSort, hbl]; exact hsz'
      · cases e
theorem bi_sorted (hx : XOk J k X) (hc : X.calm = true) : CallR X (.builtin "sorted") (rCall X.K (biF .sorted)) := callN_r (fun ds d e => by
  match ds, e with
  | [x], e =>
    cases hit : itemsOf x with
    | none => simp only [biF, hit] at e; cases e
    | some ys =>
      simp only [biF, hit] at e
      split at e
      · cases e; exact ⟨_, rfl⟩
      · cases e) (bi_sortedN hx hc)
theorem bi_listN (hc : X.calm = true) : CallR X (.type "list") (rCallN X.K (biF .list)) := by
  intro pins s σ H xs us Q I r q
  obtain ⟨O, θ, ds, zs, tr, hr, e, q⟩ := q
  match ds, e with
  | [x], e =>
    obtain ⟨v, rfl, h1⟩ := hr.one
    simp only [biF] at e
    split at e
    · split at e
      · rename_i y hz
        cases e
        have e1 := h1.str
        subst e1
        obtain ⟨u, rfl, t, rfl⟩ := vals1 r
        refine call_list_str (I.ok.hd hc) _ t (fun h' tk acc c kp hg hi => ?_) (by rw [← SZ_line]; simpa using hz)
        have hv := signs_vals (by simpa using hi)
        refine ⟨.ref _, _, I.laid (t' := tk) (o := .lst (y.map fun c => V.str ⟨#[c]⟩)) kp (Nat.le_refl _) ⟨by rw [List.length_map, ← SZ_line]; exact hz, acc.toList, c, hv, by simpa using hg⟩, rfl, ?_⟩
        exact q _ _ I.fresh (reps_signs y)
      · cases e
    · cases e
      obtain ⟨a, vs, rfl, t, p⟩ := h1.lst
      refine call_list_of pins s σ H _ us Q I r ⟨a, vs, rfl, .inl (.inl t), fun l hl => ?_⟩
      exact q _ _ hl p
    · cases e
      obtain ⟨a, vs, rfl, t, p⟩ := h1.tup
      refine call_list_of pins s σ H _ us Q I r ⟨a, vs, rfl, .inr t.sq, fun l hl => ?_⟩
      exact q _ _ hl p
    · cases e
end
end RC

set_option Elab.async false
set_option linter.all false
set_option autoImplicit false
set_option maxRecDepth 100000
set_option maxHeartbeats 1000000
namespace RC
open PySem PySem.Spec PyProof.Rows L2
variable [LX]
section
variable {X : Cx} {J : Inf} {k : Nat} {W : WX} {bb : Bool} {l r c : Expr} {a b d : E} {pos p2 : Pos}
/-! ### subscripts and slices -/
theorem pd_sub (ha : PE X l (tX X.K J k W true a)) (hb : PE X r (tX X.K J k W false b)) (hs : PlainIx r) : PE X (.Subscript l r pos) (tX X.K J k W bb (.sub a b)) := by
  refine PE.imp (pe_ix (IxR.or ix_shared ix_data) ha hb hs) fun σ H Q ⟨A, ρ, M, θ, O, rs, h⟩ => ?_
  refine tX_of rs (After.bind h) fun d1 M1 θ1 H1 x1 rs1 h1 v1 r1 => tX_of rs1 (After.bind h1) fun d2 M2 θ2 H2 x2 rs2 h2 v2 r2 => ?_
  have other : After X.K J O W σ θ2 H2 (Res.of M2 (subF2 d1 d2)) (fun d _ θ' H' => ∀ v, RepQ bb X.K H' O θ' d v → Q v H') → (∃ a ns i k, v1 = V.ref a ∧ v2 = V.int i ∧ H2 a = some (.lst (ns.map V.int)) ∧ atF ns i = some k ∧ Q (.int k) H2) ∨ rOp X.K subF2 v1 v2 H2 Q := fun h2 => by
    obtain ⟨dd, e, q⟩ := h2.pure
    exact .inr ⟨O, θ2, d1, d2, dd, rs2.rm.tr, RepB.ext r1 x2, .inl r2, e, fun v H' sm rep => q H' sm rs2.rm v (.of rep)⟩
  cases d1 with
  | ref n =>
    cases d2 with
    | int j =>
      have h2' : After X.K J O W σ θ2 H2 (match M2[n]? with
        | some ns => Res.of M2 ((atF ns j).map .int)
        | none => .stuck) (fun d _ θ' H' => ∀ v, RepQ bb X.K H' O θ' d v → Q v H') := h2
      cases z : M2[n]? with
      | none => rw [z] at h2'; exact (show False from h2').elim
      | some ns =>
        rw [z] at h2'
        obtain ⟨dd, e, q⟩ := After.pure (o := (atF ns j).map D.int) h2'
        cases z' : atF ns j with
        | none => rw [z'] at e; cases e
        | some m =>
          rw [z'] at e
          cases e
          obtain ⟨pa, hp, rfl⟩ := (RepB.ext r1 x2).ref
          exact .inl ⟨pa, ns, j, m, rfl, r2, rs2.rm.at_ n pa ns hp z, z', q H2 (Same.refl _) rs2.rm _ (.of rfl)⟩
    | _ => exact (show False from h2).elim
  | non => exact other h2
  | bl _ => exact other h2
  | int _ => exact other h2
  | str _ => exact other h2
  | tup _ => exact other h2
  | lst _ => exact other h2
  | exc _ _ => exact other h2
  | clo _ _ => exact other h2
theorem pd_slcL (ha : PE X l (tX X.K J k W true a)) (hb : PE X r (tX X.K J k W false b)) : PE X (.Subscript l (.Slice (some r) none none p2) pos) (tX X.K J k W bb (.slcL a b)) := by
  refine PE.imp (pe_slice sl_data ha (po_some hb) po_none) fun σ H Q ⟨A, ρ, M, θ, O, rs, h⟩ => ?_
  refine tX_of rs (After.bind h) fun d1 M1 θ1 H1 x1 rs1 h1 v1 r1 => tX_of rs1 (After.bind h1) fun d2 M2 θ2 H2 x2 rs2 h2 v2 r2 => ?_
  cases d2 <;> first | exact (show False from h2).elim | skip
  rename_i i
  obtain ⟨dd, e, q⟩ := After.pure (o := slcF d1 (some i) none) h2
  exact ⟨i, r2, O, θ2, d1, dd, rs2.rm.tr, RepB.ext r1 x2, e, fun v H' sm rep => q H' sm rs2.rm v (.of rep)⟩
theorem pd_slcU (ha : PE X l (tX X.K J k W true a)) (hb : PE X r (tX X.K J k W false b)) : PE X (.Subscript l (.Slice none (some r) none p2) pos) (tX X.K J k W bb (.slcU a b)) := by
  refine PE.imp (pe_slice sl_data ha po_none (po_some hb)) fun σ H Q ⟨A, ρ, M, θ, O, rs, h⟩ => ?_
  refine tX_of rs (After.bind h) fun d1 M1 θ1 H1 x1 rs1 h1 v1 r1 => tX_of rs1 (After.bind h1) fun d2 M2 θ2 H2 x2 rs2 h2 v2 r2 => ?_
  cases d2 <;> first | exact (show False from h2).elim | skip
  rename_i i
  obtain ⟨dd, e, q⟩ := After.pure (o := slcF d1 none (some i)) h2
  exact ⟨i, r2, O, θ2, d1, dd, rs2.rm.tr, RepB.ext r1 x2, e, fun v H' sm rep => q H' sm rs2.rm v (.of rep)⟩
theorem pd_slcB (ha : PE X l (tX X.K J k W true a)) (hb : PE X r (tX X.K J k W false b)) (hc : PE X c (tX X.K J k W false d)) : PE X (.Subscript l (.Slice (some r) (some c) none p2) pos) (tX X.K J k W bb (.slcB a b d)) := by
  refine PE.imp (pe_slice sl_data ha (po_some hb) (po_some hc)) fun σ H Q ⟨A, ρ, M, θ, O, rs, h⟩ => ?_
  refine tX_of rs (After.bind h) fun d1 M1 θ1 H1 x1 rs1 h1 v1 r1 => tX_of rs1 (After.bind h1) fun d2 M2 θ2 H2 x2 rs2 h2 v2 r2 => ?_
  -- the lower end must be an int ahead of the upper one's reading
  cases d2 with
  | int i =>
    refine ⟨i, r2, ?_⟩
    refine tX_of rs2 (After.bind h2) fun d3 M3 θ3 H3 x3 rs3 h3 v3 r3 => ?_
    cases d3 <;> first | exact (show False from h3).elim | skip
    rename_i j
    obtain ⟨dd, e, q⟩ := After.pure (o := slcF d1 (some i) (some j)) h3
    exact ⟨j, r3, O, θ3, d1, dd, rs3.rm.tr, RepB.ext (RepB.ext r1 x2) x3, e, fun v H' sm rep => q H' sm rs3.rm v (.of rep)⟩
  | _ => exact (show False from h2).elim
theorem pd_rev {st : Expr} (ha : PE X l (tX X.K J k W true a)) (hst : PE X st (tC (.int (-1)))) (hs : ∀ o i, subscripted (.Slice none none (some st) p2) false o i = operate [o, i] (getItem o i)) :
    PE X (.Subscript l (.Slice none none (some st) p2) pos) (tX X.K J k W bb (.rev a)) := by
  refine PE.imp (pe_stp (R := rRev X.K) (by decide) ha hst hs fun pins s σ H x v vs sl t Q I rx e hsl h => rev_rule pins s σ H x v vs sl t Q I rx e hsl h) fun σ H Q ⟨A, ρ, M, θ, O, rs, h⟩ => ?_
  refine tX_of rs (After.bind h) fun d1 M1 θ1 H1 x1 rs1 h1 v1 r1 => ?_
  obtain ⟨dd, e, q⟩ := h1.pure
  exact ⟨O, θ1, d1, dd, rs1.rm.tr, r1, e, fun v H' sm rep => q H' sm rs1.rm v (.of rep)⟩
theorem pd_half {st : Expr} (ha : PE X l (tX X.K J k W true a)) (hst : PE X st (tC (.int 2))) (hs : ∀ o i, subscripted (.Slice none none (some st) p2) false o i = operate [o, i] (getItem o i)) :
    PE X (.Subscript l (.Slice none none (some st) p2) pos) (tX X.K J k W bb (.half a)) := by
  refine PE.imp (pe_stp (R := rHalf X.K) (by decide) ha hst hs fun pins s σ H x v vs sl t Q I rx e hsl h => half_rule pins s σ H x v vs sl t Q I rx e hsl h) fun σ H Q ⟨A, ρ, M, θ, O, rs, h⟩ => ?_
  refine tX_of rs (After.bind h) fun d1 M1 θ1 H1 x1 rs1 h1 v1 r1 => ?_
  obtain ⟨dd, e, q⟩ := h1.pure
  exact ⟨O, θ1, d1, dd, rs1.rm.tr, r1, e, fun v H' sm rep => q H' sm rs1.rm v (.of rep)⟩
/-! ### displays -/
def lenEs : Es → Nat
  | .nil => 0
  | .cons _ r => lenEs r + 1
theorem evs_len {cf : Cfg} {ρ : RC.Env} : ∀ (es : Es) (M : Store) (ds : List D) (M' : Store), evs cf es ρ M = .ok ds M' → ds.length = lenEs es
  | .nil, M, ds, M', h => by cases h; rfl
  | .cons x r, M, ds, M', h => by
    have h' : ((ev cf x ρ M).bind fun x M1 => (evs cf r ρ M1).bind fun xs M2 => .ok (x :: xs) M2) = .ok ds M' := h
    cases z : ev cf x ρ M with
    | ok y M1 =>
      rw [z] at h'
      have h2 : ((evs cf r ρ M1).bind fun xs M2 => .ok (y :: xs) M2) = .ok ds M' := h'
      cases z2 : evs cf r ρ M1 with
      | ok ys M2 =>
        rw [z2] at h2
        cases h2
        rw [List.length_cons, evs_len r M1 ys _ z2]; rfl
      | exc _ _ _ => rw [z2] at h2; cases h2
      | stuck => rw [z2] at h2; cases h2
    | exc _ _ _ => rw [z] at h'; cases h'
    | stuck => rw [z] at h'; cases h'
theorem chkEs_len {S : Sg} {b : Bool} {sc : Scope} : ∀ (es : Es) (xs : List Expr), chkEs S b es sc xs = true → lenEs es = xs.length
  | .nil, xs, h => by
    cases xs with
    | nil => rfl
    | cons _ _ => cases h
  | .cons x r, xs, h => by
    cases xs with
    | nil => cases h
    | cons y ys =>
      have h' : (chkE S b x sc y && chkEs S b r sc ys) = true := h
      rw [Bool.and_eq_true] at h'
      rw [List.length_cons, ← chkEs_len r ys h'.2]; rfl
theorem After.len {K : PySem.W.Frag} {O : OSet} {σ : L2.St} {ρ : RC.Env} {θ : List Addr} {H : Hp} {M : Store} {es : Es} {Q : List D → Store → List Addr → Hp → Prop} (h : After K J O W σ θ H (evs (J.cfg k) es ρ M) Q) :
    After K J O W σ θ H (evs (J.cfg k) es ρ M) fun ds M1 θ1 H1 => ds.length = lenEs es ∧ Q ds M1 θ1 H1 := by
  cases z : evs (J.cfg k) es ρ M with
  | ok ds M1 =>
    rw [z] at h
    exact fun θ' H' x m => ⟨evs_len es M ds M1 z, h θ' H' x m⟩
  | exc _ _ _ => rw [z] at h; exact h
  | stuck => rw [z] at h; exact h
theorem pd_tup {xs : List Expr} {es : Es} {kk : Nat} (ha : PA X xs (tXs X.K J k W false es)) (hn : lenEs es ≤ 1000) : PE X (.Tuple xs kk pos) (tX X.K J k W bb (.tup es)) := by
  refine PE.imp (pe_tup ha) fun σ H Q ⟨A, ρ, M, θ, O, rs, h⟩ => ?_
  refine tXs_of rs (After.bind h).len fun ds M1 θ1 H1 x1 rs1 ⟨hl, h1⟩ vs r1 => ?_
  have r1 : Reps X.K H1 O θ1 ds vs := r1
  refine ⟨?_, fun p hp => ?_⟩
  · rw [← r1.length, hl, sizeLine_eq]; omega
  · exact h1 θ1 _ (sm_ext (sm_upd hp) θ1) (sm_rm (sm_upd hp) rs1.rm) _ (.of (rep_new_tup rs1.rm.tr hp r1))
/-- a new list, of which the frame may make its own -/
def tN (K : PySem.W.Frag) (J : Inf) (k : Nat) (W : WX) (e : E) : TE := fun σ H Q => ∃ A ρ M θ O, RS K A H O σ ρ θ M ∧ match ev (J.cfg k) e ρ M with
  | .ok d M' => ∃ xs, d = .lst xs ∧ ∀ θ' H' p vs, Ext θ θ' H H' → Nn H p → H' p = some (.lst vs) → p ∉ θ' → RM H' (fun a => O a ∨ a = p) θ' M' → Reps K H' (fun a => O a ∨ a = p) θ' xs vs → Q (.ref p) H'
  | .exc c x M' => ∀ θ' H' cls da, Ext θ θ' H H' → RM H' O θ' M' → RepX K J H' O θ' c x cls da → W cls da σ H'
  | .stuck => False
theorem tN_tX {e : E} {σ : L2.St} {H : Hp} {Q : VK} (hl : ∀ ρ M d M', ev (J.cfg k) e ρ M = .ok d M' → ∃ xs, d = .lst xs) (h : tX X.K J k W bb e σ H Q) : tN X.K J k W e σ H Q := by
  obtain ⟨A, ρ, M, θ, O, rs, h⟩ := h
  refine ⟨A, ρ, M, θ, O, rs, ?_⟩
  cases z : ev (J.cfg k) e ρ M with
  | ok d M' =>
    rw [z] at h
    obtain ⟨xs, rfl⟩ := hl ρ M d M' z
    refine ⟨xs, rfl, fun θ' H' p vs x hp hv hn m r => ?_⟩
    refine h θ' H' x (m.mono fun a h => .inl h) _ (.of ⟨p, vs, rfl, ⟨.inl hv, fun z => ?_, hn⟩, r.mono fun a h => .inl h⟩)
    obtain ⟨o, e⟩ := rs.rm.otr p z
    exact hp _ (nt_lst _) e
  | exc _ _ _ => rw [z] at h; exact h
  | stuck => rw [z] at h; exact h
/-- the tables stay where a list changes -/
theorem tabs_put {T : List (Addr × Str)} {H : Hp} {p : Addr} {xs : List V} {o : HO} (t : LamX.Tabs T H) (h : H p = some (.lst xs)) : LamX.Tabs T (upd H p o) := fun r hr => by
  obtain ⟨ps, h1, h2, h3⟩ := t r hr
  have n1 : r.1 ≠ p := fun e => by rw [← e, h1] at h; cases h
  refine ⟨ps, by rw [upd_ne n1]; exact h1, h2, fun pos cv e => ?_⟩
  obtain ⟨c, h4, h5⟩ := h3 pos cv e
  have n2 : c ≠ p := fun e => by rw [← e, h5] at h; cases h
  exact ⟨c, h4, by rw [upd_ne n2]; exact h5⟩
theorem tabs_new {T : List (Addr × Str)} {H : Hp} {p : Addr} {o : HO} (t : LamX.Tabs T H) (h : H p = none) : LamX.Tabs T (upd H p o) := t.ext fun b u e => by rw [upd_ne (ne_of_none e h)]; exact e
/-- own things and a new one -/
theorem RM.own {H : Hp} {O : OSet} {θ : List Addr} {M : Store} {p : Addr} {o : List V} (m : RM H O θ M) (h : H p = none) : RM (upd H p (.lst o)) (fun a => O a ∨ a = p) θ M :=
  ⟨m.len, m.nd, fun n a ns h1 h2 => by rw [upd_ne (ne_of_none (m.at_ n a ns h1 h2) h)]; exact m.at_ n a ns h1 h2, fun a ha z => by
    rcases z with z | z
    · exact m.noO a ha z
    · subst z; exact (m.tr.new h).2 ha, fun a z => by
    rcases z with z | z
    · obtain ⟨u, e⟩ := m.otr a z
      exact ⟨u, by rw [upd_ne (ne_of_none e h)]; exact e⟩
    · subst z; exact ⟨_, upd_same⟩, tabs_new m.tab h⟩
theorem pn_lst {xs : List Expr} {es : Es} (ha : PA X xs (tXs X.K J k W false es)) (hn : lenEs es ≤ 1000) : PE X (.List xs pos) (tN X.K J k W (.lst es)) := by
  refine PE.imp (pe_lst ha) fun σ H Q ⟨A, ρ, M, θ, O, rs, h⟩ => ?_
  have e0 : ev (J.cfg k) (.lst es) ρ M = (evs (J.cfg k) es ρ M).bind fun xs M1 => .ok (.lst xs) M1 := rfl
  rw [e0] at h
  refine ⟨A, ρ, M, θ, O, rs, ?_⟩
  cases z : evs (J.cfg k) es ρ M with
  | ok ds M1 =>
    rw [z] at h
    obtain ⟨xs', ex, h⟩ := h
    cases ex
    intro θ1 H1 x1 m1 vs r1
    have r1 : Reps X.K H1 O θ1 ds vs := r1
    refine ⟨?_, fun p hp => ?_⟩
    · rw [← r1.length, evs_len es M ds M1 z, sizeLine_eq]; omega
    · have hp0 : Nn H p := fun o t q => by
        by_cases hin : p ∈ θ
        · obtain ⟨u, e⟩ := m1.tr.t p (x1.pre.subset hin)
          rw [hp] at e; cases e
        · rw [x1.keep p o t hin q] at hp; cases hp
      exact h θ1 (upd H1 p (.lst vs)) p vs (x1.trans (sm_ext (sm_upd hp) θ1)) hp0 upd_same (m1.tr.new hp).2 (m1.own hp) (Reps.stays (stays_new (sm_ext (sm_upd hp) θ1) (nn_none hp)) _ _ r1)
  | exc _ _ _ => rw [z] at h; exact h
  | stuck => rw [z] at h; exact h
theorem pd_new {xs : List Expr} {es : Es} (ha : PA X xs (tXs X.K J k W false es)) (hn : lenEs es ≤ 1000) : PE X (.List xs pos) (tX X.K J k W bb (.new es)) := by
  refine PE.imp (pe_lst ha) fun σ H Q ⟨A, ρ, M, θ, O, rs, h⟩ => ?_
  refine tXs_of rs (After.bind h).len fun ds M1 θ1 H1 x1 rs1 ⟨hl, h1⟩ vs r1 => ?_
  have r1 : Reps X.K H1 O θ1 ds vs := r1
  refine ⟨?_, fun p hp => ?_⟩
  · rw [← r1.length, hl, sizeLine_eq]; omega
  · cases z : allI ds with
    | none => rw [z] at h1; exact (show False from h1).elim
    | some ns =>
      rw [z] at h1
      have ev := r1.allI_of z
      subst ev
      have nO := (rs1.rm.tr.new hp).1
      have nθ := (rs1.rm.tr.new hp).2
      have hlen := rs1.rm.len
      refine h1 (θ1 ++ [p]) (upd H1 p (.lst (ns.map V.int))) ⟨⟨[p], rfl⟩, fun a o _ _ e => by rw [upd_ne (ne_of_none e hp)]; exact e, fun a h1 h2 => ?_⟩ ?_ _ (.of ⟨p, ?_, rfl⟩)
      · rcases List.mem_append.mp h1 with q | q
        · exact absurd q h2
        · have : a = p := by simpa using q
          subst this; exact nn_none hp
      · refine ⟨by simp [hlen], ?_, fun n a ms e1 e2 => ?_, fun a ha => ?_, fun a ha => ?_, tabs_new rs1.rm.tab hp⟩
        · rw [List.nodup_append]
          refine ⟨rs1.rm.nd, by simp, fun x hx y hy => ?_⟩
          have : y = p := by simpa using hy
          subst this
          exact fun e => nθ (e ▸ hx)
        · by_cases hlt : n < θ1.length
          · rw [List.getElem?_append_left hlt] at e1
            rw [List.getElem?_append_left (by omega)] at e2
            have q := rs1.rm.at_ n a ms e1 e2
            rw [upd_ne (ne_of_none q hp)]; exact q
          · have hn' : n = θ1.length := by
              have := (List.getElem?_eq_some_iff.mp e1).1
              simp at this; omega
            subst hn'
            have e1' : p = a := by simpa using e1
            have e2' : ns = ms := by rw [hlen] at e2; simpa using e2
            subst e1' e2'
            exact upd_same
        · rcases List.mem_append.mp ha with q | q
          · exact rs1.rm.noO a q
          · have : a = p := by simpa using q
            subst this; exact nO
        · obtain ⟨u, e⟩ := rs1.rm.otr a ha
          exact ⟨u, by rw [upd_ne (ne_of_none e hp)]; exact e⟩
      · rw [← hlen]; simp
end
end RC

set_option Elab.async false
set_option linter.all false
set_option autoImplicit false
set_option maxRecDepth 100000
set_option maxHeartbeats 1000000
namespace RC
open PySem PySem.Spec PyProof.Rows L2
variable [LX]
/-! ### targets -/
/-- σ' is σ but for these slots -/
def OnlyAt (vs : List Nat) (σ σ' : L2.St) : Prop := σ'.length = σ.length ∧ ∀ i, i ∉ vs → σ'[i]? = σ[i]?
theorem OnlyAt.refl (vs : List Nat) (σ : L2.St) : OnlyAt vs σ σ := ⟨rfl, fun _ _ => rfl⟩
theorem OnlyAt.trans {vs : List Nat} {σ σ1 σ2 : L2.St} (a : OnlyAt vs σ σ1) (b : OnlyAt vs σ1 σ2) : OnlyAt vs σ σ2 := ⟨b.1.trans a.1, fun i h => (b.2 i h).trans (a.2 i h)⟩
theorem OnlyAt.mono {vs ws : List Nat} {σ σ1 : L2.St} (a : OnlyAt vs σ σ1) (h : ∀ i, i ∈ vs → i ∈ ws) : OnlyAt ws σ σ1 := ⟨a.1, fun i n => a.2 i fun z => n (h i z)⟩
theorem wipe_get (σ : L2.St) : ∀ (vs : List Nat) (i : Nat), (wipe σ vs)[i]? = if i ∈ vs then (if i < σ.length then some none else none) else σ[i]?
  | [], i => by simp [wipe]
  | v :: vs, i => by
    unfold wipe
    by_cases h : v = i
    · subst h
      by_cases hl : v < σ.length
      · rw [List.getElem?_set_self (by rw [wipe_length]; exact hl)]
        simp [hl]
      · rw [List.getElem?_eq_none (by rw [List.length_set, wipe_length]; omega)]
        simp [hl]
    · rw [List.getElem?_set_ne h, wipe_get σ vs i]
      have : (i ∈ v :: vs) ↔ i ∈ vs := by simp [Ne.symm h]
      simp only [this]
theorem OnlyAt.wipe {vs : List Nat} {σ σ' : L2.St} (h : OnlyAt vs σ σ') : wipe σ' vs = wipe σ vs := by
  apply List.ext_getElem?
  intro i
  rw [wipe_get, wipe_get, h.1]
  split
  · rfl
  · rename_i hi
    exact h.2 i hi
theorem onlyAt_wipe (vs : List Nat) (σ : L2.St) : OnlyAt vs σ (wipe σ vs) := ⟨wipe_length σ vs, fun i h => by rw [wipe_get, if_neg h]⟩
theorem RS.wipe {K : PySem.W.Frag} {A : Anc} {H : Hp} {O : OSet} {σ : L2.St} {ρ : RC.Env} {θ : List Addr} {M : Store} (r : RS K A H O σ ρ θ M) : ∀ vs : List Nat, RS K A H O (L2.wipe σ vs) (wipeE ρ vs) θ M
  | [] => r
  | v :: vs => (RS.wipe r vs).unset v
/-- a target's transformer -/
def gX (K : PySem.W.Frag) (tg : Tg) : TG := fun v σ H Q => ∃ A ρ M θ O d ρ', RS K A H O σ ρ θ M ∧ Rep K H O θ d v ∧ bindT tg d ρ = some ρ' ∧ ∀ σ', OnlyAt (tgSlots tg) σ σ' → RS K A H O σ' ρ' θ M → Q σ' H
def gXs (K : PySem.W.Frag) (ts : Tgs) : TGs := fun vs σ H Q => ∃ A ρ M θ O ds ρ', RS K A H O σ ρ θ M ∧ Reps K H O θ ds vs ∧ bindTs ts ds ρ = some ρ' ∧ ∀ σ', OnlyAt (tgsSlots ts) σ σ' → RS K A H O σ' ρ' θ M → Q σ' H
theorem PG.imp {X : Cx} {e : Expr} {t t' : TG} (h : PG X e t) (i : ∀ v σ H Q, t' v σ H Q → t v σ H Q) : PG X e t' := ⟨fun pins s σ H v u Q I r q => h.run pins s σ H v u Q I r (i v σ H Q q)⟩
theorem PGs.imp {X : Cx} {e : List Expr} {t t' : TGs} (h : PGs X e t) (i : ∀ v σ H Q, t' v σ H Q → t v σ H Q) : PGs X e t' := ⟨fun pins s σ H v u Q I r q => h.run pins s σ H v u Q I r (i v σ H Q q)⟩
theorem locB_ok {sc : Scope} {x : Str} (h : locB sc x = true) : Loc sc x := by
  unfold locB at h
  split at h
  · exact .inl (by assumption)
  · exact .inr (by assumption)
  · cases h
theorem bindTs_len : ∀ (ts : Tgs) (ds : List D) (ρ ρ' : RC.Env), bindTs ts ds ρ = some ρ' → ∀ (S : Sg) (sc : Scope) (es : List Expr), chkTs S sc ts es = true → ds.length = es.length
  | .nil, ds, ρ, ρ', h, S, sc, es, c => by
    cases ds with
    | nil =>
      cases es with
      | nil => rfl
      | cons _ _ => cases c
    | cons _ _ => cases h
  | .cons a r, ds, ρ, ρ', h, S, sc, es, c => by
    cases ds with
    | nil => cases h
    | cons d ds =>
      cases es with
      | nil => cases c
      | cons e es =>
        have c' : (chkT S sc a e && chkTs S sc r es) = true := c
        rw [Bool.and_eq_true] at c'
        have h' : ((bindT a d ρ).bind fun ρ1 => bindTs r ds ρ1) = some ρ' := h
        cases z : bindT a d ρ with
        | none => rw [z] at h'; cases h'
        | some ρ1 =>
          rw [z] at h'
          rw [List.length_cons, List.length_cons, bindTs_len r ds ρ1 ρ' h' S sc es c'.2]
theorem chkT_star {S : Sg} {sc : Scope} {t : Tg} {e : Expr} {es : List Expr} {env : PySem.Env} (h : chkT S sc t e = true) : assignEach (e :: es) env = (false, assign e env) :: assignEach es env := by
  cases t with
  | n i =>
    cases e <;> first | rfl | cases h
  | t ts =>
    cases e <;> first | rfl | cases h
theorem chkTs_plain {S : Sg} {sc : Scope} {env : PySem.Env} : ∀ (ts : Tgs) (es : List Expr), chkTs S sc ts es = true → (assignEach es env).length = es.length ∧ (assignEach es env).findIdx? (·.1) = none
  | .nil, es, h => by
    cases es with
    | nil => exact ⟨rfl, rfl⟩
    | cons _ _ => cases h
  | .cons a r, es, h => by
    cases es with
    | nil => cases h
    | cons e es =>
      have h' : (chkT S sc a e && chkTs S sc r es) = true := h
      rw [Bool.and_eq_true] at h'
      obtain ⟨i1, i2⟩ := chkTs_plain (env := env) r es h'.2
      rw [chkT_star (es := es) (env := env) h'.1]
      refine ⟨by rw [List.length_cons, i1, List.length_cons], ?_⟩
      rw [List.findIdx?_cons, i2]; rfl
theorem pg_either {X : Cx} {e : Expr} {t1 t2 : TG} (h1 : PG X e t1) (h2 : PG X e t2) : PG X e (fun v σ H Q => t1 v σ H Q ∨ t2 v σ H Q) := ⟨fun pins s σ H v u Q I r h => by
  rcases h with h | h
  · exact h1.run pins s σ H v u Q I r h
  · exact h2.run pins s σ H v u Q I r h⟩
section
variable {X : Cx} {J : Inf} {k : Nat} {W : WX}
mutual
theorem pg_ok {S : Sg} (hS : S.N = X.N) (hc : X.calm = true) (nd : X.N.Nodup) {sc0 : Scope} (hf : ∀ x, locB sc0 x = true → Loc X.env.scope x ∧ (X.fn x = true ∨ X.env.scope.names.lookup x = some .local)) : ∀ (tg : Tg) (e : Expr), chkT S sc0 tg e = true → PG X e (gX X.K tg)
  | .n i, e, h => by
    cases e <;> first | cases h | skip
    rename_i x pos
    have h' : (decide (S.N[i]? = some x) && locB sc0 x) = true := h
    rw [Bool.and_eq_true] at h'
    have hl := hf x h'.2
    have hi : X.N[i]? = some x := by rw [← hS]; exact of_decide_eq_true h'.1
    refine PG.imp (pg_name nd hi hl.1 hl.2) fun v σ H Q ⟨A, ρ, M, θ, O, d, ρ', rs, rp, e, q⟩ => ?_
    cases e
    refine q _ ⟨List.length_set, fun j hj => ?_⟩ (rs.set i rp)
    have : i ≠ j := fun z => hj (by simp [tgSlots, z])
    exact List.getElem?_set_ne this
  | .t ts, e, h => by
    cases e <;> first | cases h | skip
    rename_i es kk pos
    have h' : chkTs S sc0 ts es = true := h
    obtain ⟨i1, i2⟩ := chkTs_plain (env := X.env) ts es h'
    have hg := pgs_ok hS hc nd hf ts es h'
    refine PG.imp (pg_either (pg_tup (n := es.length) hc hg i1 i2) (pg_lst (n := es.length) hc hg i1 i2)) fun v σ H Q ⟨A, ρ, M, θ, O, d, ρ', rs, rp, e, q⟩ => ?_
    cases d <;> first | cases e | skip
    · rename_i ds
      obtain ⟨a, vs, rfl, t, p⟩ := rp
      have e' : bindTs ts ds ρ = some ρ' := e
      exact .inl ⟨a, vs, rfl, t.sq, by rw [← p.length]; exact bindTs_len ts ds ρ ρ' e' S _ es h', A, ρ, M, θ, O, ds, ρ', rs, p, e', q⟩
    · rename_i ds
      obtain ⟨a, vs, rfl, t, p⟩ := rp
      have e' : bindTs ts ds ρ = some ρ' := e
      exact .inr ⟨a, vs, rfl, t.sq, by rw [← p.length]; exact bindTs_len ts ds ρ ρ' e' S _ es h', A, ρ, M, θ, O, ds, ρ', rs, p, e', q⟩
theorem pgs_ok {S : Sg} (hS : S.N = X.N) (hc : X.calm = true) (nd : X.N.Nodup) {sc0 : Scope} (hf : ∀ x, locB sc0 x = true → Loc X.env.scope x ∧ (X.fn x = true ∨ X.env.scope.names.lookup x = some .local)) : ∀ (ts : Tgs) (es : List Expr), chkTs S sc0 ts es = true → PGs X es (gXs X.K ts)
  | .nil, es, h => by
    cases es with
    | cons _ _ => cases h
    | nil =>
      refine PGs.imp pgs_nil fun vs σ H Q ⟨A, ρ, M, θ, O, ds, ρ', rs, rp, e, q⟩ => ?_
      cases ds with
      | cons _ _ => cases e
      | nil =>
        cases e
        exact ⟨rp, q σ (OnlyAt.refl _ _) rs⟩
  | .cons a r, es, h => by
    cases es with
    | nil => cases h
    | cons e es =>
      have h' : (chkT S sc0 a e && chkTs S sc0 r es) = true := h
      rw [Bool.and_eq_true] at h'
      refine PGs.imp (pgs_cons (pg_ok hS hc nd hf a e h'.1) (pgs_ok hS hc nd hf r es h'.2) (by rw [chkT_star h'.1]; rfl)) fun vs σ H Q ⟨A, ρ, M, θ, O, ds, ρ', rs, rp, e, q⟩ => ?_
      cases ds with
      | nil => cases e
      | cons d ds =>
        obtain ⟨v, vr, rfl, r1, r2⟩ := rp
        have e' : ((bindT a d ρ).bind fun ρ1 => bindTs r ds ρ1) = some ρ' := e
        cases z : bindT a d ρ with
        | none => rw [z] at e'; cases e'
        | some ρ1 =>
          rw [z] at e'
          refine ⟨v, vr, rfl, A, ρ, M, θ, O, d, ρ1, rs, r1, z, fun σ1 o1 rs1 => ?_⟩
          refine ⟨A, ρ1, M, θ, O, ds, ρ', rs1, r2, e', fun σ2 o2 rs2 => q σ2 ?_ rs2⟩
          exact (o1.mono fun i hi => List.mem_append_left _ hi).trans (o2.mono fun i hi => List.mem_append_right _ hi)
end
end
end RC

set_option Elab.async false
set_option linter.all false
set_option autoImplicit false
set_option maxRecDepth 100000
set_option maxHeartbeats 1000000
namespace RC
open PySem PySem.Spec PyProof.Rows L2
variable [LX]
/-! ### what is walked -/
/-- what is frozen stays frozen -/
structure FS (H : Hp) (O : OSet) (θ : List Addr) (H' : Hp) (O' : OSet) (θ' : List Addr) : Prop where
  pre : θ <+: θ'
  keep : ∀ a o, NT o → H a = some o → ¬ O a → a ∉ θ → H' a = some o ∧ ¬ O' a ∧ a ∉ θ'
theorem FS.refl (H : Hp) (O : OSet) (θ : List Addr) : FS H O θ H O θ := ⟨List.prefix_refl _, fun a o _ e n m => ⟨e, n, m⟩⟩
theorem FS.trans {H H1 H2 : Hp} {O O1 O2 : OSet} {θ θ1 θ2 : List Addr} (a : FS H O θ H1 O1 θ1) (b : FS H1 O1 θ1 H2 O2 θ2) : FS H O θ H2 O2 θ2 :=
  ⟨a.pre.trans b.pre, fun p o t e n m => by
    obtain ⟨e1, n1, m1⟩ := a.keep p o t e n m
    exact b.keep p o t e1 n1 m1⟩
theorem Ext.fs {θ θ' : List Addr} {H H' : Hp} {O O' : OSet} (x : Ext θ θ' H H') (h : ∀ a, O' a → O a ∨ Nn H a) : FS H O θ H' O' θ' :=
  ⟨x.pre, fun a o t e n m => by
    refine ⟨x.keep a o t m e, fun z => ?_, x.notIn t e m⟩
    rcases h a z with q | q
    · exact n q
    · exact q o t e⟩
theorem FS.stays {K : PySem.W.Frag} {H H' : Hp} {O O' : OSet} {θ θ' : List Addr} (x : FS H O θ H' O' θ') : Stays K H H' O O' θ θ' where
  tup := fun a vs t => by
    rcases t with ⟨r, o, n⟩ | t
    · rcases r with e | ⟨ob, e⟩
      · obtain ⟨e1, n1, m1⟩ := x.keep a _ (nt_tup _) e o n
        exact .inl ⟨.inl e1, n1, m1⟩
      · obtain ⟨e1, n1, m1⟩ := x.keep a _ (nt_frz _ _) e o n
        exact .inl ⟨.inr ⟨ob, e1⟩, n1, m1⟩
    · exact .inr t
  lst := fun a vs t => by
    obtain ⟨r, o, n⟩ := t
    rcases r with e | ⟨ob, e⟩
    · obtain ⟨e1, n1, m1⟩ := x.keep a _ (nt_lst _) e o n
      exact ⟨.inl e1, n1, m1⟩
    · obtain ⟨e1, n1, m1⟩ := x.keep a _ (nt_frz _ _) e o n
      exact ⟨.inr ⟨ob, e1⟩, n1, m1⟩
  dct := fun a t => by
    obtain ⟨r, o, n⟩ := t
    rcases r with e | ⟨ob, e⟩
    · obtain ⟨e1, n1, m1⟩ := x.keep a _ (nt_dK _) e o n
      exact ⟨.inl e1, n1, m1⟩
    · obtain ⟨e1, n1, m1⟩ := x.keep a _ (nt_frz _ _) e o n
      exact ⟨.inr ⟨ob, e1⟩, n1, m1⟩
  obj := fun a o n t => x.keep a o n t.1 t.2.1 t.2.2
  pre := x.pre
/-- the walk of It over the data ds, wherever C holds -/
structure Walk (K : PySem.W.Frag) (Jt : L2.It) (ds : List D) (C : Hp → OSet → List Addr → Prop) : Prop where
  go : ∀ H O θ i, C H O θ → i < ds.length → Jt.go i H
  stop : ∀ H O θ i, C H O θ → i = ds.length → Jt.stop i H
  yld : ∀ H O θ i x H', C H O θ → Tr H O θ → i < ds.length → Jt.yld i H x H' → Same H H' ∧ ∃ d, ds[i]? = some d ∧ Rep K H' O θ d x
def ExtClosed (C : Hp → OSet → List Addr → Prop) : Prop := ∀ H O θ H' O' θ', C H O θ → Ext θ θ' H H' → (∀ a, O' a → O a ∨ Nn H a) → C H' O' θ'
def FsClosed (C : Hp → OSet → List Addr → Prop) : Prop := ∀ H O θ H' O' θ', C H O θ → FS H O θ H' O' θ' → C H' O' θ'
theorem FsClosed.ext {C : Hp → OSet → List Addr → Prop} (h : FsClosed C) : ExtClosed C := fun H O θ H' O' θ' c x o => h H O θ H' O' θ' c (x.fs o)
/-- an iterable's transformer; fs: whether what is walked is frozen -/
def tI (K : PySem.W.Frag) (J : Inf) (k : Nat) (W : WX) (fs : Bool) (it : RC.It) : TI := fun σ H R => ∃ A ρ M θ O, RS K A H O σ ρ θ M ∧
  After K J O W σ θ H (evi (J.cfg k) it ρ M) fun ds _ θ' H' => ∀ Jt C, Walk K Jt ds C → C H' O θ' → ExtClosed C → (fs = true → FsClosed C) → R Jt H'
theorem PI.imp {X : Cx} {tg e : Expr} {t t' : TI} (h : PI X tg e t) (i : ∀ σ H Q, t' σ H Q → t σ H Q) : PI X tg e t' := ⟨fun pins s σ H Q I q => h.run pins s σ H Q I (i σ H Q q)⟩
theorem PI.or {X : Cx} {tg e : Expr} {t t' : TI} (h : PI X tg e t) (h' : PI X tg e t') : PI X tg e (fun σ H R => t σ H R ∨ t' σ H R) := ⟨fun pins s σ H R I q => by
  rcases q with q | q
  · exact h.run pins s σ H R I q
  · exact h'.run pins s σ H R I q⟩
section
variable {K : PySem.W.Frag}
/-- a frozen list -/
theorem walk_lst {a : Addr} {vs : List V} {ds : List D} : Walk K (Itl K a) ds (fun H O θ => LstAt H O θ a vs ∧ Reps K H O θ ds vs) where
  go := fun H O θ i c h => by
    have h' : i < vs.length := by rw [← c.2.length]; exact h
    exact ⟨vs, vs[i], c.1.sq, List.getElem?_eq_getElem h'⟩
  stop := fun H O θ i c h => ⟨vs, c.1.sq, by rw [← c.2.length]; exact Nat.le_of_eq h.symm⟩
  yld := fun H O θ i x H' c t hi y => by
    obtain ⟨rfl, y⟩ := y
    refine ⟨Same.refl _, ds[i], List.getElem?_eq_getElem hi, ?_⟩
    obtain ⟨v, e, r⟩ := c.2.get (List.getElem?_eq_getElem hi)
    have := y vs c.1.sq
    rw [e] at this; cases this
    exact r
theorem closed_lst {a : Addr} {vs : List V} {ds : List D} : FsClosed (fun H O θ => LstAt H O θ a vs ∧ Reps K H O θ ds vs) := fun H O θ H' O' θ' c x => ⟨(x.stays (K := K)).lst _ _ c.1, Reps.stays x.stays _ _ c.2⟩
/-- a list of the frame's own -/
theorem walk_own {a : Addr} {vs : List V} {ds : List D} : Walk K (Itl K a) ds (fun H O θ => (H a = some (.lst vs) ∧ a ∉ θ) ∧ Reps K H O θ ds vs) where
  go := fun H O θ i c h => by
    have h' : i < vs.length := by rw [← c.2.length]; exact h
    exact ⟨vs, vs[i], SqL.of c.1.1, List.getElem?_eq_getElem h'⟩
  stop := fun H O θ i c h => ⟨vs, SqL.of c.1.1, by rw [← c.2.length]; exact Nat.le_of_eq h.symm⟩
  yld := fun H O θ i x H' c t hi y => by
    obtain ⟨rfl, y⟩ := y
    refine ⟨Same.refl _, ds[i], List.getElem?_eq_getElem hi, ?_⟩
    obtain ⟨v, e, r⟩ := c.2.get (List.getElem?_eq_getElem hi)
    have := y vs (SqL.of c.1.1)
    rw [e] at this; cases this
    exact r
theorem closed_own {a : Addr} {vs : List V} {ds : List D} : ExtClosed (fun H O θ => (H a = some (.lst vs) ∧ a ∉ θ) ∧ Reps K H O θ ds vs) := fun H O θ H' O' θ' c x o => ⟨⟨x.keep a _ (nt_lst _) c.1.2 c.1.1, x.notIn (nt_lst _) c.1.1 c.1.2⟩, Reps.stays (x.fs o).stays _ _ c.2⟩
theorem walk_tup {a : Addr} {vs : List V} {ds : List D} : Walk K (Itt K a) ds (fun H O θ => TupAt K H O θ a vs ∧ Reps K H O θ ds vs) where
  go := fun H O θ i c h => by
    have h' : i < vs.length := by rw [← c.2.length]; exact h
    exact ⟨vs, vs[i], c.1.sq, List.getElem?_eq_getElem h'⟩
  stop := fun H O θ i c h => ⟨vs, c.1.sq, by rw [← c.2.length]; exact Nat.le_of_eq h.symm⟩
  yld := fun H O θ i x H' c t hi y => by
    obtain ⟨rfl, y⟩ := y
    refine ⟨Same.refl _, ds[i], List.getElem?_eq_getElem hi, ?_⟩
    obtain ⟨v, e, r⟩ := c.2.get (List.getElem?_eq_getElem hi)
    have := y vs c.1.sq
    rw [e] at this; cases this
    exact r
theorem closed_tup {a : Addr} {vs : List V} {ds : List D} : FsClosed (fun H O θ => TupAt K H O θ a vs ∧ Reps K H O θ ds vs) := fun H O θ H' O' θ' c x => ⟨(x.stays (K := K)).tup _ _ c.1, Reps.stays x.stays _ _ c.2⟩
theorem walk_str {s : List Nat} : Walk K (Its ⟨s.toArray⟩) (s.map fun c => D.str [c]) (fun _ _ _ => True) where
  go := fun H O θ i c h => by
    show i < s.toArray.size
    simpa using h
  stop := fun H O θ i c h => by
    show s.toArray.size ≤ i
    have : i = s.length := by simpa using h
    simp [this]
  yld := fun H O θ i x H' c t hi y => by
    obtain ⟨rfl, ch, hc, rfl⟩ := y
    have hc' : s[i]? = some ch := by simpa using hc
    exact ⟨Same.refl _, .str [ch], by rw [List.getElem?_map, hc']; rfl, rfl⟩
theorem rngD_len (lo : Int) : ∀ n, (rngD lo n).length = n
  | 0 => rfl
  | n + 1 => by rw [rngD, List.length_cons, rngD_len (lo + 1) n]
theorem rngD_get : ∀ (n : Nat) (lo : Int) (i : Nat), i < n → (rngD lo n)[i]? = some (.int (lo + i))
  | 0, _, _, h => absurd h (Nat.not_lt_zero _)
  | n + 1, lo, 0, _ => by simp [rngD]
  | n + 1, lo, i + 1, h => by
    rw [rngD, List.getElem?_cons_succ, rngD_get n (lo + 1) i (by omega)]
    have : lo + 1 + (i : Int) = lo + ((i + 1 : Nat) : Int) := by omega
    rw [this]
theorem walk_rng {lo : Int} {n : Nat} : Walk K (Itr lo n) (rngD lo n) (fun _ _ _ => True) where
  go := fun H O θ i c h => by rw [rngD_len] at h; exact h
  stop := fun H O θ i c h => by rw [rngD_len] at h; exact Nat.le_of_eq h.symm
  yld := fun H O θ i x H' c t hi y => by
    obtain ⟨rfl, rfl⟩ := y
    rw [rngD_len] at hi
    exact ⟨Same.refl _, _, rngD_get n lo i hi, rfl⟩
theorem closed_true : FsClosed (fun _ _ _ => True) := fun _ _ _ _ _ _ _ _ => trivial
end
section
variable {X : Cx} {J : Inf} {k : Nat} {W : WX} {e e' tg : Expr} {a b : E} {p pos : Pos}
theorem pi_seq {bb : Bool} (ha : PE X e (tX X.K J k W bb a)) : PI X tg e (tI X.K J k W (!bb) (.seq a)) := by
  refine PI.imp (PI.or (pi_list ha) (PI.or (pi_tup ha) (pi_str ha))) fun σ H R ⟨A, ρ, M, θ, O, rs, h⟩ => ?_
  have e0 : evi (J.cfg k) (.seq a) ρ M = (ev (J.cfg k) a ρ M).bind fun x M1 => Res.of M1 (itemsOf x) := rfl
  rw [e0] at h
  cases z : ev (J.cfg k) a ρ M with
  | stuck => rw [z] at h; exact (show False from h).elim
  | exc c x M1 =>
    rw [z] at h
    refine .inl ⟨A, ρ, M, θ, O, rs, ?_⟩
    rw [z]; exact h
  | ok d M1 =>
    rw [z] at h
    have h' : After X.K J O W σ θ H (Res.of M1 (itemsOf d)) _ := h
    cases d with
    | lst ds =>
      refine .inl ⟨A, ρ, M, θ, O, rs, ?_⟩
      rw [z]
      intro θ1 H1 x1 m1 v r1
      have h1 : ∀ Jt C, Walk X.K Jt ds C → C H1 O θ1 → ExtClosed C → ((!bb) = true → FsClosed C) → R Jt H1 := h' θ1 H1 x1 m1
      cases bb with
      | false =>
        obtain ⟨pa, vs, rfl, t, p⟩ := (show Rep X.K H1 O θ1 (.lst ds) v from r1)
        exact ⟨pa, rfl, ⟨vs, t.sq⟩, h1 _ _ walk_lst ⟨t, p⟩ closed_lst.ext fun _ => closed_lst⟩
      | true =>
        rcases (show RepB X.K H1 O θ1 (.lst ds) v from r1) with ⟨pa, vs, rfl, t, p⟩ | ⟨xs, pa, vs, ex, rfl, e3, n, p⟩
        · exact ⟨pa, rfl, ⟨vs, t.sq⟩, h1 _ _ walk_lst ⟨t, p⟩ closed_lst.ext fun q => by cases q⟩
        · cases ex
          exact ⟨pa, rfl, ⟨vs, SqL.of e3⟩, h1 _ _ walk_own ⟨⟨e3, n⟩, p⟩ closed_own fun q => by cases q⟩
    | tup ds =>
      refine .inr (.inl ⟨A, ρ, M, θ, O, rs, ?_⟩)
      rw [z]
      intro θ1 H1 x1 m1 v r1
      have h1 : ∀ Jt C, Walk X.K Jt ds C → C H1 O θ1 → ExtClosed C → ((!bb) = true → FsClosed C) → R Jt H1 := h' θ1 H1 x1 m1
      have r2 : RepB X.K H1 O θ1 (.tup ds) v := by
        cases bb with
        | false => exact .inl r1
        | true => exact r1
      obtain ⟨pa, vs, rfl, t, p⟩ := r2.tup
      exact ⟨pa, rfl, ⟨vs, t.sq⟩, h1 _ _ walk_tup ⟨t, p⟩ closed_tup.ext fun _ => closed_tup⟩
    | str s =>
      refine .inr (.inr ⟨A, ρ, M, θ, O, rs, ?_⟩)
      rw [z]
      intro θ1 H1 x1 m1 v r1
      have h1 : ∀ Jt C, Walk X.K Jt (s.map fun c => D.str [c]) C → C H1 O θ1 → ExtClosed C → ((!bb) = true → FsClosed C) → R Jt H1 := h' θ1 H1 x1 m1
      have r2 : RepB X.K H1 O θ1 (.str s) v := by
        cases bb with
        | false => exact .inl r1
        | true => exact r1
      have ev := r2.str
      subst ev
      exact ⟨_, rfl, h1 _ _ walk_str trivial closed_true.ext fun _ => closed_true⟩
    | _ => exact (show False from h').elim
theorem pi_rng {fs : Bool} (hx : XOk J k X) (ha : PE X e (tX X.K J k W false a)) (hg : Gl X "range") (hs : starEach [e] X.env = [(false, eval e X.env)]) : PI X tg (.Call (.Name "range" p) [e] [] pos) (tI X.K J k W fs (.rng a)) := by
  refine PI.imp (pi_range1 hg (hx.blt _ (by decide)) (pa_cons ha pa_nil hs) hs) fun σ H R ⟨A, ρ, M, θ, O, rs, h⟩ => ?_
  refine tX_of rs (After.bind h) fun d1 M1 θ1 H1 x1 rs1 h1 v1 r1 => ?_
  cases d1 <;> first | exact (show False from h1).elim | skip
  rename_i j
  have h1' : After X.K J O W σ θ1 H1 (if -1000000 ≤ j ∧ j ≤ 1000000 then .ok (rngD 0 j.toNat) M1 else .stuck) _ := h1
  split at h1'
  · rename_i hj
    have e1 : v1 = .int j := r1
    subst e1
    exact ⟨j, rfl, by omega, by omega, h1' θ1 H1 (Ext.refl _ _) rs1.rm _ _ walk_rng trivial closed_true.ext fun _ => closed_true⟩
  · exact (show False from h1').elim
theorem pi_rng2 {fs : Bool} (hx : XOk J k X) (ha : PE X e (tX X.K J k W false a)) (hb : PE X e' (tX X.K J k W false b)) (hg : Gl X "range") (hs : starEach [e, e'] X.env = [(false, eval e X.env), (false, eval e' X.env)]) (hs' : starEach [e'] X.env = [(false, eval e' X.env)]) : PI X tg (.Call (.Name "range" p) [e, e'] [] pos) (tI X.K J k W fs (.rng2 a b)) := by
  refine PI.imp (pi_range2 hg (hx.blt _ (by decide)) (pa_cons ha (pa_cons hb pa_nil hs') (by rw [hs, hs'])) hs hs') fun σ H R ⟨A, ρ, M, θ, O, rs, h⟩ => ?_
  refine tX_of rs (After.bind h) fun d1 M1 θ1 H1 x1 rs1 h1 v1 r1 => tX_of rs1 (After.bind h1) fun d2 M2 θ2 H2 x2 rs2 h2 v2 r2 => ?_
  cases d1 <;> first | exact (show False from h2).elim | skip
  rename_i i
  cases d2 <;> first | exact (show False from h2).elim | skip
  rename_i j
  have h2' : After X.K J O W σ θ2 H2 (if -1000000 ≤ i ∧ i ≤ 1000000 ∧ -1000000 ≤ j ∧ j ≤ 1000000 then .ok (rngD i (j - i).toNat) M2 else .stuck) _ := h2
  split at h2'
  · rename_i hj
    have e1 : v1 = .int i := r1
    have e2 : v2 = .int j := r2
    subst e1 e2
    exact ⟨i, j, rfl, ⟨by omega, by omega, by omega, by omega⟩, h2' θ2 H2 (Ext.refl _ _) rs2.rm _ _ walk_rng trivial closed_true.ext fun _ => closed_true⟩
  · exact (show False from h2').elim
/-! ### enumerate and zip -/
theorem enumD_len : ∀ (k : Nat) (ds : List D), (enumD k ds).length = ds.length
  | _, [] => rfl
  | k, _ :: ds => by rw [enumD, List.length_cons, List.length_cons, enumD_len]
theorem enumD_get : ∀ (ds : List D) (k i : Nat) (d : D), ds[i]? = some d → (enumD k ds)[i]? = some (.tup [.int ((k + i : Nat) : Int), d])
  | [], _, _, _, h => by simp at h
  | x :: ds, k, 0, d, h => by
    have : x = d := by simpa using h
    subst this; rfl
  | x :: ds, k, i + 1, d, h => by
    rw [enumD, List.getElem?_cons_succ, enumD_get ds (k + 1) i d (by simpa using h)]
    have : k + 1 + i = k + (i + 1) := by omega
    rw [this]
theorem zipD_len : ∀ (xs ys : List D), (zipD xs ys).length = min xs.length ys.length
  | [], _ => by simp [zipD]
  | _ :: _, [] => by simp [zipD]
  | x :: xs, y :: ys => by rw [zipD, List.length_cons, List.length_cons, List.length_cons, zipD_len]; omega
theorem zipD_get : ∀ (xs ys : List D) (i : Nat) (x y : D), xs[i]? = some x → ys[i]? = some y → (zipD xs ys)[i]? = some (.tup [x, y])
  | [], _, _, _, _, h, _ => by simp at h
  | _ :: _, [], _, _, _, _, h => by simp at h
  | x :: xs, y :: ys, 0, a, b, h1, h2 => by
    have e1 : x = a := by simpa using h1
    have e2 : y = b := by simpa using h2
    subst e1 e2; rfl
  | x :: xs, y :: ys, i + 1, a, b, h1, h2 => by
    rw [zipD, List.getElem?_cons_succ]
    exact zipD_get xs ys i a b (by simpa using h1) (by simpa using h2)
theorem walk_enumX {K : PySem.W.Frag} {q : Src} {vs : List V} {ds : List D} {C : Hp → OSet → List Addr → Prop} (hC : ∀ H O θ, C H O θ → q.sq K H vs ∧ Reps K H O θ ds vs) : Walk K (IteX K q) (enumD 0 ds) C where
  go := fun H O θ i c h => by
    obtain ⟨h1, h2⟩ := hC H O θ c
    rw [enumD_len, h2.length] at h
    exact ⟨vs, vs[i], h1, List.getElem?_eq_getElem h⟩
  stop := fun H O θ i c h => by
    obtain ⟨h1, h2⟩ := hC H O θ c
    rw [enumD_len, h2.length] at h
    exact ⟨vs, h1, h⟩
  yld := fun H O θ i x H' c t hi y => by
    obtain ⟨h1, h2⟩ := hC H O θ c
    rw [enumD_len] at hi
    obtain ⟨T, xv, rfl, hT, rfl, hx⟩ := y
    obtain ⟨v, e, r⟩ := h2.get (List.getElem?_eq_getElem hi)
    have := hx vs h1
    rw [e] at this; cases this
    refine ⟨sm_upd hT, _, enumD_get ds 0 i _ (List.getElem?_eq_getElem hi), ?_⟩
    rw [Nat.zero_add]
    exact rep_new_tup t hT ⟨_, _, rfl, rfl, xv, [], rfl, r, rfl⟩
theorem walk_zipX {K : PySem.W.Frag} {q q' : Src} {vs ws : List V} {ds es : List D} {C : Hp → OSet → List Addr → Prop} (hC : ∀ H O θ, C H O θ → (q.sq K H vs ∧ Reps K H O θ ds vs) ∧ q'.sq K H ws ∧ Reps K H O θ es ws) : Walk K (ItzX K q q') (zipD ds es) C where
  go := fun H O θ i c h => by
    obtain ⟨⟨h1, h2⟩, h3, h4⟩ := hC H O θ c
    rw [zipD_len, h2.length, h4.length] at h
    exact ⟨vs, ws, vs[i], ws[i], h1, h3, List.getElem?_eq_getElem (by omega), List.getElem?_eq_getElem (by omega)⟩
  stop := fun H O θ i c h => by
    obtain ⟨⟨h1, h2⟩, h3, h4⟩ := hC H O θ c
    rw [zipD_len, h2.length, h4.length] at h
    exact ⟨vs, ws, h1, h3, h⟩
  yld := fun H O θ i x H' c t hi y => by
    obtain ⟨⟨h1, h2⟩, h3, h4⟩ := hC H O θ c
    rw [zipD_len] at hi
    obtain ⟨T, xv, yv, rfl, hT, rfl, hx, hy⟩ := y
    have i1 : i < ds.length := by omega
    have i2 : i < es.length := by omega
    obtain ⟨v, e, r⟩ := h2.get (List.getElem?_eq_getElem i1)
    obtain ⟨v', e', r'⟩ := h4.get (List.getElem?_eq_getElem i2)
    have a1 := hx vs h1
    rw [e] at a1; cases a1
    have a2 := hy ws h3
    rw [e'] at a2; cases a2
    exact ⟨sm_upd hT, _, zipD_get ds es i _ _ (List.getElem?_eq_getElem i1) (List.getElem?_eq_getElem i2), rep_new_tup t hT ⟨_, _, rfl, r, yv, [], rfl, r', rfl⟩⟩
theorem reps_chars {K : PySem.W.Frag} {H : Hp} {O : OSet} {θ : List Addr} : ∀ s : List Nat, Reps K H O θ (s.map fun c => D.str [c]) (s.map fun c => V.str ⟨#[c]⟩)
  | [] => rfl
  | c :: s => ⟨_, _, rfl, rfl, reps_chars s⟩
/-- what a value may be drawn from -/
theorem source {K : PySem.W.Frag} {H : Hp} {O : OSet} {θ : List Addr} {bb : Bool} {d : D} {v : V} {ds : List D} (r : RepQ bb K H O θ d v) (e : itemsOf d = some ds) :
    ∃ (mk : Tok → Src) (vs : List V) (C : Hp → OSet → List Addr → Prop), SrcOf v mk ∧ C H O θ ∧ (∀ t H O θ, C H O θ → (mk t).sq K H vs ∧ Reps K H O θ ds vs) ∧ ExtClosed C ∧ ((!bb) = true → FsClosed C) := by
  have lst : ∀ a vs, v = .ref a → LstAt H O θ a vs → Reps K H O θ ds vs → ∃ (mk : Tok → Src) (vs : List V) (C : Hp → OSet → List Addr → Prop), SrcOf v mk ∧ C H O θ ∧ (∀ t H O θ, C H O θ → (mk t).sq K H vs ∧ Reps K H O θ ds vs) ∧ ExtClosed C ∧ ((!bb) = true → FsClosed C) := fun a vs ev t p => by
    subst ev
    exact ⟨fun _ => .L a, vs, _, fun u ru => ⟨0, ru.symm⟩, ⟨t, p⟩, fun _ H O θ c => ⟨c.1.sq, c.2⟩, closed_lst.ext, fun _ => closed_lst⟩
  cases d <;> first | cases e | skip
  · rename_i s
    have ev : v = sV s := by
      cases bb with
      | false => exact r
      | true => exact RepB.str r
    subst ev
    refine ⟨fun t => .S ⟨s.toArray⟩ t, s.map fun c => V.str ⟨#[c]⟩, fun _ _ _ => True, fun u ⟨t, eu⟩ => ⟨t, eu.symm⟩, trivial, fun t H O θ _ => ⟨?_, reps_chars s⟩, closed_true.ext, fun _ => closed_true⟩
    show _ = _
    simp
  · have r2 : RepB K H O θ (.tup ds) v := by
      cases bb with
      | false => exact .inl r
      | true => exact r
    obtain ⟨pa, vs, rfl, t, p⟩ := r2.tup
    exact ⟨fun _ => .T pa, vs, _, fun u ru => ⟨0, ru.symm⟩, ⟨t, p⟩, fun _ H O θ c => ⟨c.1.sq, c.2⟩, closed_tup.ext, fun _ => closed_tup⟩
  · cases bb with
    | false =>
      obtain ⟨pa, vs, ev, t, p⟩ := (show Rep K H O θ (.lst ds) v from r)
      exact lst pa vs ev t p
    | true =>
      rcases (show RepB K H O θ (.lst ds) v from r) with ⟨pa, vs, ev, t, p⟩ | ⟨ys, pa, vs, ex, ev, e3, n, p⟩
      · exact lst pa vs ev t p
      · cases ex
        subst ev
        exact ⟨fun _ => .L pa, vs, _, fun u ru => ⟨0, ru.symm⟩, ⟨⟨e3, n⟩, p⟩, fun _ H O θ c => ⟨SqL.of c.1.1, c.2⟩, closed_own, fun q => by cases q⟩
theorem pi_d_enum {bb : Bool} {elts : List Expr} {kk : Nat} {tpos : Pos} (hx : XOk J k X) (ha : PE X e (tX X.K J k W bb a)) (hg : Gl X "enumerate") (hs : starEach [e] X.env = [(false, eval e X.env)]) : PI X (.Tuple elts kk tpos) (.Call (.Name "enumerate" p) [e] [] pos) (tI X.K J k W (!bb) (.enum a)) := by
  refine PI.imp (pi_enumX hg (hx.blt _ (by decide)) (pa_cons ha pa_nil hs) hs) fun σ H R ⟨A, ρ, M, θ, O, rs, h⟩ => ?_
  refine tX_of rs (After.bind h) fun d1 M1 θ1 H1 x1 rs1 h1 v1 r1 => ?_
  have h1' : After X.K J O W σ θ1 H1 (match itemsOf d1 with
    | some xs => .ok (enumD 0 xs) M1
    | none => .stuck) _ := h1
  cases z : itemsOf d1 with
  | none => rw [z] at h1'; exact (show False from h1').elim
  | some ds =>
    rw [z] at h1'
    obtain ⟨mk, vs, C, so, c0, hC, ec, fc⟩ := source r1 z
    exact ⟨v1, mk, vs, rfl, so, fun t => (hC t _ _ _ c0).1, fun t => h1' θ1 H1 (Ext.refl _ _) rs1.rm _ C (walk_enumX (hC t)) c0 ec fc⟩
theorem both_closed {C C' : Hp → OSet → List Addr → Prop} (h : ExtClosed C) (h' : ExtClosed C') : ExtClosed (fun H O θ => C H O θ ∧ C' H O θ) := fun H O θ H' O' θ' c x o => ⟨h H O θ H' O' θ' c.1 x o, h' H O θ H' O' θ' c.2 x o⟩
theorem both_fs {C C' : Hp → OSet → List Addr → Prop} (h : FsClosed C) (h' : FsClosed C') : FsClosed (fun H O θ => C H O θ ∧ C' H O θ) := fun H O θ H' O' θ' c x => ⟨h H O θ H' O' θ' c.1 x, h' H O θ H' O' θ' c.2 x⟩
theorem RepQ.ext {bb : Bool} {K : PySem.W.Frag} {O : OSet} {θ θ' : List Addr} {H H' : Hp} {d : D} {v : V} (h : RepQ bb K H O θ d v) (x : Ext θ θ' H H') : RepQ bb K H' O θ' d v := by
  cases bb with
  | false => exact Rep.ext h x
  | true => exact RepB.ext h x
theorem pi_d_zip {bb : Bool} {elts : List Expr} {kk : Nat} {tpos : Pos} (hx : XOk J k X) (ha : PE X e (tX X.K J k W bb a)) (hb : PE X e' (tX X.K J k W bb b)) (hg : Gl X "zip") (hs : starEach [e, e'] X.env = (false, eval e X.env) :: starEach [e'] X.env) (hs' : starEach [e'] X.env = [(false, eval e' X.env)]) (hpl : (backTo pos (starEach [e'] X.env)).any (·.1) = false) :
    PI X (.Tuple elts kk tpos) (.Call (.Name "zip" p) [e, e'] [] pos) (tI X.K J k W (!bb) (.zip a b)) := by
  refine PI.imp (pi_zipX hg (hx.blt _ (by decide)) (pa_cons ha (pa_cons hb pa_nil hs') hs) hs hpl) fun σ H R ⟨A, ρ, M, θ, O, rs, h⟩ => ?_
  refine tX_of rs (After.bind h) fun d1 M1 θ1 H1 x1 rs1 h1 v1 r1 => tX_of rs1 (After.bind h1) fun d2 M2 θ2 H2 x2 rs2 h2 v2 r2 => ?_
  have h2' : After X.K J O W σ θ2 H2 (match itemsOf d1 with
    | some xs => match itemsOf d2 with
      | some ys => .ok (zipD xs ys) M2
      | none => .stuck
    | none => .stuck) _ := h2
  cases z : itemsOf d1 with
  | none => rw [z] at h2'; exact (show False from h2').elim
  | some ds =>
    rw [z] at h2'
    cases z2 : itemsOf d2 with
    | none => rw [z2] at h2'; exact (show False from h2').elim
    | some es =>
      rw [z2] at h2'
      obtain ⟨mk, vs, C, so, c0, hC, ec, fc⟩ := source (RepQ.ext r1 x2) z
      obtain ⟨mk', vs', C', so', c0', hC', ec', fc'⟩ := source r2 z2
      exact ⟨v1, v2, mk, mk', vs, vs', rfl, so, so', fun t => (hC t _ _ _ c0).1, fun t => (hC' t _ _ _ c0').1, fun t t' => h2' θ2 H2 (Ext.refl _ _) rs2.rm _ _ (walk_zipX fun H O θ c => ⟨hC t H O θ c.1, hC' t' H O θ c.2⟩) ⟨c0, c0'⟩ (both_closed ec ec') fun f => both_fs (fc f) (fc' f)⟩
end
end RC

set_option Elab.async false
set_option linter.all false
set_option autoImplicit false
set_option maxRecDepth 100000
set_option maxHeartbeats 1000000
namespace RC
open PySem PySem.Spec PyProof.Rows L2
variable [LX]
theorem RM.th {H : Hp} {O : OSet} {θ : List Addr} {M : Store} (m : RM H O θ M) {p : Addr} (h : p ∈ θ) : ∃ xs, H p = some (.lst xs) := by
  obtain ⟨n, hn, e⟩ := List.getElem_of_mem h
  have hn' : n < M.length := by rw [← m.len]; exact hn
  exact ⟨_, m.at_ n p M[n] (by rw [List.getElem?_eq_getElem hn, e]) (List.getElem?_eq_getElem hn')⟩
theorem Ext.nn_of {θ θ' : List Addr} {H H' : Hp} {O : OSet} {M : Store} {p : Addr} (x : Ext θ θ' H H') (m : RM H' O θ' M) (h : Nn H' p) : Nn H p := fun o t e => by
  by_cases hin : p ∈ θ
  · obtain ⟨u, e⟩ := m.th (x.pre.subset hin)
    exact h _ (nt_lst _) e
  · exact h o t (x.keep p o t hin e)
theorem Ext.none_of {θ θ' : List Addr} {H H' : Hp} {O : OSet} {M : Store} {p : Addr} (x : Ext θ θ' H H') (m : RM H' O θ' M) (h : H' p = none) : Nn H p := x.nn_of m (nn_none h)
theorem RS.extO {K : PySem.W.Frag} {A : Anc} {H H' : Hp} {O O' : OSet} {σ : L2.St} {ρ : RC.Env} {θ θ' : List Addr} {M M' : Store} (r : RS K A H O σ ρ θ M) (x : Ext θ θ' H H') (m : RM H' O' θ' M') (h1 : ∀ a, O' a → O a ∨ Nn H a) (h2 : ∀ a, O a → O' a) : RS K A H' O' σ ρ θ' M' where
  rm := m
  env := fun i d e => by
    obtain ⟨v, a1, a2⟩ := r.env i d e
    exact ⟨v, a1, Rep.stays (x.fs h1).stays _ _ a2⟩
  own := fun i xs e => by
    obtain ⟨a, vs, a1, a2, a3, a4, a5⟩ := r.own i xs e
    exact ⟨a, vs, a1, x.keep a _ (nt_lst _) (fun z => r.rm.noO a z a4) a2, Reps.stays (x.fs h1).stays _ _ a3, h2 a a4, a5⟩
  fun_ := fun i e => by
    obtain ⟨f, c, q, a1, a2, a3⟩ := r.fun_ i e
    exact ⟨f, c, q, a1, a2, (x.fs h1).keep c _ (nt_ext _) a3.1 a3.2.1 a3.2.2⟩
  onew := fun a h => (h1 a h).elim (fun q => r.onew a q) fun q => .inr (r.anc.nn_of r.rm q)
  dis := r.dis
  sub := fun a h => h2 a (r.sub a h)
  anc := r.anc.trans x
  otr := r.otr
  len := r.len
/-- an own object is changed: nothing frozen is -/
theorem stays_put {K : PySem.W.Frag} {H : Hp} {O : OSet} {θ : List Addr} {p : Addr} {o : HO} (h : O p) : Stays K H (upd H p o) O O θ θ where
  tup := fun a vs t => by
    rcases t with ⟨r, n, m⟩ | t
    · have hne : a ≠ p := fun z => n (z ▸ h)
      refine .inl ⟨?_, n, m⟩
      rcases r with e | ⟨ob, e⟩
      · exact .inl (by rw [upd_ne hne]; exact e)
      · exact .inr ⟨ob, by rw [upd_ne hne]; exact e⟩
    · exact .inr t
  lst := fun a vs t => by
    obtain ⟨r, n, m⟩ := t
    have hne : a ≠ p := fun z => n (z ▸ h)
    refine ⟨?_, n, m⟩
    rcases r with e | ⟨ob, e⟩
    · exact .inl (by rw [upd_ne hne]; exact e)
    · exact .inr ⟨ob, by rw [upd_ne hne]; exact e⟩
  dct := fun a t => by
    obtain ⟨r, n, m⟩ := t
    have hne : a ≠ p := fun z => n (z ▸ h)
    refine ⟨?_, n, m⟩
    rcases r with e | ⟨ob, e⟩
    · exact .inl (by rw [upd_ne hne]; exact e)
    · exact .inr ⟨ob, by rw [upd_ne hne]; exact e⟩
  obj := fun a o' _ t => by
    have hne : a ≠ p := fun z => t.2.1 (z ▸ h)
    exact ⟨by rw [upd_ne hne]; exact t.1, t.2.1, t.2.2⟩
  pre := List.prefix_refl _
theorem RM.put {H : Hp} {O : OSet} {θ : List Addr} {M : Store} {p : Addr} {o : List V} (m : RM H O θ M) (h : O p) : RM (upd H p (.lst o)) O θ M :=
  ⟨m.len, m.nd, fun n a ns e1 e2 => by
    have hm : a ∈ θ := List.mem_of_getElem? e1
    have hne : a ≠ p := fun z => m.noO a hm (by rw [z]; exact h)
    rw [upd_ne hne]
    exact m.at_ n a ns e1 e2, m.noO, fun a ha => by
    by_cases z : a = p
    · subst z; exact ⟨_, upd_same⟩
    · rw [upd_ne z]; exact m.otr a ha, (m.otr p h).elim fun xs e => tabs_put m.tab e⟩
/-- tests of a comprehension -/
def tCs (K : PySem.W.Frag) (J : Inf) (k : Nat) (W : WX) (cs : Es) : TT := fun σ H Q => ∃ A ρ M θ O, RS K A H O σ ρ θ M ∧ After K J O W σ θ H (evc (J.cfg k) cs ρ M) fun b _ _ H' => Q b H'
abbrev W0 : WX := fun _ _ _ _ => False
theorem lc_first {step : D → Store → Res (Option D)} {d : D} {ds : List D} {M : Store} {ys : List D} {Mf : Store} (h : lcLoop step (d :: ds) M = .ok ys Mf) : ∃ o M1 r, step d M = .ok o M1 ∧ lcLoop step ds M1 = .ok r Mf ∧ ys = (consO o r) := by
  have h' : ((step d M).bind fun o M1 => (lcLoop step ds M1).bind fun r M2 => .ok (consO o r) M2) = .ok ys Mf := h
  cases z : step d M with
  | ok o M1 =>
    rw [z] at h'
    have h2 : ((lcLoop step ds M1).bind fun r M2 => .ok (consO o r) M2) = Res.ok ys Mf := h'
    cases z2 : lcLoop step ds M1 with
    | ok r M2 =>
      rw [z2] at h2
      cases h2
      exact ⟨o, M1, r, rfl, z2, rfl⟩
    | exc _ _ _ => rw [z2] at h2; cases h2
    | stuck => rw [z2] at h2; cases h2
  | exc _ _ _ => rw [z] at h'; cases h'
  | stuck => rw [z] at h'; cases h'
section
variable {X : Cx} {J : Inf} {k : Nat} {W : WX}
theorem lc_rule {tg : Tg} {it : RC.It} {cs : Es} {elt : E} {fs : Bool} {σ : L2.St} {H : Hp} {Q : VK} (h : tN X.K J k W (.lc tg it cs elt) σ H Q) :
    tLc (tI X.K J k W fs it) (gX X.K tg) (tCs X.K J k W0 cs) (tX X.K J k W0 false elt) (tgSlots tg) σ H Q := by
  obtain ⟨A, ρ, M, θ, O, rs, h⟩ := h
  refine ⟨A, ρ, M, θ, O, rs, ?_⟩
  generalize hstep : (fun (d : D) (M2 : Store) => match bindT tg d (wipeE ρ (tgSlots tg)) with
        | none => Res.stuck
        | some ρ' => (evc (J.cfg k) cs ρ' M2).bind fun b M3 => if b then (ev (J.cfg k) elt ρ' M3).bind fun y M4 => .ok (some y) M4 else .ok none M3) = step
  have e0 : ev (J.cfg k) (.lc tg it cs elt) ρ M = (evi (J.cfg k) it ρ M).bind fun ds M1 => if ds.length ≤ SZ then (lcLoop step ds M1).quiet.bind fun ys M2 => .ok (.lst ys) M2 else .stuck := by
    rw [← hstep]; rfl
  rw [e0] at h
  cases z : evi (J.cfg k) it ρ M with
  | stuck => rw [z] at h; exact h.elim
  | exc c x M1 => rw [z] at h; exact h
  | ok ds M1 =>
    rw [z] at h
    simp only [Res.bind_ok] at h
    by_cases hsz : ds.length ≤ SZ
    · rw [if_pos hsz] at h
      cases zl : lcLoop step ds M1 with
      | stuck => rw [zl] at h; exact h.elim
      | exc _ _ _ => rw [zl] at h; exact h.elim
      | ok ys Mf =>
        rw [zl] at h
        obtain ⟨xs, ex, h⟩ := h
        cases ex
        intro θ1 H1 x1 m1 Jt C wk c1 ec _ D hD
        have hOD : ∀ a, (O a ∨ a = D) → O a ∨ Nn H1 a := fun a ha => ha.elim .inl fun e => .inr (by rw [e]; exact nn_none hD)
        have hOD0 : ∀ a, (O a ∨ a = D) → O a ∨ Nn H a := fun a ha => ha.elim .inl fun e => .inr (by rw [e]; exact x1.none_of m1 hD)
        refine ⟨fun i m H2 => m = ds.length - i ∧ i ≤ ds.length ∧ ∃ θ2 M2 ys1 vs1 rest, lcLoop step (ds.drop i) M2 = .ok rest Mf ∧ ys = ys1 ++ rest ∧ ys1.length ≤ i ∧ Ext θ1 θ2 H1 H2 ∧ H2 D = some (.lst vs1) ∧ Reps X.K H2 (fun a => O a ∨ a = D) θ2 ys1 vs1 ∧ RM H2 (fun a => O a ∨ a = D) θ2 M2 ∧ D ∉ θ2,
          ⟨ds.length, by simp, Nat.zero_le _, θ1, M1, [], [], ys, by rw [List.drop_zero]; exact zl, rfl, Nat.le_refl _, sm_ext (sm_upd hD) θ1, upd_same, rfl, m1.own hD, (m1.tr.new hD).2⟩, ?_⟩
        rintro i m H2 ⟨rfl, hi, θ2, M2, ys1, vs1, rest, hl, ey, hy, x2, hv, rp, m2, nD⟩
        have C2 := ec H1 O θ1 H2 (fun a => O a ∨ a = D) θ2 c1 x2 hOD
        by_cases hlt : i < ds.length
        · refine .inr ⟨wk.go _ _ _ _ C2 hlt, fun H' => i + 1 ≤ ds.length ∧ ∃ θ2 M2 ys1 vs1 rest, lcLoop step (ds.drop (i + 1)) M2 = .ok rest Mf ∧ ys = ys1 ++ rest ∧ ys1.length ≤ i + 1 ∧ Ext θ1 θ2 H1 H' ∧ H' D = some (.lst vs1) ∧ Reps X.K H' (fun a => O a ∨ a = D) θ2 ys1 vs1 ∧ RM H' (fun a => O a ∨ a = D) θ2 M2 ∧ D ∉ θ2,
            fun H' n => ⟨ds.length - (i + 1), by omega, rfl, n.1, n.2⟩, fun x H3 y => ?_⟩
          obtain ⟨sm, d, hd, rd⟩ := wk.yld H2 _ θ2 i x H3 C2 m2.tr hlt y
          have ed : ds.drop i = d :: ds.drop (i + 1) := by
            rw [List.drop_eq_getElem_cons hlt]
            rw [List.getElem?_eq_getElem hlt] at hd
            cases hd; rfl
          rw [ed] at hl
          obtain ⟨o, M3, rest', hs, hl', er⟩ := lc_first hl
          rw [← hstep] at hs
          simp only at hs
          cases zb : bindT tg d (wipeE ρ (tgSlots tg)) with
          | none => rw [zb] at hs; cases hs
          | some ρ' =>
            rw [zb] at hs
            simp only at hs
            have m3 : RM H3 (fun a => O a ∨ a = D) θ2 M2 := sm_rm sm m2
            have x3 : Ext θ1 θ2 H1 H3 := x2.trans (sm_ext sm θ2)
            have rs2 : RS X.K A H3 (fun a => O a ∨ a = D) (wipe σ (tgSlots tg)) (wipeE ρ (tgSlots tg)) θ2 M2 := (rs.extO (x1.trans x3) m3 hOD0 fun a h => .inl h).wipe _
            refine ⟨A, _, M2, θ2, _, d, ρ', rs2, rd, zb, fun σ2 only rs3 => ⟨only.wipe.trans (onlyAt_wipe _ _).wipe, A, ρ', M2, θ2, _, rs3, ?_⟩⟩
            cases zc : evc (J.cfg k) cs ρ' M2 with
            | exc _ _ _ => rw [zc] at hs; cases hs
            | stuck => rw [zc] at hs; cases hs
            | ok t M4 =>
              rw [zc] at hs
              simp only [Res.bind_ok] at hs
              intro θ4 H5 x5 m5
              have nD4 : D ∉ θ4 := x5.notIn (nt_lst _) (sm D _ hv) nD
              cases t with
              | false =>
                simp only [Bool.false_eq_true, if_false] at hs ⊢
                cases hs
                exact ⟨hlt, θ4, _, ys1, vs1, rest', hl', by rw [ey, er]; rfl, by omega, x3.trans x5, x5.keep D _ (nt_lst _) nD (sm D _ hv), (rp.same sm).ext x5, m5, nD4⟩
              | true =>
                simp only [if_true] at hs ⊢
                cases ze : ev (J.cfg k) elt ρ' M4 with
                | exc _ _ _ => rw [ze] at hs; cases hs
                | stuck => rw [ze] at hs; cases hs
                | ok y' M5 =>
                  rw [ze] at hs
                  simp only [Res.bind_ok] at hs
                  cases hs
                  refine ⟨A, ρ', M4, θ4, _, rs3.ext x5 m5, ?_⟩
                  rw [ze]
                  intro θ5 H6 x6 m6 v rv
                  have rv : Rep X.K H6 (fun a => O a ∨ a = D) θ5 y' v := rv
                  have hD6 : H6 D = some (.lst vs1) := x6.keep D _ (nt_lst _) nD4 (x5.keep D _ (nt_lst _) nD (sm D _ hv))
                  have nD5 : D ∉ θ5 := x6.notIn (nt_lst _) (x5.keep D _ (nt_lst _) nD (sm D _ hv)) nD4
                  have hl1 := rp.length
                  refine ⟨vs1, hD6, by rw [← hl1, ← SZ_line]; omega, hlt, θ5, _, ys1 ++ [y'], vs1 ++ [v], rest', hl', by rw [ey, er]; simp [consO], by simp; omega, ?_, upd_same, ?_, m6.put (.inr rfl), nD5⟩
                  · have xx := (x3.trans x5).trans x6
                    exact ⟨xx.pre, fun a o t n e => by rw [upd_ne (ne_of_none e hD)]; exact xx.keep a o t n e, xx.fresh⟩
                  · exact Reps.stays (stays_put (.inr rfl)) _ _ ((((rp.same sm).ext x5).ext x6).append (Reps.one rv))
        · have ei : i = ds.length := by omega
          subst ei
          rw [List.drop_length] at hl
          cases hl
          rw [List.append_nil] at ey
          subst ey
          exact .inl ⟨wk.stop _ _ _ _ C2 rfl, h θ2 H2 D vs1 (x1.trans x2) (x1.none_of m1 hD) hv nD m2 rp⟩
    · rw [if_neg hsz] at h; exact h.elim
theorem pn_lc {t i l : Expr} {ifs : List Expr} {scope : Scope} {own : List (Str × Nat)} {pos : Pos} {tg : Tg} {it : RC.It} {cs : Es} {elt : E} {fs : Bool} (hx : XOk J k X) (hi : PI X t i (tI X.K J k W fs it)) (ok : BlkOk X.N X.env.scope scope own) (eo : own.map (·.2) = tgSlots tg)
    (hg : ∀ (s : Shared) (H : Hp) (C : Addr) (cl : List (Str × Addr)) (fp : List Addr), PG (X.blk s H scope (compEnvC scope cl C X.env) fp) t (gX X.K tg)) (ht : ∀ (s : Shared) (H : Hp) (C : Addr) (cl : List (Str × Addr)) (fp : List Addr), PTs (X.blk s H scope (compEnvC scope cl C X.env) fp) ifs (tCs X.K J k W0 cs))
    (he : ∀ (s : Shared) (H : Hp) (C : Addr) (cl : List (Str × Addr)) (fp : List Addr), PE (X.blk s H scope (compEnvC scope cl C X.env) fp) l (tX X.K J k W0 false elt)) (hs : ∀ x, foldedSetIterable i X.env x = pure x) :
    PE X (.ListComp l [⟨t, i, ifs, 0⟩] scope pos) (tN X.K J k W (.lc tg it cs elt)) := by
  have q := pe_lc (pos := pos) hx.calm hx.nd hi ok hg ht he hs
  rw [eo] at q
  exact PE.imp q fun σ H Q h => lc_rule h
end
end RC

set_option Elab.async false
set_option linter.all false
set_option autoImplicit false
set_option maxRecDepth 100000
set_option maxHeartbeats 2000000
namespace RC
open PySem PySem.Spec PyProof.Rows L2
variable [LX]
/-! ### what the checker has seen -/
def notStar : Expr → Bool
  | .Starred _ _ => false
  | _ => true
theorem chkE_star {S : Sg} {b : Bool} {e : E} {sc : Scope} {x : Expr} (h : chkE S b e sc x = true) : notStar x = true := by
  cases x <;> first | rfl | skip
  cases e <;> cases h
theorem star_of {x : Expr} {xs : List Expr} {env : PySem.Env} (h : notStar x = true) : starEach (x :: xs) env = (false, eval x env) :: starEach xs env := by
  cases x <;> first | rfl | cases h
theorem stars_of {env : PySem.Env} {pos : Pos} {S : Sg} {b : Bool} {sc : Scope} : ∀ {es : Es} {xs : List Expr}, chkEs S b es sc xs = true → (backTo pos (starEach xs env)).any (·.1) = false
  | .nil, xs, h => by
    cases xs with
    | nil => rfl
    | cons _ _ => cases h
  | .cons a r, xs, h => by
    cases xs with
    | nil => cases h
    | cons x xs =>
      have h' : (chkE S b a sc x && chkEs S b r sc xs) = true := h
      rw [Bool.and_eq_true] at h'
      rw [star_of (chkE_star h'.1)]
      show (false || (backTo pos (starEach xs env)).any (·.1)) = false
      rw [stars_of h'.2]; rfl
def plainB : Expr → Bool
  | .UnaryOp .Not _ _ => false
  | .BoolOp _ _ _ => false
  | .IfExp _ _ _ _ => false
  | .Compare _ _ _ _ => false
  | _ => true
theorem test_plain {x : Expr} {env : PySem.Env} (h : plainB x = true) : ∀ whole, isTrue x env whole = (do let v ← whole; standAt x.pos; holding [v] (truthy v)) := by
  intro whole
  cases x <;> first | rfl | cases h | skip
  rename_i op _ _
  cases op <;> first | rfl | cases h
theorem base_of {o : Expr} {name : Str} {env : PySem.Env} (h : baseB o = true) : attributeBase o name env (eval o env) = eval o env := by
  cases o <;> first | rfl | skip
  rename_i f as ks p
  cases f <;> first | rfl | skip
  cases as with
  | cons _ _ => rfl
  | nil =>
    cases ks with
    | cons _ _ => rfl
    | nil => cases h
theorem plainIx_of {r : Expr} (h : notSlice r = true) : PlainIx r := by
  intro o i
  cases r <;> first | rfl | cases h
theorem folded_of {e : Expr} {env : PySem.Env} (h : notSet e = true) : ∀ x, foldedSetIterable e env x = pure x := by
  intro x
  cases e <;> first | rfl | cases h
theorem marks_of {op : CmpOp} {e : Expr} (h : notSet e = true) : behindInMarks op e = false := by
  cases e <;> first | rfl | cases h
theorem visB_ok {sc : Scope} {x : Str} (h : visB sc x = true) : Vis sc x := by
  unfold visB at h
  split at h
  · exact .inl (by assumption)
  · exact .inr (.inl (by assumption))
  · exact .inr (.inr (by assumption))
  · cases h
theorem plainName_ok {x : Str} (h : plainName x = true) : (x == ("__debug__" : Str)) = false ∧ (x == ("__classdict__" : Str)) = false ∧ x ≠ "__name__" := by
  unfold plainName at h
  rw [Bool.and_eq_true, Bool.and_eq_true] at h
  obtain ⟨⟨h1, h2⟩, h3⟩ := h
  refine ⟨by simpa using h1, by simpa using h2, fun z => ?_⟩
  subst z
  cases h3
theorem varB_ok {S : Sg} {sc : Scope} {i : Nat} {x : Str} (h : varB S sc i x = true) : S.N[i]? = some x ∧ Vis sc x ∧ (x == ("__debug__" : Str)) = false ∧ (x == ("__classdict__" : Str)) = false := by
  unfold varB at h
  rw [Bool.and_eq_true, Bool.and_eq_true] at h
  obtain ⟨⟨h1, h2⟩, h3⟩ := h
  exact ⟨of_decide_eq_true h1, visB_ok h2, (plainName_ok h3).1, (plainName_ok h3).2.1⟩
theorem globB_ok {sc : Scope} {x : Str} (h : globB sc x = true) : sc.names.lookup x = some .globalImplicit := of_decide_eq_true h
/-- a comprehension's block -/
theorem xok_blk {J : Inf} {k : Nat} {X : Cx} {scope : Scope} {own : List (Str × Nat)} (hx : XOk J k X) (ok : BlkOk X.N X.env.scope scope own) (s : Shared) (H : Hp) (C : Addr) (cl : List (Str × Addr)) (fp : List Addr) : XOk J.off k (X.blk s H scope (compEnvC scope cl C X.env) fp) :=
  ⟨hx.calm, hx.nd, ok.kind, hx.room, hx.gd, hx.rp, hx.fns, hx.blt, hx.gls, hx.sl, hx.isa, hx.fld, hx.cls, (fun z => by cases z), (fun z => by cases z), hx.key⟩
theorem blk_loc {X : Cx} {scope : Scope} (s : Shared) (H : Hp) (C : Addr) (cl : List (Str × Addr)) (fp : List Addr) : ∀ x, locB scope x = true → Loc (X.blk s H scope (compEnvC scope cl C X.env) fp).env.scope x ∧ ((X.blk s H scope (compEnvC scope cl C X.env) fp).fn x = true ∨ (X.blk s H scope (compEnvC scope cl C X.env) fp).env.scope.names.lookup x = some .local) := by
  intro x h
  rcases locB_ok h with z | z
  · have := lookup_relS_keep (sc := X.env.scope) (k := .local) (by decide) z
    exact ⟨.inl this, .inr this⟩
  · have := lookup_relS_keep (sc := X.env.scope) (k := .cell) (by decide) z
    refine ⟨.inr this, .inl ?_⟩
    show (scope.names.lookup x == some NameKind.cell) = true
    rw [z]; rfl
theorem ev_lc_lst {cf : Cfg} {tg : Tg} {it : RC.It} {cs : Es} {elt : E} {ρ : RC.Env} {M : Store} {d : D} {M' : Store} (h : ev cf (.lc tg it cs elt) ρ M = .ok d M') : ∃ xs, d = .lst xs := by
  rw [ev] at h
  cases z : evi cf it ρ M with
  | ok ds M1 =>
    rw [z] at h
    simp only [Res.bind_ok] at h
    split at h
    · rename_i hh
      generalize (Res.quiet _ : Res (List D)) = q at h
      cases q with
      | ok ys M2 => cases h; exact ⟨_, rfl⟩
      | exc _ _ _ => cases h
      | stuck => cases h
    · cases h
  | exc _ _ _ => rw [z] at h; cases h
  | stuck => rw [z] at h; cases h
theorem ev_lst_lst {cf : Cfg} {es : Es} {ρ : RC.Env} {M : Store} {d : D} {M' : Store} (h : ev cf (.lst es) ρ M = .ok d M') : ∃ xs, d = .lst xs := by
  rw [ev] at h
  cases z : evs cf es ρ M with
  | ok ds M1 => rw [z] at h; cases h; exact ⟨_, rfl⟩
  | exc _ _ _ => rw [z] at h; cases h
  | stuck => rw [z] at h; cases h
section
variable {J : Inf} {k : Nat}
theorem opr_ok {X : Cx} {o : BO} {op : Operator} (h : boB o op = true) : OpR X (binaryOp op) (rOp X.K (binF o)) := by
  cases o <;> cases op <;> first | cases h | skip
  · exact opr_add
  · exact opr_sub
  · exact opr_mul
  · exact opr_fdiv
  · exact opr_mod
  · exact opr_pow
  · exact opr_shl
  · exact opr_shr
theorem cmp_ok {X : Cx} {o : CO} {op : CmpOp} (hx : XOk J k X) (h : coB o op = true) : OpR X (compareOp op) (rCmp X.K (cmpF o)) := by
  have hu : X.A.units + 65 < cLine := by have := hx.room.un; omega
  cases o <;> cases op <;> first | cases h | skip
  · exact cmp_eq (by omega)
  · exact cmp_ne (by omega)
  · exact cmp_lt (by omega)
  · exact cmp_le (by omega)
  · exact cmp_gt
  · exact cmp_ge
  · exact cmp_is
  · exact cmp_isnot
  · exact cmp_in hu
  · exact cmp_notin hu
theorem bi_ok {X : Cx} {W : WX} {bb : Bool} {bi : Bi} {y : Str} {e : Expr} {es : List Expr} {xs : Es} {p pos : Pos} (hx : XOk J k X) (h : biName bi = some y) (hg : Gl X y) (ha : PA X (e :: es) (tXs X.K J k W true xs))
    (he : starEach (e :: es) X.env = (false, eval e X.env) :: starEach es X.env) (hpl : (backTo pos (starEach es X.env)).any (·.1) = false) : PE X (.Call (.Name y p) (e :: es) [] pos) (tX X.K J k W bb (.bi bi xs)) := by
  have hc := hx.calm
  cases bi <;> first | cases h | skip
  · exact pd_biB bi_len hg (hx.blt _ (by decide)) PySem.boot_len ha (by decide) (by decide) he hpl
  · exact pd_biB bi_abs hg (hx.blt _ (by decide)) PyProof.Rows.boot_abs ha (by decide) (by decide) he hpl
  · exact pd_biB (bi_max2 hc) hg (hx.blt _ (by decide)) PyProof.Rows.boot_max ha (by decide) (by decide) he hpl
  · exact pd_biB (bi_min2 hc) hg (hx.blt _ (by decide)) PyProof.Rows.boot_min ha (by decide) (by decide) he hpl
  · exact pd_biB (bi_sum hc) hg (hx.blt _ (by decide)) PyProof.Rows.boot_sum ha (by decide) (by decide) he hpl
  · exact pd_biB (bi_all hc) hg (hx.blt _ (by decide)) PyProof.Rows.boot_all ha (by decide) (by decide) he hpl
  · exact pd_biB (bi_any hc) hg (hx.blt _ (by decide)) PyProof.Rows.boot_any ha (by decide) (by decide) he hpl
  · exact pd_biT (bi_list hc) hg (hx.blt _ (by decide)) PyProof.Rows.boot_list ha (by decide) (by decide) he hpl
  · exact pd_biT (bi_tuple hc) hg (hx.blt _ (by decide)) PyProof.Rows.boot_tuple ha (by decide) (by decide) he hpl
  · exact pd_biB (bi_max1 hc) hg (hx.blt _ (by decide)) PyProof.Rows.boot_max ha (by decide) (by decide) he hpl
  · exact pd_biB (bi_min1 hx hc) hg (hx.blt _ (by decide)) PyProof.Rows.boot_min ha (by decide) (by decide) he hpl
  · exact pd_biB (bi_sorted hx hc) hg (hx.blt _ (by decide)) boot_sorted ha (by decide) (by decide) he hpl
  · exact pd_biT bi_str hg (hx.blt _ (by decide)) PyProof.Rows.boot_str ha (by decide) (by decide) he hpl
  · exact pd_biT bi_int hg (hx.blt _ (by decide)) PyProof.Rows.boot_int ha (by decide) (by decide) he hpl
theorem mt0_ok {X : Cx} {W : WX} {bb : Bool} {m : Mt} {name : Str} {l : Expr} {a : E} {ap pos : Pos} (h : mtName m = some (name, 0)) (ho : PE X l (tX X.K J k W false a)) (hbase : attributeBase l name X.env (eval l X.env) = eval l X.env) (hline : (ap.endLine == pos.line) = true) :
    PE X (.Call (.Attribute l name ap) [] [] pos) (tX X.K J k W bb (.mt m a .nil)) := by
  cases m <;> first | cases h | skip
  · exact pd_mt0 F.slot_str_swapcase F.type_str_swapcase m_swapcase ho hbase hline
  · exact pd_mt0 F.slot_str_upper F.type_str_upper m_upper ho hbase hline
  · exact pd_mt0 F.slot_str_lower F.type_str_lower m_lower ho hbase hline
  · exact pd_mt0 F.slot_str_islower F.type_str_islower m_islower ho hbase hline
theorem mt1_ok {X : Cx} {W : WX} {bb : Bool} {m : Mt} {name : Str} {l r : Expr} {a b : E} {ap pos : Pos} (h : mtName m = some (name, 1)) (ho : PE X l (tX X.K J k W false a)) (he : PE X r (tX X.K J k W true b)) (hs : starEach [r] X.env = [(false, eval r X.env)]) (hbase : attributeBase l name X.env (eval l X.env) = eval l X.env) (hline : (ap.endLine == pos.line) = true) :
    PE X (.Call (.Attribute l name ap) [r] [] pos) (tX X.K J k W bb (.mt m a (.cons b .nil))) := by
  cases m <;> first | cases h | skip
  · exact pd_mt1 F.slot_str_join F.type_str_join m_join ho he hs hbase hline
  · exact pd_mt1 F.slot_str_index F.type_str_index m_index ho he hs hbase hline
  · exact pd_mt1 F.slot_str_count F.type_str_count m_count ho he hs hbase hline
  · exact pd_mt1 F.slot_str_split F.type_str_split m_split ho he hs hbase hline
  · exact pd_mt1 F.slot_str_startswith F.type_str_startswith m_startswith ho he hs hbase hline
end
end RC

set_option Elab.async false
set_option linter.all false
set_option autoImplicit false
set_option maxRecDepth 100000
set_option maxHeartbeats 2000000
/-! Lambdas: the core's rules. -/
namespace RC
open PySem PySem.Spec PyProof.Rows L2
variable [LX]
omit [LX] in
theorem lamF_any {P : Prg} {k g : Nat} {F : Store → Res D} {M : Store} : lamF P (k + 2) g F M = (match P.T g with
    | some fn => if fn.np = 1 then (exs (P.cfgA (k + 1) F) fn.body (startF fn) M).end_ else .stuck
    | none => .stuck) := rfl
omit [LX] in
theorem lamF_none {P : Prg} {k g : Nat} {F : Store → Res D} {M : Store} (h : P.T g = none) : lamF P (k + 2) g F M = .stuck := by rw [lamF_any, h]
omit [LX] in
theorem lamF_np {P : Prg} {k g : Nat} {fn : Fn} {F : Store → Res D} {M : Store} (h : P.T g = some fn) (hn : ¬ fn.np = 1) : lamF P (k + 2) g F M = .stuck := by
  rw [lamF_any, h]
  exact if_neg hn
theorem extN_ext {θ : List Addr} {H H1 : Hp} (e : LamX.ExtN H H1) : Ext θ θ H H1 := ⟨List.prefix_refl _, fun a o t _ h => e a o h t, fun _ h n => absurd h n⟩
theorem RM.extN {H H1 : Hp} {O : OSet} {θ : List Addr} {M : Store} (m : RM H O θ M) (e : LamX.ExtN H H1) (t : LamX.Tabs LX.tabs H1) : RM H1 O θ M :=
  ⟨m.len, m.nd, fun n a ns h1 h2 => e a _ (m.at_ n a ns h1 h2) (nt_lst _), m.noO, fun a h => (m.otr a h).elim fun xs q => ⟨xs, e a _ q (nt_lst _)⟩, t⟩
theorem noArgs_eq {pa : Arguments} (h : noArgs pa = true) : pa = ⟨[], [], none, [], [], none, []⟩ := by
  obtain ⟨a, b, c, d, e, f, g⟩ := pa
  unfold noArgs at h
  simp only [Bool.and_eq_true, List.isEmpty_iff, Option.isNone_iff_eq_none] at h
  obtain ⟨⟨⟨⟨⟨⟨h1, h2⟩, h3⟩, h4⟩, h5⟩, h6⟩, h7⟩ := h
  subst h1 h2 h3 h4 h5 h6 h7
  rfl
section
variable {X : Cx} {J : Inf} {W : WX}
theorem xok_lam {k : Nat} {sc : Scope} (hx : XOk J (k + 2) X) (L : LamX.LamS X.env.scope sc) (env : PySem.Env) (outer : List PySem.Env) (s1 : Shared) (H1 : Hp) (E : XK) (f c' : Addr) : XOk J.lowJ k (LamX.lamCx X (X.A.deeper env) outer s1 H1 E sc f c') :=
  ⟨rfl, hx.nd, L.kind, (hx.room.deeper _).deeper _, hx.gd, hx.rp, (have hf := hx.fns; fun T eT lx e k' hk => hf T eT lx e k' (by omega)), hx.blt, hx.gls, (by have := hx.sl; show X.A.units + 3 + 3 + 16 * (k + 4) + 210 < _; omega), hx.isa, hx.fld, hx.cls, (fun z => by cases z), (fun z => by cases z), fun k' hk => hx.key k' (by omega)⟩
theorem pd_lamc {k g : Nat} {a : E} {x : Str} {pa : Arguments} {body : Expr} {sc : Scope} {p lpos pos : Pos} {bb : Bool} (hx : XOk J k X) (hml : J.ml = true) (hf : J.fn g = some x) (hg : Gl X x) (hdb : (x == ("__debug__" : Str)) = false) (L : LamX.LamS X.env.scope sc) (hna : noArgs pa = true)
    (hbody : ∀ (k0 : Nat) (Y : Cx) (W' : WX), k = k0 + 2 → Y.N = X.N → Y.K = X.K → Y.env.scope = sc → XOk J.lowJ k0 Y → Takes Y W' → PE Y body (tX X.K J.lowJ k0 W' false a)) :
    PE X (.Call (.Name x p) [.Lambda pa body sc lpos] [] pos) (tX X.K J k W bb (.lamc g a)) := by
  obtain ⟨hlo, mk⟩ := hx.lam hml
  have ev0 : ∀ ρ M, ev (J.cfg k) (.lamc g a) ρ M = (lamF J.P k g (fun M' => ev (J.cfg k).low a ρ M') M).quiet := fun ρ M => by
    rw [ev]
    rw [Inf.cfg_eq hlo]
    rfl
  have hpa := noArgs_eq hna
  subst hpa
  match k, hx, mk, ev0, hbody with
  | 0, hx, mk, ev0, hbody => exact ⟨fun pins s σ H Q I ⟨A, ρ, M, θ, O, rs, h⟩ => by rw [ev0] at h; exact (show False from h).elim⟩
  | 1, hx, mk, ev0, hbody => exact ⟨fun pins s σ H Q I ⟨A, ρ, M, θ, O, rs, h⟩ => by rw [ev0] at h; exact (show False from h).elim⟩
  | k + 2, hx, mk, ev0, hbody =>
    cases hT : J.P.T g with
    | none => exact ⟨fun pins s σ H Q I ⟨A, ρ, M, θ, O, rs, h⟩ => by
        rw [ev0, lamF_none hT] at h; exact (show False from h).elim⟩
    | some fn =>
      by_cases hnp : fn.np = 1
      · obtain ⟨nm, Ng, av, pg, bg, sg, fa, fd, g1, g2, g3, g4, g5, g6, g7⟩ := mk.give g x hf fn hT hnp
        obtain ⟨c, P, hcode, TB, hmT, hu⟩ := mk.tab
        obtain ⟨oc, od, dV, kV, doc, pm, an, cdv, ct, osl, rfl, lk, hcd, _, _⟩ := g2.ex
        have hN0 : Ng[0]? = some av := by
          have := g4.pre
          cases Ng with
          | nil => cases this
          | cons y ys => simp at this; rw [this]; rfl
        have hva : Vis sg av := (g4.par av (by simp)).elim .inl fun z => .inr (.inl z)
        have q := pe_lamS (T := LX.tabs) (p := p) (lpos := lpos) (pos := pos) (pa := ⟨[], [], none, [], [], none, []⟩) (body := body) (k := k + 2 + 2) (t := fun E => tX X.K J.lowJ k (fun cls d _ H => E cls d H) false a)
          (TT := fun tl c' H1 Q => ∃ F O θ M, (H1 c' = some (LamX.CodeO c' (X.env.qual ++ "<lambda>")) ∧ ¬ O c' ∧ c' ∉ θ) ∧ RM H1 O θ M ∧
            (∀ (HZ : Hp) (O' : OSet) (θ' : List Addr) (M' : Store) (E : XK) (Q' : VK), Ext θ θ' H1 HZ → (∀ a, O a → O' a) → (∀ a, O' a → O a ∨ Nn H1 a) → RM HZ O' θ' M' →
              After X.K J O' (fun cls d _ H' => E cls d H') [] θ' HZ (F M') (fun d _ θ'' H'' => ∀ v, Rep X.K H'' O' θ'' d v → Q' v H'') → tl E HZ Q') ∧
            After X.K J O (fun _ _ _ _ => False) [] θ H1 (lamF J.P (k + 2) g F M).quiet (fun d _ θ' H' => ∀ v, Rep X.K H' O θ' d v → Q v H'))
          hg g1 g2.kp lk hcd g3 g4 hN0 hva
          (fun f c' s H Q tl hr' hact hco ⟨F, O, θ, M, h1, h2, h3, h4⟩ => g7 cdv rfl f c' _ s H Q tl F O θ M hr' hx.gd hx.sl hact h1 h2 h3 h4)
          TB hcode hmT hu hx.room L rfl (fun _ _ _ _ _ => rfl) (fun s s1 H1 E f c' => hbody k _ _ rfl rfl rfl rfl (xok_lam hx L _ _ _ _ _ _ _) (L2.takes_of rfl rfl rfl rfl)) hdb g5 g6
        refine PE.imp q fun σ H Q ⟨A, ρ, M, θ, O, rs, h⟩ => ⟨rs.rm.tab, fun H1 c' eN T1 hco => ?_⟩
        rw [ev0] at h
        have m1 := rs.rm.extN eN T1
        refine ⟨fun M' => ev (J.cfg (k + 2)).low a ρ M', O, θ, M, ⟨hco, fun z => ?_, fun z => ?_⟩, m1, fun HZ O' θ' M' E Q' x1 o1 o2 m2 h2 => ?_, ?_⟩
        · obtain ⟨xs, e⟩ := m1.otr _ z
          rw [hco] at e; cases e
        · obtain ⟨xs, e⟩ := m1.th z
          rw [hco] at e; cases e
        · have rs1 : RS X.K A H1 O σ ρ θ M := rs.ext (extN_ext eN) m1
          refine ⟨A, ρ, M', θ', O', rs1.extO x1 m2 o2 o1, ?_⟩
          rw [← Inf.cfg_low hlo]
          exact h2
        · have h5 := h.shift (extN_ext (θ := θ) eN)
          revert h5
          cases (lamF J.P (k + 2) g (fun M' => ev (J.cfg (k + 2)).low a ρ M') M) with
          | ok d M1 => exact fun h5 θ' H' x' m v r => h5 θ' H' x' m v (.of r)
          | exc _ _ _ => exact fun h5 => h5
          | stuck => exact fun h5 => h5
      · exact ⟨fun pins s σ H Q I ⟨A, ρ, M, θ, O, rs, h⟩ => by
          rw [ev0, lamF_np hT hnp] at h; exact (show False from h).elim⟩
end
end RC

set_option Elab.async false
set_option linter.all false
set_option autoImplicit false
set_option maxRecDepth 100000
set_option maxHeartbeats 4000000
namespace RC
open PySem PySem.Spec PyProof.Rows L2
variable [LX]
theorem and3 {a b c : Bool} (h : (a && b && c) = true) : a = true ∧ b = true ∧ c = true := by
  rw [Bool.and_eq_true, Bool.and_eq_true] at h; exact ⟨h.1.1, h.1.2, h.2⟩
theorem and2 {a b : Bool} (h : (a && b) = true) : a = true ∧ b = true := Bool.and_eq_true_iff.mp h
theorem and4 {a b c d : Bool} (h : (a && b && c && d) = true) : a = true ∧ b = true ∧ c = true ∧ d = true := by
  obtain ⟨h1, h2⟩ := and2 h
  obtain ⟨h3, h4, h5⟩ := and3 h1
  exact ⟨h3, h4, h5, h2⟩
theorem PE.any {J : Inf} {k : Nat} {X : Cx} {W : WX} {x : Expr} {e : E} {b : Bool} (h : PE X x (tX X.K J k W false e)) : PE X x (tX X.K J k W b e) :=
  PE.imp h fun σ H Q ⟨A, ρ, M, θ, O, rs, q⟩ => ⟨A, ρ, M, θ, O, rs, q.mono fun d M1 θ1 H1 x m z v r => z v (.of r)⟩
section
variable {J : Inf} {k : Nat}
theorem lc_parts {tg : Tg} {it : RC.It} {cs : Es} {elt : E} {X : Cx} {W : WX} {x : Expr} {b : Bool} (hx : XOk J k X) (h : chkE (J.sg X.N) b (.lc tg it cs elt) X.env.scope x = true)
    (pi : ∀ t i, chkI (J.sg X.N) it X.env.scope t i = true → PI X t i (tI X.K J k W false it))
    (pts : ∀ (Y : Cx) (ifs : List Expr), Y.N = X.N → Y.K = X.K → XOk J.off k Y → chkEs (J.off.sg X.N) false cs Y.env.scope ifs = true → ifs.all notIfe = true → ifs.length ≤ 1 → PTs Y ifs (tCs X.K J.off k W0 cs))
    (pe : ∀ (Y : Cx) (l : Expr), Y.N = X.N → Y.K = X.K → XOk J.off k Y → chkE (J.off.sg X.N) false elt Y.env.scope l = true → PE Y l (tX X.K J.off k W0 false elt)) : PE X x (tN X.K J k W (.lc tg it cs elt)) := by
  cases x <;> first | cases h | skip
  rename_i l gs scope pos
  match gs, h with
  | [⟨t, i, ifs, as⟩], h =>
    obtain ⟨h0, h9, h10⟩ := and3 h
    obtain ⟨h0, h6, h7, h8⟩ := and4 h0
    obtain ⟨h0, h4, h5⟩ := and3 h0
    obtain ⟨h1, h2, h3⟩ := and3 h0
    have e : as = 0 := of_decide_eq_true h1
    subst e
    have ok := blkOk_by h9
    refine pn_lc (fs := false) hx (pi t i h2) ok (of_decide_eq_true h10) (fun s H C cl fp => ?_) (fun s H C cl fp => ?_) (fun s H C cl fp => ?_) (folded_of h8)
    · exact pg_ok (X := X.blk s H scope (compEnvC scope cl C X.env) fp) (S := J.sg X.N) rfl hx.calm hx.nd (blk_loc s H C cl fp) tg t h3
    · exact pts (X.blk s H scope (compEnvC scope cl C X.env) fp) ifs rfl rfl (xok_blk hx ok s H C cl fp) h4 h5 (of_decide_eq_true h6)
    · exact pe (X.blk s H scope (compEnvC scope cl C X.env) fp) l rfl rfl (xok_blk hx ok s H C cl fp) h7
theorem not_plain {e : E} {S : Sg} {b : Bool} {sc : Scope} {x : Expr} (h : chkE S b e sc x = true) (hi : notIfe x = true) (h1 : ∀ o a c, e ≠ .cmp o a c) (h2 : ∀ o o' a c d, e ≠ .chain o o' a c d) (h3 : ∀ a c, e ≠ .and a c) (h4 : ∀ a c, e ≠ .or a c) (h5 : ∀ a, e ≠ .not a) : plainB x = true := by
  cases x <;> first | rfl | cases hi | skip
  · cases e <;> first | cases h | (exact absurd rfl (h3 _ _)) | (exact absurd rfl (h4 _ _))
  · rename_i op y pos
    cases op <;> first | rfl | skip
    cases e <;> first | cases h | (exact absurd rfl (h5 _))
  · cases e <;> first | cases h | (exact absurd rfl (h1 _ _ _)) | (exact absurd rfl (h2 _ _ _ _ _))
end
mutual
theorem pe_ok : ∀ (e : E) (J : Inf) (k : Nat) (b : Bool) (X : Cx) (W : WX) (x : Expr), XOk J k X → Takes X W → chkE (J.sg X.N) b e X.env.scope x = true → PE X x (tX X.K J k W b e)
  | .var i, J, k, b, X, W, x, hx, tk, h => by
    cases x <;> first | cases h | skip
    obtain ⟨h1, h2, h3, h4⟩ := varB_ok (S := J.sg X.N) h
    exact pd_var h1 h2 h3 h4
  | .bor i, J, k, b, X, W, x, hx, tk, h => by
    cases x <;> first | cases h | skip
    obtain ⟨hb, h⟩ := and2 (show (b && varB (J.sg X.N) X.env.scope i _) = true from h)
    subst hb
    obtain ⟨h1, h2, h3, h4⟩ := varB_ok (S := J.sg X.N) h
    exact pd_bor h1 h2 h3 h4
  | .cst d, J, k, b, X, W, x, hx, tk, h => by
    cases x <;> first | cases h | skip
    · rename_i ks vs pos
      obtain ⟨h1, h2, h3⟩ := and3 h
      cases ks with
      | cons _ _ => cases h2
      | nil =>
        cases vs with
        | cons _ _ => cases h3
        | nil =>
          split at h1
          · exact pd_dct
          · cases h1
    · exact pd_cst h
  | .glb g, J, k, b, X, W, x, hx, tk, h => by
    cases x <;> first | cases h | skip
    obtain ⟨h1, h2, h3⟩ := and3 h
    exact pd_glb hx (of_decide_eq_true h1) (globB_ok h2) (plainName_ok h3).1
  | .bin o a c, J, k, b, X, W, x, hx, tk, h => by
    cases x <;> first | cases h | skip
    obtain ⟨h1, h2, h3⟩ := and3 h
    exact pd_bin (opr_ok h1) (pe_ok a J k true X W _ hx tk h2) (pe_ok c J k true X W _ hx tk h3)
  | .cmp o a c, J, k, b, X, W, x, hx, tk, h => by
    cases x <;> first | cases h | skip
    rename_i l ops rs pos
    match ops, rs, h with
    | [op], [r], h =>
      obtain ⟨h1, h2, h3, h4⟩ := and4 h
      exact pd_cmp (cmp_ok hx h1) (pe_ok a J k true X W _ hx tk h2) (pe_ok c J k true X W _ hx tk h3) (marks_of h4)
  | .chain o o' a c d, J, k, b, X, W, x, hx, tk, h => by
    cases x <;> first | cases h | skip
    rename_i l ops rs pos
    match ops, rs, h with
    | [op, op'], [r, r'], h =>
      obtain ⟨h0, h5, h6⟩ := and3 h
      obtain ⟨h1, h2, h3, h4⟩ := and4 h0
      exact pd_chain (cmp_ok hx h1) (cmp_ok hx h2) (pe_ok a J k true X W _ hx tk h3) (pe_ok c J k true X W _ hx tk h4) (pe_ok d J k true X W _ hx tk h5) (marks_of h6)
  | .and a c, J, k, b, X, W, x, hx, tk, h => by
    cases x <;> first | cases h | skip
    rename_i op vs pos
    cases op with
    | Or =>
      match vs, h with
      | [], h => cases h
      | [_], h => cases h
      | _ :: _ :: _, h => cases h
    | And =>
      match vs, h with
      | [], h => cases h
      | [_], h => cases h
      | [l, r], h =>
        obtain ⟨h1, h2, h3⟩ := and3 h
        exact pd_and (pe_ok a J k false X W _ hx tk h1) (pe_one (PE.any (pe_ok c J k false X W _ hx tk (and2 h3).1)))
      | l :: r :: r2 :: rest, h =>
        obtain ⟨h1, h2, h3⟩ := and3 h
        exact pd_and (pe_ok a J k false X W _ hx tk h1) (PE.any (pe_ok c J k false X W _ hx tk h3))
  | .or a c, J, k, b, X, W, x, hx, tk, h => by
    cases x <;> first | cases h | skip
    rename_i op vs pos
    cases op with
    | And =>
      match vs, h with
      | [], h => cases h
      | [_], h => cases h
      | _ :: _ :: _, h => cases h
    | Or =>
      match vs, h with
      | [], h => cases h
      | [_], h => cases h
      | [l, r], h =>
        obtain ⟨h1, h2, h3⟩ := and3 h
        exact pd_or (pe_ok a J k false X W _ hx tk h1) (pe_one (PE.any (pe_ok c J k false X W _ hx tk (and2 h3).1)))
      | l :: r :: r2 :: rest, h =>
        obtain ⟨h1, h2, h3⟩ := and3 h
        exact pd_or (pe_ok a J k false X W _ hx tk h1) (PE.any (pe_ok c J k false X W _ hx tk h3))
  | .not a, J, k, b, X, W, x, hx, tk, h => by
    cases x <;> first | cases h | skip
    rename_i op l pos
    cases op <;> first | cases h | skip
    exact pd_not (pe_ok a J k false X W _ hx tk (and2 h).1)
  | .neg a, J, k, b, X, W, x, hx, tk, h => by
    cases x <;> first | cases h | skip
    rename_i op l pos
    cases op <;> first | cases h | skip
    exact pd_neg (pe_ok a J k false X W _ hx tk h)
  | .ife t a c, J, k, b, X, W, x, hx, tk, h => by
    cases x <;> first | cases h | skip
    obtain ⟨h1, h2, h3, h4⟩ := and4 h
    exact pd_ife (pt_ok t J k X W _ hx tk h1 h2) (PE.any (pe_ok a J k false X W _ hx tk h3)) (PE.any (pe_ok c J k false X W _ hx tk h4))
  | .call f es, J, k, b, X, W, x, hx, tk, h => by
    cases x <;> first | cases h | skip
    rename_i g as ks pos
    cases g <;> first | cases h | skip
    cases ks with
    | cons _ _ => cases h
    | nil =>
      obtain ⟨h0, h4, h5⟩ := and3 h
      obtain ⟨h1, h2, h3⟩ := and3 h0
      cases as with
      | nil => cases h5
      | cons e rest =>
        cases es with
        | nil => cases h4
        | cons a r =>
          obtain ⟨q1, q2⟩ := and2 (show (chkE (J.sg X.N) false a X.env.scope e && chkEs (J.sg X.N) false r X.env.scope rest) = true from h4)
          exact pd_call hx tk (of_decide_eq_true h1) (globB_ok h2) (pa_d_cons (pe_ok a J k false X W e hx tk q1) (pa_ok r J k false X W rest hx tk q2) (star_of (chkE_star q1))) (plainName_ok h3).1 (star_of (chkE_star q1)) (stars_of q2)
  | .bi bi es, J, k, b, X, W, x, hx, tk, h => by
    cases x <;> first | cases h | skip
    rename_i g as ks pos
    cases g <;> first | cases h | skip
    cases ks with
    | cons _ _ => cases h
    | nil =>
      obtain ⟨h1, h2, h3, h4⟩ := and4 h
      cases as with
      | nil => cases h4
      | cons e rest =>
        cases es with
        | nil => cases h3
        | cons a r =>
          obtain ⟨q1, q2⟩ := and2 (show (chkE (J.sg X.N) true a X.env.scope e && chkEs (J.sg X.N) true r X.env.scope rest) = true from h3)
          exact bi_ok hx (of_decide_eq_true h1) (globB_ok h2) (pa_d_cons (pe_ok a J k true X W e hx tk q1) (pa_ok r J k true X W rest hx tk q2) (star_of (chkE_star q1))) (star_of (chkE_star q1)) (stars_of q2)
  | .mt m o es, J, k, b, X, W, x, hx, tk, h => by
    cases x <;> first | cases h | skip
    rename_i g as ks pos
    cases g <;> first | cases h | skip
    rename_i l name ap
    cases ks with
    | cons _ _ => cases h
    | nil =>
      obtain ⟨h0, h4, h5⟩ := and3 h
      obtain ⟨h1, h2, h3⟩ := and3 h0
      cases z : mtName m with
      | none => rw [z] at h1; cases h1
      | some yn =>
        obtain ⟨y, n⟩ := yn
        rw [z] at h1
        obtain ⟨e1, e2⟩ := and2 h1
        have e1 : y = name := of_decide_eq_true e1
        have e2 : as.length = n := of_decide_eq_true e2
        subst e1
        cases es with
        | nil =>
          cases as with
          | nil => subst e2; exact mt0_ok z (pe_ok o J k false X W l hx tk h2) (base_of h4) h5
          | cons _ _ => cases h3
        | cons a rs =>
          cases as with
          | nil => cases h3
          | cons r rest =>
            obtain ⟨q1, q2⟩ := and2 (show (chkE (J.sg X.N) true a X.env.scope r && chkEs (J.sg X.N) true rs X.env.scope rest) = true from h3)
            cases rest with
            | nil =>
              cases rs with
              | nil =>
                subst e2
                exact mt1_ok z (pe_ok o J k false X W l hx tk h2) (pe_ok a J k true X W r hx tk q1) (star_of (chkE_star q1)) (base_of h4) h5
              | cons _ _ => cases q2
            | cons r2 rest =>
              exfalso
              subst e2
              cases m <;> cases z
  | .isi2 a t u, J, k, b, X, W, x, hx, tk, h => by
    cases x <;> first | cases h | skip
    rename_i g as ks pos
    cases g <;> first | cases h | skip
    rename_i y py
    match as, ks, h with
    | [l, .Tuple [.Name n p2, .Name n' p3] kt p4], [], h =>
      obtain ⟨h0, h6, h7⟩ := and3 h
      obtain ⟨h0, h4, h5⟩ := and3 h0
      obtain ⟨h1, h2, h3⟩ := and3 h0
      have e1 : y = ("isinstance" : Str) := of_decide_eq_true h1
      subst e1
      exact pd_isi2 (of_decide_eq_true h4) (of_decide_eq_true h6) hx (pe_ok a J k true X W l hx tk h3) (globB_ok h2) (globB_ok h5) (globB_ok h7) (by have := chkE_star h3; cases l <;> first | rfl | cases this)
  | .isi a t, J, k, b, X, W, x, hx, tk, h => by
    cases x <;> first | cases h | skip
    rename_i g as ks pos
    cases g <;> first | cases h | skip
    rename_i y py
    match as, ks, h with
    | [l, .Name n p2], [], h =>
      obtain ⟨h0, h4, h5⟩ := and3 h
      obtain ⟨h1, h2, h3⟩ := and3 h0
      have e1 : y = ("isinstance" : Str) := of_decide_eq_true h1
      subst e1
      exact pd_isi (of_decide_eq_true h4) hx (pe_ok a J k true X W l hx tk h3) (globB_ok h2) (globB_ok h5) (star_of (chkE_star h3))
  | .isx a t, J, k, b, X, W, x, hx, tk, h => by
    cases x <;> first | cases h | skip
    rename_i g as ks pos
    cases g <;> first | cases h | skip
    rename_i y py
    match as, ks, h with
    | [l, .Name n p2], [], h =>
      obtain ⟨h0, h4, h5, h6⟩ := and4 h
      obtain ⟨h1, h2, h3⟩ := and3 h0
      have e1 : y = ("isinstance" : Str) := of_decide_eq_true h1
      have e2 : n = cname t := of_decide_eq_true h4
      subst e1 e2
      refine pd_isx hx ?_ (pe_ok a J k false X W l hx tk h3) (globB_ok h2) (globB_ok h5) (star_of (chkE_star h3))
      unfold clsN at h6
      rw [Bool.or_eq_true, Bool.and_eq_true] at h6
      rcases h6 with z | z
      · exact .inl ⟨of_decide_eq_true z.1, of_decide_eq_true z.2⟩
      · exact .inr (of_decide_eq_true z)
  | .att a n, J, k, b, X, W, x, hx, tk, h => by
    cases x <;> first | cases h | skip
    rename_i l f pos
    cases l <;> first | cases h | skip
    obtain ⟨h1, h2, h3⟩ := and3 h
    have e2 : f = fname n := of_decide_eq_true h2
    subst e2
    exact pd_att hx (pe_ok a J k false X W _ hx tk h1)
  | .sub a i, J, k, b, X, W, x, hx, tk, h => by
    cases x <;> first | cases h | skip
    obtain ⟨h1, h2, h3⟩ := and3 h
    exact pd_sub (pe_ok a J k true X W _ hx tk h1) (pe_ok i J k false X W _ hx tk h2) (plainIx_of h3)
  | .slcL a i, J, k, b, X, W, x, hx, tk, h => by
    cases x <;> first | cases h | skip
    rename_i l s pos
    cases s <;> first | cases h | skip
    rename_i lo hi st p
    match lo, hi, st, h with
    | some e, none, none, h => exact pd_slcL (pe_ok a J k true X W _ hx tk (and2 h).1) (pe_ok i J k false X W _ hx tk (and2 h).2)
  | .slcU a i, J, k, b, X, W, x, hx, tk, h => by
    cases x <;> first | cases h | skip
    rename_i l s pos
    cases s <;> first | cases h | skip
    rename_i lo hi st p
    match lo, hi, st, h with
    | none, some e, none, h => exact pd_slcU (pe_ok a J k true X W _ hx tk (and2 h).1) (pe_ok i J k false X W _ hx tk (and2 h).2)
  | .slcB a i j, J, k, b, X, W, x, hx, tk, h => by
    cases x <;> first | cases h | skip
    rename_i l s pos
    cases s <;> first | cases h | skip
    rename_i lo hi st p
    match lo, hi, st, h with
    | some e, some e', none, h =>
      obtain ⟨h1, h2, h3⟩ := and3 h
      exact pd_slcB (pe_ok a J k true X W _ hx tk h1) (pe_ok i J k false X W _ hx tk h2) (pe_ok j J k false X W _ hx tk h3)
  | .rev a, J, k, b, X, W, x, hx, tk, h => by
    cases x <;> first | cases h | skip
    rename_i l s pos
    cases s <;> first | cases h | skip
    rename_i lo hi st p
    match lo, hi, st, h with
    | none, none, some st, h =>
      obtain ⟨h1, h2⟩ := and2 h
      cases st <;> first | cases h2 | skip
      rename_i op c q2
      cases op <;> first | cases h2 | skip
      cases c <;> first | cases h2 | skip
      rename_i c j q
      have e : c = .int 1 := of_decide_eq_true h2
      subst e
      exact pd_rev (pe_ok a J k true X W _ hx tk h1) (PE.imp (pe_un un_neg pe_int) fun σ H Q h => ⟨1, rfl, h⟩) fun _ _ => rfl
  | .half a, J, k, b, X, W, x, hx, tk, h => by
    cases x <;> first | cases h | skip
    rename_i l s pos
    cases s <;> first | cases h | skip
    rename_i lo hi st p
    match lo, hi, st, h with
    | none, none, some st, h =>
      obtain ⟨h1, h2⟩ := and2 h
      cases st <;> first | cases h2 | skip
      rename_i c j q
      have e : c = .int 2 := of_decide_eq_true h2
      subst e
      exact pd_half (pe_ok a J k true X W _ hx tk h1) pe_int fun _ _ => rfl
  | .tup es, J, k, b, X, W, x, hx, tk, h => by
    cases x <;> first | cases h | skip
    obtain ⟨h1, h2⟩ := and2 h
    exact pd_tup (pa_ok es J k false X W _ hx tk h1) (by rw [chkEs_len es _ h1]; exact of_decide_eq_true h2)
  | .lst es, J, k, b, X, W, x, hx, tk, h => by
    cases x <;> first | cases h | skip
    obtain ⟨h1, h2⟩ := and2 h
    exact PE.imp (pn_lst (pa_ok es J k false X W _ hx tk h1) (by rw [chkEs_len es _ h1]; exact of_decide_eq_true h2)) fun σ H Q q => tN_tX (fun _ _ _ _ => ev_lst_lst) q
  | .lc tg it cs elt, J, k, b, X, W, x, hx, tk, h => by
    refine PE.imp (lc_parts hx h (fun t i q => pi_ok it J k X W t i hx tk q) (fun Y ifs eN eK hy q1 q2 q3 => ?_) fun Y l eN eK hy q1 => ?_) fun σ H Q q => tN_tX (fun _ _ _ _ => ev_lc_lst) q
    · rw [← eK]; exact pts_ok cs J.off k Y W0 ifs hy takes0 (by rw [eN]; exact q1) q2 q3
    · rw [← eK]; exact pe_ok elt J.off k false Y W0 l hy takes0 (by rw [eN]; exact q1)
  | .minK f a, J, k, b, X, W, x, hx, tk, h => by
    cases x <;> first | cases h | skip
    rename_i g as ks pos
    cases g <;> first | cases h | skip
    rename_i y py
    match as, ks, h with
    | [l], [⟨some kn, .Name z _, _⟩], h =>
      have h' : (decide (y = ("min" : Str)) && globB X.env.scope y && decide (kn = ("key" : Str)) && decide ((J.sg X.N).kf f = some z) && globB X.env.scope z && plainName z && chkE (J.sg X.N) false a X.env.scope l) = true := h
      simp only [Bool.and_eq_true] at h'
      obtain ⟨⟨⟨⟨⟨⟨h1, h2⟩, h3⟩, h4⟩, h5⟩, h6⟩, h7⟩ := h'
      have e1 : y = ("min" : Str) := of_decide_eq_true h1
      have e2 : kn = ("key" : Str) := of_decide_eq_true h3
      subst e1 e2
      exact pd_minK hx (of_decide_eq_true h4) (globB_ok h5) (plainName_ok h6).1 (pe_ok a J k false X W l hx tk h7) (globB_ok h2) (star_of (chkE_star h7))
  | .minKD f a a', J, k, b, X, W, x, hx, tk, h => by
    cases x <;> first | cases h | skip
    rename_i g as ks pos
    cases g <;> first | cases h | skip
    rename_i y py
    match as, ks, h with
    | [l], [⟨some kn, .Name z _, _⟩, ⟨some kd, l', _⟩], h =>
      have h' : (decide (y = ("min" : Str)) && globB X.env.scope y && decide (kn = ("key" : Str)) && decide (kd = ("default" : Str)) && decide ((J.sg X.N).kf f = some z) && globB X.env.scope z && plainName z && chkE (J.sg X.N) false a X.env.scope l && chkE (J.sg X.N) false a' X.env.scope l') = true := h
      simp only [Bool.and_eq_true] at h'
      obtain ⟨⟨⟨⟨⟨⟨⟨⟨h1, h2⟩, h3⟩, h3'⟩, h4⟩, h5⟩, h6⟩, h7⟩, h8⟩ := h'
      have e1 : y = ("min" : Str) := of_decide_eq_true h1
      have e2 : kn = ("key" : Str) := of_decide_eq_true h3
      have e3 : kd = ("default" : Str) := of_decide_eq_true h3'
      subst e1 e2 e3
      exact pd_minKD hx (of_decide_eq_true h4) (globB_ok h5) (plainName_ok h6).1 (pe_ok a J k false X W l hx tk h7) (pe_ok a' J k false X W l' hx tk h8) (globB_ok h2) (star_of (chkE_star h7))
  | .sortK _ _, J, k, b, X, W, x, hx, tk, h => by cases h
  | .lamc g a, J, k, b, X, W, x, hx, tk, h => by
    cases x <;> first | cases h | skip
    rename_i y as ks pos
    cases y <;> first | cases h | skip
    rename_i y py
    match as, ks, h with
    | [.Lambda pa body sc' lpos], [], h =>
      have h' : ((J.sg X.N).ml && decide ((J.sg X.N).fn g = some y) && globB X.env.scope y && plainName y && LamX.lamSB X.env.scope sc' && noArgs pa && chkE (J.sg X.N).off false a sc' body) = true := h
      simp only [Bool.and_eq_true] at h'
      obtain ⟨⟨⟨⟨⟨⟨h1, h2⟩, h3⟩, h4⟩, h5⟩, h6⟩, h7⟩ := h'
      exact pd_lamc hx h1 (of_decide_eq_true h2) (globB_ok h3) (plainName_ok h4).1 (LamX.lamS_by h5) h6 fun k0 Y W' ek eN eK es hy tk' => by
        rw [← eK]
        refine pe_ok a J.lowJ k0 false Y W' body hy tk' ?_
        rw [eN, es]
        exact h7
  | .act i, J, k, b, X, W, x, hx, tk, h => by
    cases x <;> first | cases h | skip
    rename_i y as ks pos
    cases y <;> first | cases h | skip
    rename_i y py
    match as, ks, h with
    | [], [], h =>
      obtain ⟨h1, h2, h3⟩ := and3 (show ((J.sg X.N).ac && decide (i = 0) && varB (J.sg X.N) X.env.scope i y) = true from h)
      have e1 : i = 0 := of_decide_eq_true h2
      subst e1
      obtain ⟨v1, v2, v3, v4⟩ := varB_ok (S := J.sg X.N) h3
      exact PE.any (hx.act h1 X.pn X.xe W tk y _ _ v1 v2)
  | .rpr a, J, k, b, X, W, x, hx, tk, h => by
    cases x <;> first | cases h | skip
    rename_i g as ks pos
    cases g <;> first | cases h | skip
    rename_i y py
    match as, ks, h with
    | [e], [], h =>
      obtain ⟨h1, h2, h3⟩ := and3 h
      have e1 : y = ("repr" : Str) := of_decide_eq_true h1
      subst e1
      exact pd_rpr hx (pe_ok a J k true X W e hx tk h3) (globB_ok h2) (star_of (chkE_star h3))
  | .new es, J, k, b, X, W, x, hx, tk, h => by
    cases x <;> first | cases h | skip
    obtain ⟨h1, h2⟩ := and2 h
    exact pd_new (pa_ok es J k false X W _ hx tk h1) (by rw [chkEs_len es _ h1]; exact of_decide_eq_true h2)
termination_by e => (sizeOf e, 0)
theorem pts_ok : ∀ (cs : Es) (J : Inf) (k : Nat) (X : Cx) (W : WX) (ifs : List Expr), XOk J k X → Takes X W → chkEs (J.sg X.N) false cs X.env.scope ifs = true → ifs.all notIfe = true → ifs.length ≤ 1 → PTs X ifs (tCs X.K J k W cs)
  | .nil, J, k, X, W, ifs, hx, tk, h, h', hl => by
    cases ifs with
    | cons _ _ => cases h
    | nil => exact ⟨fun pins s σ H Q I ⟨A, ρ, M, θ, O, rs, q⟩ => pts_nil.run pins s σ H Q I (q θ H (Ext.refl _ _) rs.rm)⟩
  | .cons a r, J, k, X, W, ifs, hx, tk, h, h', hl => by
    cases ifs with
    | nil => cases h
    | cons c rest =>
      cases rest with
      | cons _ _ => simp at hl
      | nil =>
        obtain ⟨q1, q2⟩ := and2 (show (chkE (J.sg X.N) false a X.env.scope c && chkEs (J.sg X.N) false r X.env.scope []) = true from h)
        have hr : r = .nil := by
          cases r with
          | nil => rfl
          | cons _ _ => cases q2
        subst hr
        have hc : notIfe c = true := by simpa using h'
        have pt := pts_one (pt_ok a J k X W c hx tk q1 hc)
        refine ⟨fun pins s σ H Q I ⟨A, ρ, M, θ, O, rs, q⟩ => pt.run pins s σ H Q I ?_⟩
        have e0 : evc (J.cfg k) (.cons a .nil) ρ M = truth (ev (J.cfg k) a ρ M) fun x M1 => if x then Res.ok true M1 else .ok false M1 := rfl
        rw [e0] at q
        refine tQ_of (R := fun _ _ _ _ => True) rs q fun t M1 θ1 H1 x1 rs1 h1 => ?_
        cases t with
        | true => exact h1 θ1 H1 (Ext.refl _ _) rs1.rm
        | false => exact h1 θ1 H1 (Ext.refl _ _) rs1.rm
termination_by cs => (sizeOf cs, 3)
theorem pi_ok : ∀ (it : RC.It) (J : Inf) (k : Nat) (X : Cx) (W : WX) (t x : Expr), XOk J k X → Takes X W → chkI (J.sg X.N) it X.env.scope t x = true → PI X t x (tI X.K J k W false it)
  | .seq a, J, k, X, W, t, x, hx, tk, h => pi_seq (bb := true) (pe_ok a J k true X W x hx tk h)
  | .rng a, J, k, X, W, t, x, hx, tk, h => by
    cases x <;> first | cases h | skip
    rename_i g as ks pos
    cases g <;> first | cases h | skip
    rename_i y py
    match as, ks, h with
    | [e], [], h =>
      obtain ⟨h1, h2, h3⟩ := and3 h
      have e1 : y = ("range" : Str) := of_decide_eq_true h1
      subst e1
      exact pi_rng hx (pe_ok a J k false X W e hx tk h3) (globB_ok h2) (star_of (chkE_star h3))
  | .rng2 a a', J, k, X, W, t, x, hx, tk, h => by
    cases x <;> first | cases h | skip
    rename_i g as ks pos
    cases g <;> first | cases h | skip
    rename_i y py
    match as, ks, h with
    | [e, e'], [], h =>
      obtain ⟨h1, h2, h3, h4⟩ := and4 h
      have e1 : y = ("range" : Str) := of_decide_eq_true h1
      subst e1
      exact pi_rng2 hx (pe_ok a J k false X W e hx tk h3) (pe_ok a' J k false X W e' hx tk h4) (globB_ok h2) (by rw [star_of (chkE_star h3), star_of (chkE_star h4)]; rfl) (star_of (chkE_star h4))
  | .enum a, J, k, X, W, t, x, hx, tk, h => by
    cases x <;> first | cases h | skip
    rename_i g as ks pos
    cases g <;> first | cases h | skip
    rename_i y py
    match as, ks, h with
    | [e], [], h =>
      obtain ⟨h1, h2, h3, h4⟩ := and4 h
      have e1 : y = ("enumerate" : Str) := of_decide_eq_true h1
      subst e1
      cases t <;> first | cases h4 | skip
      exact pi_d_enum (bb := true) hx (pe_ok a J k true X W e hx tk h3) (globB_ok h2) (star_of (chkE_star h3))
  | .zip a a', J, k, X, W, t, x, hx, tk, h => by
    cases x <;> first | cases h | skip
    rename_i g as ks pos
    cases g <;> first | cases h | skip
    rename_i y py
    match as, ks, h with
    | [e, e'], [], h =>
      obtain ⟨h0, h4, h5⟩ := and3 h
      obtain ⟨h1, h2, h3⟩ := and3 h0
      have e1 : y = ("zip" : Str) := of_decide_eq_true h1
      subst e1
      cases t <;> first | cases h5 | skip
      exact pi_d_zip (bb := true) hx (pe_ok a J k true X W e hx tk h3) (pe_ok a' J k true X W e' hx tk h4) (globB_ok h2) (star_of (chkE_star h3)) (star_of (chkE_star h4)) (by rw [star_of (chkE_star h4)]; rfl)
termination_by it => (sizeOf it, 0)
theorem pw_ok : ∀ (e : E) (J : Inf) (k : Nat) (X : Cx) (W : WX) (op : BoolOp) (vs : List Expr) (pos : Pos), XOk J k X → Takes X W → chkE (J.sg X.N) false e X.env.scope (.BoolOp op vs pos) = true → PW X (.BoolOp op vs pos) (tQ X.K J k W e)
  | .and a c, J, k, X, W, op, vs, pos, hx, tk, h => by
    cases op with
    | Or =>
      match vs, h with
      | [], h => cases h
      | [_], h => cases h
      | _ :: _ :: _, h => cases h
    | And =>
      match vs, h with
      | [], h => cases h
      | [_], h => cases h
      | [l, r], h =>
        obtain ⟨h1, h2, h3⟩ := and3 h
        exact pq_and (pt_ok a J k X W l hx tk h1 h2) (pw_and1 (pt_ok c J k X W r hx tk (and2 h3).1 (and2 h3).2))
      | l :: r :: r2 :: rest, h =>
        obtain ⟨h1, h2, h3⟩ := and3 h
        exact pq_and (pt_ok a J k X W l hx tk h1 h2) (pw_ok c J k X W .And (r :: r2 :: rest) pos hx tk h3)
  | .or a c, J, k, X, W, op, vs, pos, hx, tk, h => by
    cases op with
    | And =>
      match vs, h with
      | [], h => cases h
      | [_], h => cases h
      | _ :: _ :: _, h => cases h
    | Or =>
      match vs, h with
      | [], h => cases h
      | [_], h => cases h
      | [l, r], h =>
        obtain ⟨h1, h2, h3⟩ := and3 h
        exact pq_or (pt_ok a J k X W l hx tk h1 h2) (pw_or1 (pt_ok c J k X W r hx tk (and2 h3).1 (and2 h3).2))
      | l :: r :: r2 :: rest, h =>
        obtain ⟨h1, h2, h3⟩ := and3 h
        exact pq_or (pt_ok a J k X W l hx tk h1 h2) (pw_ok c J k X W .Or (r :: r2 :: rest) pos hx tk h3)
  | .var _, J, k, X, W, op, vs, pos, hx, tk, h => by cases h
  | .bor _, J, k, X, W, op, vs, pos, hx, tk, h => by cases h
  | .cst _, J, k, X, W, op, vs, pos, hx, tk, h => by cases h
  | .glb _, J, k, X, W, op, vs, pos, hx, tk, h => by cases h
  | .bin _ _ _, J, k, X, W, op, vs, pos, hx, tk, h => by cases h
  | .cmp _ _ _, J, k, X, W, op, vs, pos, hx, tk, h => by cases h
  | .chain _ _ _ _ _, J, k, X, W, op, vs, pos, hx, tk, h => by cases h
  | .not _, J, k, X, W, op, vs, pos, hx, tk, h => by cases h
  | .neg _, J, k, X, W, op, vs, pos, hx, tk, h => by cases h
  | .ife _ _ _, J, k, X, W, op, vs, pos, hx, tk, h => by cases h
  | .call _ _, J, k, X, W, op, vs, pos, hx, tk, h => by cases h
  | .bi _ _, J, k, X, W, op, vs, pos, hx, tk, h => by cases h
  | .mt _ _ _, J, k, X, W, op, vs, pos, hx, tk, h => by cases h
  | .isi _ _, J, k, X, W, op, vs, pos, hx, tk, h => by cases h
  | .isi2 _ _ _, J, k, X, W, op, vs, pos, hx, tk, h => by cases h
  | .sub _ _, J, k, X, W, op, vs, pos, hx, tk, h => by cases h
  | .slcL _ _, J, k, X, W, op, vs, pos, hx, tk, h => by cases h
  | .slcU _ _, J, k, X, W, op, vs, pos, hx, tk, h => by cases h
  | .slcB _ _ _, J, k, X, W, op, vs, pos, hx, tk, h => by cases h
  | .rev _, J, k, X, W, op, vs, pos, hx, tk, h => by cases h
  | .half _, J, k, X, W, op, vs, pos, hx, tk, h => by cases h
  | .tup _, J, k, X, W, op, vs, pos, hx, tk, h => by cases h
  | .lst _, J, k, X, W, op, vs, pos, hx, tk, h => by cases h
  | .lc _ _ _ _, J, k, X, W, op, vs, pos, hx, tk, h => by cases h
  | .minK _ _, J, k, X, W, op, vs, pos, hx, tk, h => by cases h
  | .minKD _ _ _, J, k, X, W, op, vs, pos, hx, tk, h => by cases h
  | .sortK _ _, J, k, X, W, op, vs, pos, hx, tk, h => by cases h
  | .new _, J, k, X, W, op, vs, pos, hx, tk, h => by cases h
  | .rpr _, J, k, X, W, op, vs, pos, hx, tk, h => by cases h
  | .isx _ _, J, k, X, W, op, vs, pos, hx, tk, h => by cases h
  | .att _ _, J, k, X, W, op, vs, pos, hx, tk, h => by cases h
  | .lamc _ _, J, k, X, W, op, vs, pos, hx, tk, h => by cases h
  | .act _, J, k, X, W, op, vs, pos, hx, tk, h => by cases h
termination_by e => (sizeOf e, 1)
theorem pt_ok : ∀ (e : E) (J : Inf) (k : Nat) (X : Cx) (W : WX) (x : Expr), XOk J k X → Takes X W → chkE (J.sg X.N) false e X.env.scope x = true → notIfe x = true → PT X x (tQ X.K J k W e) := fun e J k X W x hx tk h hi => by
  by_cases h1 : ∃ o a c, e = .cmp o a c
  · obtain ⟨o, a, c, rfl⟩ := h1
    cases x <;> first | cases h | skip
    rename_i l ops rs pos
    match ops, rs, h with
    | [op], [r], h =>
      obtain ⟨h1, h2, h3, h4⟩ := and4 h
      exact pq_cmp (cmp_ok hx h1) (pe_ok a J k true X W _ hx tk h2) (pe_ok c J k true X W _ hx tk h3) (marks_of h4)
  · by_cases h2 : ∃ o o' a c d, e = .chain o o' a c d
    · obtain ⟨o, o', a, c, d, rfl⟩ := h2
      cases x <;> first | cases h | skip
      rename_i l ops rs pos
      match ops, rs, h with
      | [op, op'], [r, r'], h =>
        obtain ⟨h0, h5, h6⟩ := and3 h
        obtain ⟨h1, h2, h3, h4⟩ := and4 h0
        exact pq_chain (cmp_ok hx h1) (cmp_ok hx h2) (pe_ok a J k true X W _ hx tk h3) (pe_ok c J k true X W _ hx tk h4) (pe_ok d J k true X W _ hx tk h5) (marks_of h6)
    · by_cases h3 : ∃ a, e = .not a
      · obtain ⟨a, rfl⟩ := h3
        cases x <;> first | cases h | skip
        rename_i op l pos
        cases op <;> first | cases h | skip
        exact pq_not (pt_ok a J k X W l hx tk (and2 h).1 (and2 h).2)
      · by_cases h4 : ∃ op vs pos, x = .BoolOp op vs pos
        · obtain ⟨op, vs, pos, rfl⟩ := h4
          exact (pw_ok e J k X W op vs pos hx tk h).pt
        · refine pq_val (pe_ok e J k false X W x hx tk h) (test_plain (not_plain h hi (fun o a c z => h1 ⟨o, a, c, z⟩) (fun o o' a c d z => h2 ⟨o, o', a, c, d, z⟩) (fun a c z => ?_) (fun a c z => ?_) fun a z => h3 ⟨a, z⟩))
          · subst z
            cases x <;> first | cases h | (exact h4 ⟨_, _, _, rfl⟩)
          · subst z
            cases x <;> first | cases h | (exact h4 ⟨_, _, _, rfl⟩)
termination_by e => (sizeOf e, 2)
theorem pa_ok : ∀ (es : Es) (J : Inf) (k : Nat) (b : Bool) (X : Cx) (W : WX) (xs : List Expr), XOk J k X → Takes X W → chkEs (J.sg X.N) b es X.env.scope xs = true → PA X xs (tXs X.K J k W b es)
  | .nil, J, k, b, X, W, xs, hx, tk, h => by
    cases xs with
    | cons _ _ => cases h
    | nil => exact pa_d_nil
  | .cons a r, J, k, b, X, W, xs, hx, tk, h => by
    cases xs with
    | nil => cases h
    | cons e rest =>
      obtain ⟨q1, q2⟩ := and2 (show (chkE (J.sg X.N) b a X.env.scope e && chkEs (J.sg X.N) b r X.env.scope rest) = true from h)
      exact pa_d_cons (pe_ok a J k b X W e hx tk q1) (pa_ok r J k b X W rest hx tk q2) (star_of (chkE_star q1))
termination_by es => (sizeOf es, 0)
end
end RC

set_option Elab.async false
set_option linter.all false
set_option autoImplicit false
set_option maxRecDepth 100000
set_option maxHeartbeats 2000000
/-! Commands. -/
namespace RC
open PySem PySem.Spec PyProof.Rows L2
variable [LX]
def Post (K : PySem.W.Frag) (J : Inf) (W : WX) (A : Anc) (D : Ends) (H : Hp) (O : OSet) (θ : List Addr) : Out → Prop
  | .next ρ' M' => ∀ σ' H' θ' O', FS H O θ H' O' θ' → RS K A H' O' σ' ρ' θ' M' → D.nx σ' H'
  | .brk ρ' M' => ∀ σ' H' θ' O', FS H O θ H' O' θ' → RS K A H' O' σ' ρ' θ' M' → D.bk σ' H'
  | .cont ρ' M' => ∀ σ' H' θ' O', FS H O θ H' O' θ' → RS K A H' O' σ' ρ' θ' M' → D.ct σ' H'
  | .ret d M' => ∀ v H' θ', Ext A.θ θ' A.H H' → RM H' A.O θ' M' → Rep K H' A.O θ' d v → D.rt v H'
  | .exc ρ' c x M' => ∀ σ' H' θ' O' cls da, FS H O θ H' O' θ' → RS K A H' O' σ' ρ' θ' M' → RepX K J H' O' θ' c x cls da → W cls da σ' H'
  | .stuck => False
def tS (K : PySem.W.Frag) (J : Inf) (k : Nat) (W : WX) (c : C) : TS := fun Dn σ H => ∃ A ρ M θ O, RS K A H O σ ρ θ M ∧ Post K J W A Dn H O θ (ex (J.cfg k) c ρ M)
def tSs (K : PySem.W.Frag) (J : Inf) (k : Nat) (W : WX) (cs : Cs) : TS := fun Dn σ H => ∃ A ρ M θ O, RS K A H O σ ρ θ M ∧ Post K J W A Dn H O θ (exs (J.cfg k) cs ρ M)
theorem PS.imp {X : Cx} {e : Stmt} {t t' : TS} (h : PS X e t) (i : ∀ D σ H, t' D σ H → t D σ H) : PS X e t' := ⟨fun pins s σ H D I q => h.run pins s σ H D I (i D σ H q)⟩
theorem PSs.imp {X : Cx} {e : List Stmt} {t t' : TS} (h : PSs X e t) (i : ∀ D σ H, t' D σ H → t D σ H) : PSs X e t' := ⟨fun pins s σ H D I q => h.run pins s σ H D I (i D σ H q)⟩
section
variable {K : PySem.W.Frag} {J : Inf} {k : Nat} {W : WX} {A : Anc} {Dn : Ends} {O O1 : OSet} {σ : L2.St} {ρ : RC.Env} {θ θ1 : List Addr} {H H1 : Hp} {M : Store}
theorem Post.shift {o : Out} (h : Post K J W A Dn H O θ o) (x : FS H O θ H1 O1 θ1) : Post K J W A Dn H1 O1 θ1 o := by
  cases o with
  | next ρ' M' => exact fun σ' H' θ' O' f r => h σ' H' θ' O' (x.trans f) r
  | brk ρ' M' => exact fun σ' H' θ' O' f r => h σ' H' θ' O' (x.trans f) r
  | cont ρ' M' => exact fun σ' H' θ' O' f r => h σ' H' θ' O' (x.trans f) r
  | ret d M' => exact h
  | exc ρ' c v M' => exact fun σ' H' θ' O' cls da f r q => h σ' H' θ' O' cls da (x.trans f) r q
  | stuck => exact h
theorem ext_fs {O : OSet} (x : Ext θ θ1 H H1) : FS H O θ H1 O θ1 := x.fs fun _ h => .inl h
theorem Post.thn {α : Type} {r : Res α} {f : α → Store → Out} (rs : RS K A H O σ ρ θ M) (h : Post K J W A Dn H O θ (r.then_ ρ f)) : After K J O W σ θ H r fun a M1 θ1 H1 => Post K J W A Dn H1 O θ1 (f a M1) := by
  cases r with
  | ok a M1 => exact fun θ' H' x m => Post.shift h (ext_fs x)
  | exc c v M1 => exact fun θ' H' cls da x m q => h σ H' θ' O cls da (ext_fs x) (rs.ext x m) q
  | stuck => exact h
theorem ite_cases {b : Bool} {p q : Prop} (h : if b = true then p else q) : (b = true ∧ p) ∨ (b = false ∧ q) := by
  cases b
  · exact .inr ⟨rfl, h⟩
  · exact .inl ⟨rfl, h⟩
/-- a slot gets a new list of the frame's own -/
theorem RS.newO {H' : Hp} {θ' : List Addr} {M' : Store} {p : Addr} {vs : List V} {xs : List D} (i : Nat) (r : RS K A H O σ ρ θ M) (x : Ext θ θ' H H') (hp : Nn H p) (hv : H' p = some (.lst vs)) (m : RM H' (fun a => O a ∨ a = p) θ' M') (rp : Reps K H' (fun a => O a ∨ a = p) θ' xs vs) :
    RS K A H' (fun a => O a ∨ a = p) (σ.set i (some (.ref p))) (setO ρ i xs) θ' M' := by
  have hO : ∀ a, (O a ∨ a = p) → O a ∨ Nn H a := fun a h => h.elim .inl fun e => .inr (by rw [e]; exact hp)
  have r1 := r.extO x m hO fun a h => .inl h
  have hA : Nn A.H p := r.anc.nn_of r.rm hp
  have get : ∀ j, (setO ρ i xs)[j]? = if i = j then (if i < ρ.length then some (some (Sl.o xs)) else none) else ρ[j]? := fun j => by
    unfold setO
    by_cases q : i = j
    · subst q
      by_cases z : i < ρ.length
      · rw [List.getElem?_set_self z]; simp [z]
      · rw [List.getElem?_eq_none (by simpa using z)]; simp [z]
    · rw [List.getElem?_set_ne q]; simp [q]
  have old : ∀ (j : Nat) (a : Addr) (ys : List D), ρ[j]? = some (some (Sl.o ys)) → σ[j]? = some (some (V.ref a)) → a ≠ p := fun j a ys e e2 z => by
    obtain ⟨a', vs', b1, b2, _⟩ := r.own j ys e
    rw [e2] at b1
    cases b1
    rw [z] at b2; exact hp _ (nt_lst _) b2
  have hfun : ∀ j, (setO ρ i xs)[j]? = some (some Sl.f) → ∃ f c q, LXat A f c q ∧ (σ.set i (some (V.ref p)))[j]? = some (some (V.ref f)) ∧ (H' c = some (LamX.CodeO c q) ∧ ¬ (O c ∨ c = p) ∧ c ∉ θ') := fun j e => by
    rw [get] at e
    by_cases q : i = j
    · rw [if_pos q] at e; split at e <;> cases e
    · rw [if_neg q] at e
      obtain ⟨f, c, q', h1, h2, h3⟩ := r1.fun_ j e
      exact ⟨f, c, q', h1, (List.getElem?_set_ne q).trans h2, h3⟩
  refine ⟨m, fun j d e => ?_, fun j ys e => ?_, hfun, fun j l ys zs a e1 e2 e3 e4 => ?_, r1.sub, r1.anc, r.otr, r1.onew, by unfold setO; rw [List.length_set, List.length_set]; exact r.len⟩
  · rw [get] at e
    by_cases q : i = j
    · rw [if_pos q] at e; split at e <;> cases e
    · rw [if_neg q] at e
      rw [List.getElem?_set_ne q]
      exact r1.env j d e
  · rw [get] at e
    by_cases q : i = j
    · rw [if_pos q] at e
      split at e
      · rename_i z
        cases e
        subst q
        exact ⟨p, vs, List.getElem?_set_self (by rw [← r.len]; exact z), hv, rp, .inr rfl, hA⟩
      · cases e
    · rw [if_neg q] at e
      rw [List.getElem?_set_ne q]
      exact r1.own j ys e
  · rw [get] at e1 e2
    by_cases q : i = j
    · by_cases q' : i = l
      · exact q.symm.trans q'
      · rw [if_pos q] at e1
        rw [if_neg q'] at e2
        rw [List.getElem?_set_ne q'] at e4
        split at e1
        · rename_i z
          subst q
          rw [List.getElem?_set_self (by rw [← r.len]; exact z)] at e3
          cases e3
          exact absurd rfl (old l p zs e2 e4)
        · cases e1
    · by_cases q' : i = l
      · rw [if_neg q] at e1
        rw [if_pos q'] at e2
        rw [List.getElem?_set_ne q] at e3
        split at e2
        · rename_i z
          subst q'
          rw [List.getElem?_set_self (by rw [← r.len]; exact z)] at e4
          cases e4
          exact absurd rfl (old j p ys e1 e3)
        · cases e2
      · rw [if_neg q] at e1
        rw [if_neg q'] at e2
        rw [List.getElem?_set_ne q] at e3
        rw [List.getElem?_set_ne q'] at e4
        exact r.dis j l ys zs a e1 e2 e3 e4
theorem fs_own {H' : Hp} {θ' : List Addr} {p : Addr} (x : Ext θ θ' H H') (hp : Nn H p) : FS H O θ H' (fun a => O a ∨ a = p) θ' := x.fs fun a h => h.elim .inl fun e => .inr (by rw [e]; exact hp)
/-- the list of slot i is changed -/
theorem RS.putO {i : Nat} {xs ys : List D} {a : Addr} {ws : List V} (r : RS K A H O σ ρ θ M) (hx : ρ[i]? = some (some (Sl.o xs))) (ha : σ[i]? = some (some (V.ref a))) (rp : Reps K H O θ ys ws) : RS K A (upd H a (.lst ws)) O σ (setO ρ i ys) θ M ∧ FS H O θ (upd H a (.lst ws)) O θ := by
  obtain ⟨a', vs, b1, b2, b3, b4, b5⟩ := r.own i xs hx
  rw [ha] at b1
  cases b1
  have hi : i < ρ.length := (List.getElem?_eq_some_iff.mp hx).1
  have get : ∀ j, (setO ρ i ys)[j]? = if i = j then some (some (Sl.o ys)) else ρ[j]? := fun j => by
    unfold setO
    by_cases q : i = j
    · subst q; rw [List.getElem?_set_self hi]; simp
    · rw [List.getElem?_set_ne q]; simp [q]
  have st : Stays K H (upd H a (.lst ws)) O O θ θ := stays_put b4
  have hfun : ∀ j, (setO ρ i ys)[j]? = some (some Sl.f) → ∃ f c q, LXat A f c q ∧ σ[j]? = some (some (V.ref f)) ∧ (upd H a (.lst ws) c = some (LamX.CodeO c q) ∧ ¬ O c ∧ c ∉ θ) := fun j e => by
    rw [get] at e
    by_cases q : i = j
    · rw [if_pos q] at e; cases e
    · rw [if_neg q] at e
      obtain ⟨f, c, q', h1, h2, h3⟩ := r.fun_ j e
      exact ⟨f, c, q', h1, h2, by rw [upd_ne fun z => h3.2.1 (by rw [z]; exact b4)]; exact h3.1, h3.2⟩
  refine ⟨⟨r.rm.put b4, fun j d e => ?_, fun j zs e => ?_, hfun, fun j l zs ts c e1 e2 e3 e4 => ?_, r.sub, ?_, r.otr, r.onew, by unfold setO; rw [List.length_set]; exact r.len⟩, ?_⟩
  · rw [get] at e
    by_cases q : i = j
    · rw [if_pos q] at e; cases e
    · rw [if_neg q] at e
      obtain ⟨v, h1, h2⟩ := r.env j d e
      exact ⟨v, h1, Rep.stays st _ _ h2⟩
  · rw [get] at e
    by_cases q : i = j
    · rw [if_pos q] at e
      cases e
      subst q
      exact ⟨a, ws, ha, upd_same, Reps.stays st _ _ rp, b4, b5⟩
    · rw [if_neg q] at e
      obtain ⟨a2, vs2, c1, c2, c3, c4, c5⟩ := r.own j zs e
      have hne : a2 ≠ a := fun z => q (r.dis i j xs zs a hx e ha (by rw [← z]; exact c1))
      exact ⟨a2, vs2, c1, by rw [upd_ne hne]; exact c2, Reps.stays st _ _ c3, c4, c5⟩
  · have f : ∀ j zs, (setO ρ i ys)[j]? = some (some (Sl.o zs)) → ∃ zs', ρ[j]? = some (some (Sl.o zs')) := fun j zs e => by
      rw [get] at e
      by_cases q : i = j
      · subst q; exact ⟨xs, hx⟩
      · rw [if_neg q] at e; exact ⟨zs, e⟩
    obtain ⟨z1, f1⟩ := f j zs e1
    obtain ⟨z2, f2⟩ := f l ts e2
    exact r.dis j l z1 z2 c f1 f2 e3 e4
  · exact ⟨r.anc.pre, fun c o t n e => by rw [upd_ne fun z => by rw [z] at e; exact b5 _ t e]; exact r.anc.keep c o t n e, r.anc.fresh⟩
  · exact ⟨List.prefix_refl _, fun c o _ e n m => ⟨by rw [upd_ne fun z => n (by rw [z]; exact b4)]; exact e, n, m⟩⟩
/-- .. is frozen -/
theorem RS.frz {i : Nat} {xs : List D} (r : RS K A H O σ ρ θ M) (hx : ρ[i]? = some (some (Sl.o xs))) : ∃ O', RS K A H O' σ (setV ρ i (.lst xs)) θ M ∧ FS H O θ H O' θ := by
  obtain ⟨a, vs, b1, b2, b3, b4, b5⟩ := r.own i xs hx
  have hi : i < ρ.length := (List.getElem?_eq_some_iff.mp hx).1
  have get : ∀ j, (setV ρ i (.lst xs))[j]? = if i = j then some (some (Sl.v (.lst xs))) else ρ[j]? := fun j => by
    unfold setV
    by_cases q : i = j
    · subst q; rw [List.getElem?_set_self hi]; simp
    · rw [List.getElem?_set_ne q]; simp [q]
  have nθ : a ∉ θ := fun z => r.rm.noO a z b4
  have mn : ∀ c, (O c ∧ c ≠ a) → O c := fun c h => h.1
  have hfun : ∀ j, (setV ρ i (.lst xs))[j]? = some (some Sl.f) → ∃ f c q, LXat A f c q ∧ σ[j]? = some (some (V.ref f)) ∧ (H c = some (LamX.CodeO c q) ∧ ¬ (O c ∧ c ≠ a) ∧ c ∉ θ) := fun j e => by
    rw [get] at e
    by_cases q : i = j
    · rw [if_pos q] at e; cases e
    · rw [if_neg q] at e
      obtain ⟨f, c, q', h1, h2, h3⟩ := r.fun_ j e
      exact ⟨f, c, q', h1, h2, h3.1, fun z => h3.2.1 z.1, h3.2.2⟩
  refine ⟨fun c => O c ∧ c ≠ a, ⟨r.rm.mono mn, fun j d e => ?_, fun j zs e => ?_, hfun, fun j l zs ts c e1 e2 e3 e4 => ?_, fun c h => ⟨r.sub c h, fun z => ?_⟩, r.anc, r.otr, fun c h => r.onew c h.1, by unfold setV; rw [List.length_set]; exact r.len⟩, ?_⟩
  · rw [get] at e
    by_cases q : i = j
    · rw [if_pos q] at e
      cases e
      subst q
      exact ⟨_, b1, a, vs, rfl, ⟨.inl b2, fun z => z.2 rfl, nθ⟩, b3.mono mn⟩
    · rw [if_neg q] at e
      obtain ⟨v, h1, h2⟩ := r.env j d e
      exact ⟨v, h1, h2.mono mn⟩
  · rw [get] at e
    by_cases q : i = j
    · rw [if_pos q] at e; cases e
    · rw [if_neg q] at e
      obtain ⟨a2, vs2, c1, c2, c3, c4, c5⟩ := r.own j zs e
      have hne : a2 ≠ a := fun z => q (r.dis i j xs zs a hx e b1 (by rw [← z]; exact c1))
      exact ⟨a2, vs2, c1, c2, c3.mono mn, ⟨c4, hne⟩, c5⟩
  · rw [get] at e1 e2
    by_cases q : i = j
    · rw [if_pos q] at e1; cases e1
    · by_cases q' : i = l
      · rw [if_pos q'] at e2; cases e2
      · rw [if_neg q] at e1
        rw [if_neg q'] at e2
        exact r.dis j l zs ts c e1 e2 e3 e4
  · obtain ⟨o, e⟩ := r.otr c h
    rw [z] at e; exact b5 _ (nt_lst _) e
  · exact ⟨List.prefix_refl _, fun c o _ e n m => ⟨e, fun z => n z.1, m⟩⟩
end
end RC

set_option Elab.async false
set_option linter.all false
set_option autoImplicit false
set_option maxRecDepth 100000
set_option maxHeartbeats 2000000
namespace RC
open PySem PySem.Spec PyProof.Rows L2
variable [LX]
theorem kind_block {env : PySem.Env} (h : env.scope.kind = .function) : env.blockKind = .function := by
  unfold PySem.Env.blockKind
  rw [h]; rfl
theorem swaps_no {v : Expr} {t : Option Expr} {n : Nat} {env : PySem.Env} (h : notComp v = true) : swapsWith v t n env = pure false := by
  cases v <;> first | rfl | cases h
theorem swaps_lc {l : Expr} {gs : List Comprehension} {s : Scope} {q p : Pos} {x : Str} {n : Nat} {env : PySem.Env} (h : env.scope.kind = .function) : swapsWith (.ListComp l gs s q) (some (.Name x p)) n env = pure (swapB env.scope (.ListComp l gs s q) x p) := by
  have e1 : (env.blockKind == ScopeKind.function) = true := by rw [kind_block h]; rfl
  show (pure (env.blockKind == .function && env.kindOf x == some .local && p.line == q.line && !(s.names.any fun (n, k) => n == x && (k == .local || k == .cell))) : Sem Bool) = _
  rw [e1]
  have e2 : (env.kindOf x == some NameKind.local) = isLocal env.scope x := by
    show (env.scope.names.lookup x == some NameKind.local) = decide (env.scope.names.lookup x = some .local)
    cases env.scope.names.lookup x with
    | none => rfl
    | some kk => cases kk <;> rfl
  rw [e2]; rfl
/-- no two stores are swapped -/
def swNone (sc : Scope) (t v : Expr) : Bool := match v with
  | .Tuple vs _ _ => match t with
    | .Tuple ts _ _ => !(ts.all fun e => match e with | .Name x _ => isLocal sc x | _ => false) || vs.all (foldedForSure 8)
    | .List _ _ => false
    | _ => true
  | _ => true
theorem filterMap_len {α β : Type} (f : α → Option β) : ∀ l : List α, (l.filterMap f).length ≤ l.length
  | [] => Nat.le_refl _
  | a :: l => by
    rw [List.filterMap_cons]
    have := filterMap_len f l
    split
    · rw [List.length_cons]; omega
    · rw [List.length_cons, List.length_cons]; omega
theorem filterMap_short {α β : Type} (f : α → Option β) : ∀ l : List α, (∃ a ∈ l, f a = none) → (l.filterMap f).length < l.length
  | [], h => by obtain ⟨a, h, _⟩ := h; cases h
  | a :: l, h => by
    rw [List.filterMap_cons]
    have := filterMap_len f l
    cases z : f a with
    | none => rw [List.length_cons]; simp only []; omega
    | some b =>
      obtain ⟨c, hc, e⟩ := h
      rcases List.mem_cons.mp hc with rfl | hc
      · rw [z] at e; cases e
      · have := filterMap_short f l ⟨c, hc, e⟩
        simp only [List.length_cons]; omega
theorem swNone_ok {t v : Expr} {env : PySem.Env} (h : swNone env.scope t v = true) : swappedStores [t] v env = pure none := by
  cases v <;> first | (cases t <;> rfl) | skip
  rename_i vs k2 pt2
  cases t <;> first | rfl | cases h | skip
  rename_i ts kt pt
  have h' : (!(ts.all fun e => match e with | .Name x _ => isLocal env.scope x | _ => false) || vs.all (foldedForSure 8)) = true := h
  unfold swappedStores
  simp only []
  split
  · rfl
  split
  · rfl
  rcases Bool.or_eq_true_iff.mp h' with z | z
  · have z' : (ts.all fun e => match e with | .Name x _ => isLocal env.scope x | _ => false) = false := by simpa using z
    rw [List.all_eq_false] at z'
    obtain ⟨e, he, hz⟩ := z'
    split
    · rfl
    · rename_i hn
      rw [Bool.or_eq_true, not_or, bne_iff_ne, ne_eq, Classical.not_not] at hn
      refine absurd hn.1 (Nat.ne_of_lt (filterMap_short _ ts ⟨e, he, ?_⟩))
      cases e <;> first | rfl | skip
      rename_i x p
      have hx : isLocal env.scope x = false := by simpa using hz
      have hk : (env.kindOf x == some NameKind.local) = false := by
        unfold isLocal at hx
        have := of_decide_eq_false hx
        exact beq_eq_false_iff_ne.mpr this
      simp [hk]
  · split
    · rfl
    · rfl
end RC

set_option Elab.async false
set_option linter.all false
set_option autoImplicit false
set_option maxRecDepth 100000
set_option maxHeartbeats 2000000
/-! Each command's rule. -/
namespace RC
open PySem PySem.Spec PyProof.Rows L2
variable [LX]
section
variable {X : Cx} {J : Inf} {k : Nat} {W : WX}
theorem getO_eq {ρ : RC.Env} {i : Nat} {xs : List D} (h : getO ρ i = some xs) : ρ[i]? = some (some (Sl.o xs)) := by
  unfold getO at h
  split at h
  · rename_i ys e
    cases h; exact e
  · cases h
theorem getV_eq {ρ : RC.Env} {i : Nat} {d : D} (h : getV ρ i = some d) : ρ[i]? = some (some (Sl.v d)) := by
  unfold getV at h
  split at h
  · rename_i ys e
    cases h; exact e
  · cases h
/-- a list that + or * makes -/
theorem pn_bin {op : Operator} {o : BO} {a b : E} {l r : Expr} {pos : Pos} (ho : OpR X (binaryOp op) (rNew X.K (binF o))) (ha : PE X l (tX X.K J k W true a)) (hb : PE X r (tX X.K J k W true b)) : PE X (.BinOp l op r pos) (tN X.K J k W (.bin o a b)) := by
  refine PE.imp (pe_op ho ha hb) fun σ H Q ⟨A, ρ, M, θ, O, rs, h⟩ => ?_
  have e0 : ev (J.cfg k) (.bin o a b) ρ M = (ev (J.cfg k) a ρ M).bind fun x M1 => (ev (J.cfg k) b ρ M1).bind fun y M2 => Res.of M2 (binF o x y) := rfl
  rw [e0] at h
  refine ⟨A, ρ, M, θ, O, rs, ?_⟩
  cases z : ev (J.cfg k) a ρ M with
  | ok d1 M1 =>
    rw [z] at h
    intro θ1 H1 x1 m1 v1 r1
    have rs1 := rs.ext x1 m1
    refine ⟨A, ρ, M1, θ1, O, rs1, ?_⟩
    have e1 : (Res.ok d1 M1).bind (fun x M1 => (ev (J.cfg k) b ρ M1).bind fun y M2 => Res.of M2 (binF o x y)) = (ev (J.cfg k) b ρ M1).bind fun y M2 => Res.of M2 (binF o d1 y) := rfl
    rw [e1] at h
    cases z2 : ev (J.cfg k) b ρ M1 with
    | ok d2 M2 =>
      rw [z2] at h
      intro θ2 H2 x2 m2 v2 r2
      have e2 : (Res.ok d2 M2).bind (fun y M2 => Res.of M2 (binF o d1 y)) = Res.of M2 (binF o d1 d2) := rfl
      rw [e2] at h
      cases z3 : binF o d1 d2 with
      | none => rw [z3] at h; exact (show False from h).elim
      | some d =>
        rw [z3] at h
        obtain ⟨xs, ed, q⟩ := h
        subst ed
        refine ⟨O, θ2, d1, d2, xs, m2.tr, RepB.ext r1 x2, r2, z3, fun p vs hp rp => ?_⟩
        have hp0 : Nn H p := (x1.trans x2).none_of m2 hp
        exact q θ2 (upd H2 p (.lst vs)) p vs ((x1.trans x2).trans (sm_ext (sm_upd hp) θ2)) hp0 upd_same (m2.tr.new hp).2 (m2.own hp) (Reps.stays (stays_new (sm_ext (sm_upd hp) θ2) (nn_none hp)) _ _ rp)
    | exc c x M2 =>
      rw [z2] at h
      exact fun θ' H' cls da x2 m q => h θ' H' cls da (x1.trans x2) m q
    | stuck => rw [z2] at h; exact h
  | exc _ _ _ => rw [z] at h; exact h
  | stuck => rw [z] at h; exact h
/-- a list that is made here -/
def frB : E → Bool
  | .lst _ => true
  | .lc _ _ _ _ => true
  | .bin .add _ _ => true
  | .bin .mul _ _ => true
  | .bi .list _ => true
  | .bi .sorted _ => true
  | _ => false
theorem opn_ok {o : BO} {op : Operator} (h : boB o op = true) (hf : frB (.bin o (.var 0) (.var 0)) = true) : OpR X (binaryOp op) (rNew X.K (binF o)) := by
  cases o <;> first | cases hf | skip
  · cases op <;> first | cases h | skip
    exact opn_add
  · cases op <;> first | cases h | skip
    exact opn_mul
/-- what a list-making call's tN asks of its arguments -/
theorem pn_bi0 {bi : Bi} {xs : Es} {σ : L2.St} {H : Hp} {Q : VK} (h : tN X.K J k W (.bi bi xs) σ H Q) : tXs X.K J k W true xs σ H fun vs H1 => rCallN X.K (biF bi) vs H1 Q := by
  obtain ⟨A, ρ, M, θ, O, rs, h⟩ := h
  have e0 : ev (J.cfg k) (.bi bi xs) ρ M = (evs (J.cfg k) xs ρ M).bind fun ds M1 => Res.of M1 (biF bi ds) := rfl
  rw [e0] at h
  refine ⟨A, ρ, M, θ, O, rs, ?_⟩
  cases z : evs (J.cfg k) xs ρ M with
  | ok ds M1 =>
    rw [z] at h
    intro θ1 H1 x1 m1 vs r1
    have r1 : RepsB X.K H1 O θ1 ds vs := r1
    have e1 : (Res.ok ds M1).bind (fun ds M1 => Res.of M1 (biF bi ds)) = Res.of M1 (biF bi ds) := rfl
    rw [e1] at h
    cases z2 : biF bi ds with
    | none => rw [z2] at h; exact (show False from h).elim
    | some d =>
      rw [z2] at h
      obtain ⟨zs, ed, q⟩ := h
      subst ed
      exact ⟨O, θ1, ds, zs, m1.tr, r1, z2, fun p vs hp rp => q θ1 (upd H1 p (.lst vs)) p vs (x1.trans (sm_ext (sm_upd hp) θ1)) (x1.none_of m1 hp) upd_same (m1.tr.new hp).2 (m1.own hp) (Reps.stays (stays_new (sm_ext (sm_upd hp) θ1) (nn_none hp)) _ _ rp)⟩
  | exc c x M2 => rw [z] at h; exact h
  | stuck => rw [z] at h; exact h
theorem pn_bi {bi : Bi} {y : Str} {e : Expr} {es : List Expr} {xs : Es} {p pos : Pos} (hx : XOk J k X) (hf : frB (.bi bi xs) = true) (h : biName bi = some y) (hg : Gl X y) (ha : PA X (e :: es) (tXs X.K J k W true xs))
    (he : starEach (e :: es) X.env = (false, eval e X.env) :: starEach es X.env) (hpl : (backTo pos (starEach es X.env)).any (·.1) = false) : PE X (.Call (.Name y p) (e :: es) [] pos) (tN X.K J k W (.bi bi xs)) := by
  have hc := hx.calm
  cases bi <;> first | cases hf | skip
  · cases h
    exact PE.imp (pe_callTy (bi_listN hc) hg (hx.blt _ (by decide)) PyProof.Rows.boot_list ha (by decide) (by decide) he hpl) fun σ H Q q => pn_bi0 q
  · cases h
    exact PE.imp (pe_callB (bi_sortedN hx hc) hg (hx.blt _ (by decide)) boot_sorted ha (by decide) (by decide) he hpl) fun σ H Q q => pn_bi0 q
theorem pn_ok {e : E} {x : Expr} (hx : XOk J k X) (tk : Takes X W) (hf : frB e = true) (h : chkE (J.sg X.N) false e X.env.scope x = true) : PE X x (tN X.K J k W e) := by
  cases e <;> first | cases hf | skip
  · rename_i o a b
    cases x <;> first | cases h | skip
    obtain ⟨h1, h2, h3⟩ := and3 h
    exact pn_bin (opn_ok h1 (by cases o <;> first | rfl | cases hf)) (pe_ok a J k true X W _ hx tk h2) (pe_ok b J k true X W _ hx tk h3)
  · rename_i bi es
    cases x <;> first | cases h | skip
    rename_i g as ks pos
    cases g <;> first | cases h | skip
    cases ks with
    | cons _ _ => cases h
    | nil =>
      obtain ⟨h1, h2, h3, h4⟩ := and4 h
      cases as with
      | nil => cases h4
      | cons e rest =>
        cases es with
        | nil => cases h3
        | cons a r =>
          obtain ⟨q1, q2⟩ := and2 (show (chkE (J.sg X.N) true a X.env.scope e && chkEs (J.sg X.N) true r X.env.scope rest) = true from h3)
          exact pn_bi hx hf (of_decide_eq_true h1) (globB_ok h2) (pa_d_cons (pe_ok a J k true X W e hx tk q1) (pa_ok r J k true X W rest hx tk q2) (star_of (chkE_star q1))) (star_of (chkE_star q1)) (stars_of q2)
  · cases x <;> first | cases h | skip
    obtain ⟨h1, h2⟩ := and2 h
    have hl := chkEs_len _ _ h1
    exact pn_lst (pa_ok _ J k false X W _ hx tk h1) (by rw [hl]; exact of_decide_eq_true h2)
  · exact lc_parts hx h (fun t i q => pi_ok _ J k X W t i hx tk q) (fun Y ifs hN hK hy q1 q2 q3 => by
      rw [← hK]; rw [← hN] at q1
      exact pts_ok _ J.off k Y W0 ifs hy takes0 q1 q2 q3) fun Y l hN hK hy q => by
      rw [← hK]; rw [← hN] at q
      exact pe_ok _ J.off k false Y W0 l hy takes0 q
theorem ps_lc {tg : Tg} {it : RC.It} {cs : Es} {elt : E} {i : Nat} {y : Str} {py spos : Pos} {x : Expr} (hx : XOk J k X) (tk : Takes X W) (hfn : ∀ z, X.fn z = true) (hy : X.N[i]? = some y) (hl : locB X.env.scope y = true) (h : chkE (J.sg X.N) false (.lc tg it cs elt) X.env.scope x = true) :
    PS X (.Assign [.Name y py] x spos) (tAsg (tN X.K J k W (.lc tg it cs elt)) (gName i)) := by
  have hp := pn_ok hx tk rfl h
  cases x <;> first | cases h | skip
  rename_i l gs scope pos
  cases sw : swapB X.env.scope (.ListComp l gs scope pos) y py with
  | false => exact ps_set hx.nd hy (locB_ok hl) hp (by rw [swaps_lc hx.kind, sw]) (.inl (hfn y))
  | true =>
    match gs, h with
    | [⟨t, i', ifs, as⟩], h =>
      have sw' : (isLocal X.env.scope y && (py.line == pos.line) && !(scope.names.any fun (n, k) => n == y && (k == .local || k == .cell))) = true := sw
      have hloc : X.env.scope.names.lookup y = some .local := of_decide_eq_true (and3 sw').1
      obtain ⟨h0, h9, h10⟩ := and3 h
      obtain ⟨h0, h6, h7, h8⟩ := and4 h0
      obtain ⟨h0, h4, h5⟩ := and3 h0
      obtain ⟨h1, h2, h3⟩ := and3 h0
      have e : as = 0 := of_decide_eq_true h1
      subst e
      have ok := blkOk_by h9
      have q := ps_setLc (py := py) (spos := spos) (pos := pos) (wi := tI X.K J k W false it) (g := gX X.K tg) (tt := tCs X.K J k W0 cs) (te := tX X.K J k W0 false elt) hx.calm hx.nd hy hloc (by rw [swaps_lc hx.kind, sw]) (pi_ok it J k X W t i' hx tk h2) ok
        (fun s H C cl fp => pg_ok (X := X.blk s H scope (compEnvC scope cl C X.env) fp) (S := J.sg X.N) rfl hx.calm hx.nd (blk_loc s H C cl fp) tg t h3)
        (fun s H C cl fp => pts_ok cs J.off k (X.blk s H scope (compEnvC scope cl C X.env) fp) W0 ifs (xok_blk hx ok s H C cl fp) takes0 h4 h5 (of_decide_eq_true h6))
        (fun s H C cl fp => pe_ok elt J.off k false (X.blk s H scope (compEnvC scope cl C X.env) fp) W0 l (xok_blk hx ok s H C cl fp) takes0 h7) (folded_of h8)
      rw [of_decide_eq_true h10] at q
      exact PS.imp q fun D σ H h => lc_rule h
/-! ### stores -/
theorem ps_d_set {st : Stmt} {i : Nat} {e : E} (h : PS X st (tAsg (tX X.K J k W false e) (gName i))) : PS X st (tS X.K J k W (.set i e)) :=
  PS.imp h fun Dn σ H ⟨A, ρ, M, θ, O, rs, post⟩ => tX_of rs (Post.thn rs post) fun d M1 θ1 H1 x rs1 h1 v rv => h1 (σ.set i (some v)) H1 θ1 O (FS.refl _ _ _) (rs1.set i rv)
theorem ps_d_setN {st : Stmt} {i : Nat} {e : E} (hl : ∀ ρ M d M', ev (J.cfg k) e ρ M = .ok d M' → ∃ xs, d = .lst xs) (h : PS X st (tAsg (tN X.K J k W e) (gName i))) : PS X st (tS X.K J k W (.set i e)) :=
  ps_d_set (PS.imp h fun Dn σ H q => tN_tX (X := X) (bb := false) hl q)
theorem ps_d_own {st : Stmt} {i : Nat} {e : E} (h : PS X st (tAsg (tN X.K J k W e) (gName i))) : PS X st (tS X.K J k W (.own i e)) :=
  PS.imp h fun Dn σ H ⟨A, ρ, M, θ, O, rs, post⟩ => by
    refine ⟨A, ρ, M, θ, O, rs, ?_⟩
    have post' : Post X.K J W A Dn H O θ ((ev (J.cfg k) e ρ M).then_ ρ fun d M1 => match d with
      | .lst xs => .next (setO ρ i xs) M1
      | _ => .stuck) := post
    cases z : ev (J.cfg k) e ρ M with
    | ok d M1 =>
      rw [z] at post'
      cases d <;> first | exact (show False from post').elim | skip
      rename_i xs
      exact ⟨xs, rfl, fun θ' H' p vs x hp hv hn m r => post' _ H' θ' _ (fs_own x hp) (RS.newO i rs x hp hv m r)⟩
    | exc c v M1 =>
      rw [z] at post'
      exact fun θ' H' cls da x m q => post' σ H' θ' O cls da (ext_fs x) (rs.ext x m) q
    | stuck => rw [z] at post'; exact post'
theorem ps_d_asg {st : Stmt} {tg : Tg} {e : E} (h : PS X st (tAsg (tX X.K J k W false e) (gX X.K tg))) : PS X st (tS X.K J k W (.asg tg e)) :=
  PS.imp h fun Dn σ H ⟨A, ρ, M, θ, O, rs, post⟩ => tX_of rs (Post.thn rs post) fun d M1 θ1 H1 x rs1 h1 v rv => by
    cases z : bindT tg d ρ with
    | none => rw [z] at h1; exact (show False from h1).elim
    | some ρ' =>
      rw [z] at h1
      exact ⟨A, ρ, M1, θ1, O, d, ρ', rs1, rv, z, fun σ' o rs' => h1 σ' H1 θ1 O (FS.refl _ _ _) rs'⟩
theorem evs2 {cf : Cfg} {a b : E} {ρ : RC.Env} {M : Store} : evs cf (.cons a (.cons b .nil)) ρ M = (ev cf a ρ M).bind fun x M1 => (ev cf b ρ M1).bind fun y M2 => .ok [x, y] M2 := by
  show ((ev cf a ρ M).bind fun x M1 => (((ev cf b ρ M1).bind fun y M2 => Res.ok [y] M2).bind fun xs M2 => .ok (x :: xs) M2)) = _
  congr 1
  funext x M1
  cases ev cf b ρ M1 <;> rfl
theorem evs3 {cf : Cfg} {a b c : E} {ρ : RC.Env} {M : Store} : evs cf (.cons a (.cons b (.cons c .nil))) ρ M = (ev cf a ρ M).bind fun x M1 => (ev cf b ρ M1).bind fun y M2 => (ev cf c ρ M2).bind fun z M3 => .ok [x, y, z] M3 := by
  show ((ev cf a ρ M).bind fun x M1 => ((evs cf (.cons b (.cons c .nil)) ρ M1).bind fun xs M2 => .ok (x :: xs) M2)) = _
  congr 1
  funext x M1
  rw [evs2]
  cases ev cf b ρ M1 with
  | ok y M2 =>
    show (((ev cf c ρ M2).bind fun z M3 => Res.ok [y, z] M3).bind fun xs M2 => .ok (x :: xs) M2) = (ev cf c ρ M2).bind fun z M3 => Res.ok [x, y, z] M3
    cases ev cf c ρ M2 <;> rfl
  | exc _ _ _ => rfl
  | stuck => rfl
theorem reps2 {K : PySem.W.Frag} {H : Hp} {O : OSet} {θ : List Addr} {a b : D} {vs : List V} (h : Reps K H O θ [a, b] vs) : ∃ v w, vs = [v, w] ∧ Rep K H O θ a v ∧ Rep K H O θ b w := by
  obtain ⟨v, r, rfl, h1, w, r', rfl, h2, h3⟩ := h
  cases h3
  exact ⟨v, w, rfl, h1, h2⟩
theorem reps3 {K : PySem.W.Frag} {H : Hp} {O : OSet} {θ : List Addr} {a b c : D} {vs : List V} (h : Reps K H O θ [a, b, c] vs) : ∃ v w u, vs = [v, w, u] ∧ Rep K H O θ a v ∧ Rep K H O θ b w ∧ Rep K H O θ c u := by
  obtain ⟨v, r, rfl, h1, h⟩ := h
  obtain ⟨w, u, rfl, h2, h3⟩ := reps2 h
  exact ⟨v, w, u, rfl, h1, h2, h3⟩
theorem ps_d_par2 {st : Stmt} {i j : Nat} {a b : E} (h : PS X st (tPar i j (tXs X.K J k W false (.cons a (.cons b .nil))))) : PS X st (tS X.K J k W (.par2 i j a b)) :=
  PS.imp h fun Dn σ H ⟨A, ρ, M, θ, O, rs, post⟩ => by
    have post' : Post X.K J W A Dn H O θ ((evs (J.cfg k) (.cons a (.cons b .nil)) ρ M).then_ ρ fun ds M2 => match ds with
      | [x, y] => .next (setV (setV ρ i x) j y) M2
      | _ => .stuck) := by
      rw [evs2]
      have p0 : Post X.K J W A Dn H O θ ((ev (J.cfg k) a ρ M).then_ ρ fun x M1 => (ev (J.cfg k) b ρ M1).then_ ρ fun y M2 => .next (setV (setV ρ i x) j y) M2) := post
      cases z : ev (J.cfg k) a ρ M with
      | ok x M1 =>
        rw [z] at p0
        have p1 : Post X.K J W A Dn H O θ ((ev (J.cfg k) b ρ M1).then_ ρ fun y M2 => .next (setV (setV ρ i x) j y) M2) := p0
        show Post X.K J W A Dn H O θ (((ev (J.cfg k) b ρ M1).bind fun y M2 => Res.ok [x, y] M2).then_ ρ _)
        cases z2 : ev (J.cfg k) b ρ M1 with
        | ok y M2 => rw [z2] at p1; exact p1
        | exc _ _ _ => rw [z2] at p1; exact p1
        | stuck => rw [z2] at p1; exact p1
      | exc _ _ _ => rw [z] at p0; exact p0
      | stuck => rw [z] at p0; exact p0
    refine tXs_of rs ((Post.thn rs post').len) fun ds M1 θ1 H1 x rs1 ⟨hl, h1⟩ vs rv => ?_
    have rv : Reps X.K H1 O θ1 ds vs := rv
    match ds, hl, h1, rv with
    | [d1, d2], _, h1, rv =>
      obtain ⟨v, w, rfl, r1, r2⟩ := reps2 rv
      exact ⟨v, w, rfl, h1 _ H1 θ1 O (FS.refl _ _ _) ((rs1.set i r1).set j r2)⟩
theorem ps_d_par3 {st : Stmt} {i j l : Nat} {a b c : E} (h : PS X st (tPar3 i j l (tXs X.K J k W false (.cons a (.cons b (.cons c .nil)))))) : PS X st (tS X.K J k W (.par3 i j l a b c)) :=
  PS.imp h fun Dn σ H ⟨A, ρ, M, θ, O, rs, post⟩ => by
    have post' : Post X.K J W A Dn H O θ ((evs (J.cfg k) (.cons a (.cons b (.cons c .nil))) ρ M).then_ ρ fun ds M2 => match ds with
      | [x, y, z] => .next (setV (setV (setV ρ i x) j y) l z) M2
      | _ => .stuck) := by
      rw [evs3]
      have p0 : Post X.K J W A Dn H O θ ((ev (J.cfg k) a ρ M).then_ ρ fun x M1 => (ev (J.cfg k) b ρ M1).then_ ρ fun y M2 => (ev (J.cfg k) c ρ M2).then_ ρ fun z M3 => .next (setV (setV (setV ρ i x) j y) l z) M3) := post
      cases z : ev (J.cfg k) a ρ M with
      | ok x M1 =>
        rw [z] at p0
        have p1 : Post X.K J W A Dn H O θ ((ev (J.cfg k) b ρ M1).then_ ρ fun y M2 => (ev (J.cfg k) c ρ M2).then_ ρ fun z M3 => .next (setV (setV (setV ρ i x) j y) l z) M3) := p0
        show Post X.K J W A Dn H O θ (((ev (J.cfg k) b ρ M1).bind fun y M2 => (ev (J.cfg k) c ρ M2).bind fun z M3 => Res.ok [x, y, z] M3).then_ ρ _)
        cases z2 : ev (J.cfg k) b ρ M1 with
        | ok y M2 =>
          rw [z2] at p1
          have p2 : Post X.K J W A Dn H O θ ((ev (J.cfg k) c ρ M2).then_ ρ fun z M3 => .next (setV (setV (setV ρ i x) j y) l z) M3) := p1
          show Post X.K J W A Dn H O θ (((ev (J.cfg k) c ρ M2).bind fun z M3 => Res.ok [x, y, z] M3).then_ ρ _)
          cases z3 : ev (J.cfg k) c ρ M2 with
          | ok y M2 => rw [z3] at p2; exact p2
          | exc _ _ _ => rw [z3] at p2; exact p2
          | stuck => rw [z3] at p2; exact p2
        | exc _ _ _ => rw [z2] at p1; exact p1
        | stuck => rw [z2] at p1; exact p1
      | exc _ _ _ => rw [z] at p0; exact p0
      | stuck => rw [z] at p0; exact p0
    refine tXs_of rs ((Post.thn rs post').len) fun ds M1 θ1 H1 x rs1 ⟨hl, h1⟩ vs rv => ?_
    have rv : Reps X.K H1 O θ1 ds vs := rv
    match ds, hl, h1, rv with
    | [d1, d2, d3], _, h1, rv =>
      obtain ⟨v, w, u, rfl, r1, r2, r3⟩ := reps3 rv
      exact ⟨v, w, u, rfl, h1 _ H1 θ1 O (FS.refl _ _ _) (((rs1.set i r1).set j r2).set l r3)⟩
/-! ### op= -/
def rAug (K : PySem.W.Frag) (o : BO) : TIp := fun x y H Q => ∃ O θ a b d, Rep K H O θ a x ∧ Rep K H O θ b y ∧ augF o a b = some d ∧ ∀ v, (∀ O' θ', Rep K H O' θ' d v) → Q v H
theorem ip_add_ok : PIp X .Add (rAug X.K .add) := by
  intro pins s σ H x y v u Q I r1 r2 h
  obtain ⟨O, θ, a, b, d, ra, rb, e, q⟩ := h
  cases a <;> first | cases e | skip
  · rename_i i
    cases b <;> first | cases e | skip
    rename_i j
    have ex : x = .int i := ra
    have ey : y = .int j := rb
    subst ex ey
    exact ip_add pins s σ H _ _ v u Q I r1 r2 ⟨i, j, rfl, rfl, q _ fun _ _ => rfl⟩
  · rename_i i
    cases b <;> first | cases e | skip
    rename_i j
    have e' : (if i.length + j.length ≤ SZ then some (D.str (i ++ j)) else none) = some d := e
    split at e'
    · rename_i hz
      cases e'
      have ex : x = .str ⟨i.toArray⟩ := ra
      have ey : y = .str ⟨j.toArray⟩ := rb
      subst ex ey
      refine iop_add_str pins s σ H _ _ v u Q I r1 r2 ⟨_, _, rfl, rfl, ?_, q _ fun _ _ => ?_⟩
      · rw [sV_length, sV_length, ← SZ_line]; exact hz
      · show V.str _ = _
        rw [sV_append]; rfl
    · cases e'
theorem ip_sub_ok : PIp X .Sub (rAug X.K .sub) := by
  intro pins s σ H x y v u Q I r1 r2 h
  obtain ⟨O, θ, a, b, d, ra, rb, e, q⟩ := h
  cases a <;> first | cases e | skip
  rename_i i
  cases b <;> first | cases e | skip
  rename_i j
  have ex : x = .int i := ra
  have ey : y = .int j := rb
  subst ex ey
  exact ip_sub pins s σ H _ _ v u Q I r1 r2 ⟨i, j, rfl, rfl, q _ fun _ _ => rfl⟩
theorem ps_d_aug {st : Stmt} {i : Nat} {o : BO} {e : E} (h : PS X st (tAug i (tX X.K J k W false e) (rAug X.K o))) : PS X st (tS X.K J k W (.aug i o e)) :=
  PS.imp h fun Dn σ H ⟨A, ρ, M, θ, O, rs, post⟩ => by
    have post' : Post X.K J W A Dn H O θ (match getV ρ i with
      | some x => (ev (J.cfg k) e ρ M).then_ ρ fun y M1 => match augF o x y with
        | some d => .next (setV ρ i d) M1
        | none => .stuck
      | none => .stuck) := post
    cases z : getV ρ i with
    | none => rw [z] at post'; exact (show False from post').elim
    | some x =>
      rw [z] at post'
      obtain ⟨v, h1, h2⟩ := rs.env i x (getV_eq z)
      refine ⟨v, h1, tX_of rs (Post.thn rs post') fun d M1 θ1 H1 x1 rs1 h1 w rw' => ?_⟩
      cases z2 : augF o x d with
      | none => rw [z2] at h1; exact (show False from h1).elim
      | some dd =>
        rw [z2] at h1
        exact ⟨O, θ1, x, d, dd, h2.ext x1, rw', z2, fun u ru => h1 _ H1 θ1 O (FS.refl _ _ _) (rs1.set i (ru O θ1))⟩
/-! ### lists of the frame's own -/
theorem tyV_own {K : PySem.W.Frag} {H : Hp} {a : Addr} {vs : List V} (h : H a = some (.lst vs)) : tyV K "list" (.ref a) H := .inl ⟨rfl, vs, SqL.of h⟩
theorem ps_d_app {st : Stmt} {i : Nat} {e : E} (h : PS X st (tDrop (tBM X.K "list" rAppend (tVar i) (tXs X.K J k W false (.cons e .nil))))) : PS X st (tS X.K J k W (.app i e)) :=
  PS.imp h fun Dn σ H ⟨A, ρ, M, θ, O, rs, post⟩ => by
    have post' : Post X.K J W A Dn H O θ (match getO ρ i with
      | some xs => (ev (J.cfg k) e ρ M).then_ ρ fun d M1 => if xs.length < SZ then .next (setO ρ i (xs ++ [d])) M1 else .stuck
      | none => .stuck) := post
    cases z : getO ρ i with
    | none => rw [z] at post'; exact (show False from post').elim
    | some xs =>
      rw [z] at post'
      obtain ⟨a, vs, h1, h2, h3, h4, h5⟩ := rs.own i xs (getO_eq z)
      refine ⟨.ref a, h1, tyV_own h2, ?_⟩
      have p1 : Post X.K J W A Dn H O θ ((evs (J.cfg k) (.cons e .nil) ρ M).then_ ρ fun ds M1 => match ds with
        | [d] => if xs.length < SZ then .next (setO ρ i (xs ++ [d])) M1 else .stuck
        | _ => .stuck) := by
        show Post X.K J W A Dn H O θ (((ev (J.cfg k) e ρ M).bind fun x M1 => Res.ok [x] M1).then_ ρ _)
        cases z2 : ev (J.cfg k) e ρ M with
        | ok y M2 => rw [z2] at post'; exact post'
        | exc _ _ _ => rw [z2] at post'; exact post'
        | stuck => rw [z2] at post'; exact post'
      refine tXs_of rs ((Post.thn rs p1).len) fun ds M1 θ1 H1 x rs1 ⟨hl, q1⟩ ws rv => ?_
      have rv : Reps X.K H1 O θ1 ds ws := rv
      match ds, hl, q1, rv with
      | [d], _, q1, ⟨v, r', er, r1, r2⟩ =>
        cases r2
        subst er
        obtain ⟨a', vs', g1, g2, g3, g4, g5⟩ := rs1.own i xs (getO_eq z)
        rw [h1] at g1
        cases g1
        by_cases hz : xs.length < SZ
        · have q2 : Post X.K J W A Dn H1 O θ1 (.next (setO ρ i (xs ++ [d])) M1) := by simpa only [hz, if_true] using q1
          obtain ⟨rs2, fs2⟩ := rs1.putO (ys := xs ++ [d]) (ws := vs' ++ [v]) (getO_eq z) h1 (g3.append (Reps.one r1))
          exact ⟨a, vs', v, rfl, rfl, g2, by rw [← g3.length, ← SZ_line]; exact hz, q2 _ _ _ _ fs2 rs2⟩
        · have q2 : Post X.K J W A Dn H1 O θ1 .stuck := by simpa only [hz, if_false] using q1
          exact q2.elim
end
end RC

set_option Elab.async false
set_option linter.all false
set_option autoImplicit false
set_option maxRecDepth 100000
set_option maxHeartbeats 2000000
/-! Two stores at once, some of new lists that the frame keeps. -/
namespace RC
open PySem PySem.Spec PyProof.Rows L2
variable [LX]
section
variable {K : PySem.W.Frag} {J : Inf} {k : Nat} {W : WX} {A : Anc} {Dn : Ends} {O O1 : OSet} {σ : L2.St} {ρ : RC.Env} {θ θ1 : List Addr} {H H1 : Hp} {M : Store}
/-- a slot gets a list that is the frame's already and stands in no slot -/
theorem RS.setOwn {p : Addr} {vs : List V} {xs : List D} (i : Nat) (r : RS K A H O σ ρ θ M) (hO : O p) (hv : H p = some (.lst vs)) (rp : Reps K H O θ xs vs) (hA : Nn A.H p) (hne : ∀ (j : Nat) (ys : List D), ρ[j]? = some (some (Sl.o ys)) → σ[j]? ≠ some (some (V.ref p))) :
    RS K A H O (σ.set i (some (.ref p))) (setO ρ i xs) θ M := by
  have get : ∀ j, (setO ρ i xs)[j]? = if i = j then (if i < ρ.length then some (some (Sl.o xs)) else none) else ρ[j]? := fun j => by
    unfold setO
    by_cases q : i = j
    · subst q
      by_cases z : i < ρ.length
      · rw [List.getElem?_set_self z]; simp [z]
      · rw [List.getElem?_eq_none (by simpa using z)]; simp [z]
    · rw [List.getElem?_set_ne q]; simp [q]
  refine ⟨r.rm, fun j d e => ?_, fun j ys e => ?_, fun j e => ?_, fun j l ys zs a e1 e2 e3 e4 => ?_, r.sub, r.anc, r.otr, r.onew, by unfold setO; rw [List.length_set, List.length_set]; exact r.len⟩
  · rw [get] at e
    by_cases q : i = j
    · rw [if_pos q] at e; split at e <;> cases e
    · rw [if_neg q] at e
      rw [List.getElem?_set_ne q]
      exact r.env j d e
  · rw [get] at e
    by_cases q : i = j
    · rw [if_pos q] at e
      split at e
      · rename_i z
        cases e
        subst q
        exact ⟨p, vs, List.getElem?_set_self (by rw [← r.len]; exact z), hv, rp, hO, hA⟩
      · cases e
    · rw [if_neg q] at e
      rw [List.getElem?_set_ne q]
      exact r.own j ys e
  · rw [get] at e
    by_cases q : i = j
    · rw [if_pos q] at e; split at e <;> cases e
    · rw [if_neg q] at e
      obtain ⟨f, c, q', h1, h2, h3⟩ := r.fun_ j e
      exact ⟨f, c, q', h1, (List.getElem?_set_ne q).trans h2, h3⟩
  · rw [get] at e1 e2
    by_cases q : i = j
    · by_cases q' : i = l
      · exact q.symm.trans q'
      · rw [if_pos q] at e1
        rw [if_neg q'] at e2
        rw [List.getElem?_set_ne q'] at e4
        split at e1
        · rename_i z
          subst q
          rw [List.getElem?_set_self (by rw [← r.len]; exact z)] at e3
          cases e3
          exact absurd e4 (hne l zs e2)
        · cases e1
    · by_cases q' : i = l
      · rw [if_neg q] at e1
        rw [if_pos q'] at e2
        rw [List.getElem?_set_ne q] at e3
        split at e2
        · rename_i z
          subst q'
          rw [List.getElem?_set_self (by rw [← r.len]; exact z)] at e4
          cases e4
          exact absurd e3 (hne j ys e1)
        · cases e2
      · rw [if_neg q] at e1
        rw [if_neg q'] at e2
        rw [List.getElem?_set_ne q] at e3
        rw [List.getElem?_set_ne q'] at e4
        exact r.dis j l ys zs a e1 e2 e3 e4
end
section
variable {X : Cx} {J : Inf} {k : Nat} {W : WX}
/-- a value, or a new list that the frame keeps -/
def tF (K : PySem.W.Frag) (J : Inf) (k : Nat) (W : WX) (f : Bool) (e : E) : TE := if f = true then tN K J k W e else tX K J k W false e
theorem set_comm2 {ρ : RC.Env} {i j : Nat} {a b : Option Sl} (h : i ≠ j) : (ρ.set i a).set j b = (ρ.set j b).set i a := List.set_comm _ _ h
theorem ps_d_par2o {st : Stmt} {i j : Nat} {fa fb : Bool} {a b : E} (hij : i ≠ j) (h : PS X st (tPar i j fun σ H Q => tF X.K J k W fa a σ H fun v H1 => tF X.K J k W fb b σ H1 fun w H2 => Q [v, w] H2)) : PS X st (tS X.K J k W (.par2o i j fa fb a b)) :=
  PS.imp h fun Dn σ H ⟨A, ρ, M, θ, O, rs, post⟩ => by
    have post' : Post X.K J W A Dn H O θ ((ev (J.cfg k) a ρ M).then_ ρ fun x M1 => if okF fa x = true then (ev (J.cfg k) b ρ M1).then_ ρ fun y M2 => orStuck ((putF fa ρ i x).bind fun ρ1 => putF fb ρ1 j y) M2 else .stuck) := post
    show tF X.K J k W fa a σ H _
    cases fa with
    | false =>
      show tX X.K J k W false a σ H _
      refine tX_of rs (Post.thn rs post') fun d M1 θ1 H1 x1 rs1 h1 v rv => ?_
      rw [if_pos (by cases d <;> rfl)] at h1
      have rv : Rep X.K H1 O θ1 d v := rv
      cases fb with
      | false =>
        show tX X.K J k W false b σ H1 _
        refine tX_of rs1 (Post.thn rs1 h1) fun d2 M2 θ2 H2 x2 rs2 h2 w rw' => ?_
        have rw' : Rep X.K H2 O θ2 d2 w := rw'
        exact ⟨v, w, rfl, h2 _ H2 θ2 O (FS.refl _ _ _) ((rs2.set i (rv.ext x2)).set j rw')⟩
      | true =>
        rw [show tF X.K J k W true b = tN X.K J k W b from if_pos rfl]
        refine ⟨A, ρ, M1, θ1, O, rs1, ?_⟩
        cases z : ev (J.cfg k) b ρ M1 with
        | ok d2 M2 =>
          rw [z] at h1
          have h1 : Post X.K J W A Dn H1 O θ1 (orStuck ((putF false ρ i d).bind fun ρ1 => putF true ρ1 j d2) M2) := h1
          cases d2 <;> first | exact (show False from h1).elim | skip
          rename_i ys _
          refine ⟨ys, rfl, fun θ' H' p vs x hp hv hn m r => ⟨v, .ref p, rfl, ?_⟩⟩
          have r2 := (RS.newO j rs1 x hp hv m r).set i (Rep.stays (stays_new x hp) _ _ rv)
          have e1 : (σ.set i (some v)).set j (some (V.ref p)) = (σ.set j (some (V.ref p))).set i (some v) := List.set_comm _ _ hij
          have e2 : setO (setV ρ i d) j ys = setV (setO ρ j ys) i d := set_comm2 hij
          have h1 : Post X.K J W A Dn H1 O θ1 (.next (setO (setV ρ i d) j ys) M2) := h1
          rw [e1]
          rw [e2] at h1
          exact h1 _ H' θ' _ (fs_own x hp) r2
        | exc c v2 M2 =>
          rw [z] at h1
          exact fun θ' H' cls da x m q => h1 σ H' θ' O cls da (ext_fs x) (rs1.ext x m) q
        | stuck => rw [z] at h1; exact h1
    | true =>
      rw [show tF X.K J k W true a = tN X.K J k W a from if_pos rfl]
      refine ⟨A, ρ, M, θ, O, rs, ?_⟩
      cases z : ev (J.cfg k) a ρ M with
      | ok d1 M1 =>
        rw [z] at post'
        have post' : Post X.K J W A Dn H O θ (if okF true d1 = true then (ev (J.cfg k) b ρ M1).then_ ρ fun y M2 => orStuck ((putF true ρ i d1).bind fun ρ1 => putF fb ρ1 j y) M2 else .stuck) := post'
        cases d1 <;> first | exact (show False from post').elim | skip
        rename_i xs _
        have post' : Post X.K J W A Dn H O θ ((ev (J.cfg k) b ρ M1).then_ ρ fun y M2 => orStuck (putF fb (setO ρ i xs) j y) M2) := post'
        refine ⟨xs, rfl, fun θ1 H1 p vs x1 hp hv hn m1 r1 => ?_⟩
        have hO : ∀ c, (O c ∨ c = p) → O c ∨ Nn H c := fun c h => h.elim .inl fun e => .inr (by rw [e]; exact hp)
        have rs1 : RS X.K A H1 (fun c => O c ∨ c = p) σ ρ θ1 M1 := rs.extO x1 m1 hO fun c h => .inl h
        have hA : Nn A.H p := rs.anc.nn_of rs.rm hp
        have hne : ∀ (l : Nat) (ys : List D), ρ[l]? = some (some (Sl.o ys)) → σ[l]? ≠ some (some (V.ref p)) := fun l ys e1 e2 => by
          obtain ⟨c, us, b1, b2, _⟩ := rs.own l ys e1
          rw [e2] at b1
          cases b1
          exact hp _ (nt_lst _) b2
        have post1 := Post.shift post' (fs_own x1 hp)
        have keep : ∀ {θ' : List Addr} {H' : Hp}, Ext θ1 θ' H1 H' → H' p = some (.lst vs) := fun x => x.keep p _ (nt_lst _) hn hv
        cases fb with
        | false =>
          show tX X.K J k W false b σ H1 _
          refine tX_of rs1 (Post.thn rs1 post1) fun d2 M2 θ2 H2 x2 rs2 h2 w rw' => ?_
          have rw' : Rep X.K H2 _ θ2 d2 w := rw'
          exact ⟨.ref p, w, rfl, h2 _ H2 θ2 _ (FS.refl _ _ _) ((RS.setOwn i rs2 (.inr rfl) (keep x2) (Reps.ext r1 x2) hA hne).set j rw')⟩
        | true =>
          rw [show tF X.K J k W true b = tN X.K J k W b from if_pos rfl]
          refine ⟨A, ρ, M1, θ1, _, rs1, ?_⟩
          cases z2 : ev (J.cfg k) b ρ M1 with
          | ok d2 M2 =>
            rw [z2] at post1
            have post1 : Post X.K J W A Dn H1 (fun c => O c ∨ c = p) θ1 (orStuck (putF true (setO ρ i xs) j d2) M2) := post1
            cases d2 <;> first | exact (show False from post1).elim | skip
            rename_i ys _
            refine ⟨ys, rfl, fun θ' H' p2 vs2 x hp2 hv2 hn2 m r => ⟨.ref p, .ref p2, rfl, ?_⟩⟩
            have hpp : p ≠ p2 := fun e => hp2 _ (nt_lst _) (by rw [← e]; exact hv)
            have r2 := RS.newO j rs1 x hp2 hv2 m r
            have r3 := RS.setOwn (p := p) (vs := vs) (xs := xs) i r2 (.inl (.inr rfl)) (keep x) (Reps.stays (stays_new x hp2) _ _ r1) hA (fun l zs e1 e2 => by
              by_cases q : j = l
              · subst q
                have hl : j < (setO ρ j ys).length := (List.getElem?_eq_some_iff.mp e1).1
                rw [r2.len] at hl
                rw [List.getElem?_set_self (by simpa using hl)] at e2
                cases e2
                exact hpp rfl
              · rw [List.getElem?_set_ne q] at e2
                have e1 : (ρ.set j (some (Sl.o ys)))[l]? = some (some (Sl.o zs)) := e1
                rw [List.getElem?_set_ne q] at e1
                exact hne l zs e1 e2)
            have e1 : (σ.set i (some (V.ref p))).set j (some (V.ref p2)) = (σ.set j (some (V.ref p2))).set i (some (V.ref p)) := List.set_comm _ _ hij
            have e2 : setO (setO ρ i xs) j ys = setO (setO ρ j ys) i xs := set_comm2 hij
            have post1 : Post X.K J W A Dn H1 (fun c => O c ∨ c = p) θ1 (.next (setO (setO ρ i xs) j ys) M2) := post1
            rw [e1]
            rw [e2] at post1
            exact post1 _ H' θ' _ (fs_own x hp2) r3
          | exc c v2 M2 =>
            rw [z2] at post1
            exact fun θ' H' cls da x m q => post1 σ H' θ' _ cls da (ext_fs x) (rs1.ext x m) q
          | stuck => rw [z2] at post1; exact post1
      | exc c v M1 =>
        rw [z] at post'
        exact fun θ' H' cls da x m q => post' σ H' θ' O cls da (ext_fs x) (rs.ext x m) q
      | stuck => rw [z] at post'; exact post'
end
end RC

set_option Elab.async false
set_option linter.all false
set_option autoImplicit false
set_option maxRecDepth 100000
set_option maxHeartbeats 2000000
namespace RC
open PySem PySem.Spec PyProof.Rows L2
variable [LX]
theorem ixN_eq (n : Nat) (i : Int) : RC.ixN n i = L2.ixN n i := by unfold RC.ixN L2.ixN; rfl
theorem Reps.last {K : PySem.W.Frag} {H : Hp} {O : OSet} {θ : List Addr} {xs : List D} {vs : List V} {d : D} (h : Reps K H O θ xs vs) (e : xs.getLast? = some d) : ∃ v, vs[vs.length - 1]? = some v ∧ Rep K H O θ d v := by
  rw [List.getLast?_eq_getElem?] at e
  obtain ⟨v, e1, r⟩ := h.get e
  exact ⟨v, by rw [← h.length]; exact e1, r⟩
/-- a shared list is changed -/
theorem RS.rput {K : PySem.W.Frag} {A : Anc} {H : Hp} {O : OSet} {σ : L2.St} {ρ : RC.Env} {θ : List Addr} {M : Store} {p : Nat} {a : Addr} {ns ms : List Int} (r : RS K A H O σ ρ θ M) (ha : θ[p]? = some a) (hm : M[p]? = some ns) :
    RS K A (upd H a (.lst (ms.map V.int))) O σ ρ θ (M.set p ms) ∧ FS H O θ (upd H a (.lst (ms.map V.int))) O θ := by
  have hin : a ∈ θ := List.mem_of_getElem? ha
  have hp : p < M.length := (List.getElem?_eq_some_iff.mp hm).1
  have x : Ext θ θ H (upd H a (.lst (ms.map V.int))) := ⟨List.prefix_refl _, fun c o _ n e => by rw [upd_ne fun z => n (by rw [z]; exact hin)]; exact e, fun c h n => absurd h n⟩
  have hx := r.rm.at_ p a ns ha hm
  have m : RM (upd H a (.lst (ms.map V.int))) O θ (M.set p ms) := by
    refine ⟨by rw [List.length_set]; exact r.rm.len, r.rm.nd, fun n c ks e1 e2 => ?_, r.rm.noO, fun c hc => ?_, tabs_put r.rm.tab hx⟩
    · by_cases q : p = n
      · subst q
        rw [List.getElem?_set_self hp] at e2
        cases e2
        rw [ha] at e1
        cases e1
        exact upd_same
      · rw [List.getElem?_set_ne q] at e2
        have hne : c ≠ a := fun z => by
          subst z
          have h1 : p < θ.length := (List.getElem?_eq_some_iff.mp ha).1
          have h2 : n < θ.length := (List.getElem?_eq_some_iff.mp e1).1
          refine q ((List.getElem_inj (h₀ := h1) (h₁ := h2) r.rm.nd).mp ?_)
          rw [(List.getElem?_eq_some_iff.mp ha).2, (List.getElem?_eq_some_iff.mp e1).2]
        rw [upd_ne hne]
        exact r.rm.at_ n c ks e1 e2
    · obtain ⟨o, e⟩ := r.rm.otr c hc
      by_cases q : c = a
      · subst q; exact ⟨_, upd_same⟩
      · exact ⟨o, by rw [upd_ne q]; exact e⟩
  exact ⟨r.ext x m, ext_fs x⟩
section
variable {X : Cx} {J : Inf} {k : Nat} {W : WX}
/-- for a list that is made here -/
theorem ps_d_ext {st : Stmt} {i : Nat} {e : E} (h : PS X st (tDrop (tBM X.K "list" rExtend (tVar i) (tCons (tN X.K J k W e) tNil)))) : PS X st (tS X.K J k W (.ext i e)) :=
  PS.imp h fun Dn σ H ⟨A, ρ, M, θ, O, rs, post⟩ => by
    have post' : Post X.K J W A Dn H O θ (match getO ρ i with
      | some xs => (ev (J.cfg k) e ρ M).then_ ρ fun d M1 => match d with
        | .lst ys => if xs.length + ys.length ≤ SZ then .next (setO ρ i (xs ++ ys)) M1 else .stuck
        | _ => .stuck
      | none => .stuck) := post
    cases z : getO ρ i with
    | none => rw [z] at post'; exact (show False from post').elim
    | some xs =>
      rw [z] at post'
      obtain ⟨a, vs, h1, h2, h3, h4, h5⟩ := rs.own i xs (getO_eq z)
      refine ⟨.ref a, h1, tyV_own h2, A, ρ, M, θ, O, rs, ?_⟩
      have p1 : Post X.K J W A Dn H O θ ((ev (J.cfg k) e ρ M).then_ ρ fun d M1 => match d with
        | .lst ys => if xs.length + ys.length ≤ SZ then .next (setO ρ i (xs ++ ys)) M1 else .stuck
        | _ => .stuck) := post'
      cases z2 : ev (J.cfg k) e ρ M with
      | exc c v M1 =>
        rw [z2] at p1
        exact fun θ' H' cls da x m q => p1 σ H' θ' O cls da (ext_fs x) (rs.ext x m) q
      | stuck => rw [z2] at p1; exact p1
      | ok d M1 =>
        rw [z2] at p1
        cases d <;> first | exact (show False from p1).elim | skip
        rename_i ys
        refine ⟨ys, rfl, fun θ' H' p ws x hp hv hn m r => ?_⟩
        have p2 : Post X.K J W A Dn H O θ (if xs.length + ys.length ≤ SZ then .next (setO ρ i (xs ++ ys)) M1 else .stuck) := p1
        by_cases hz : xs.length + ys.length ≤ SZ
        · rw [if_pos hz] at p2
          have mO : RM H' O θ' M1 := m.mono fun a h => .inl h
          have rs1 := rs.ext x mO
          obtain ⟨a', vs', g1, g2, g3, g4, g5⟩ := rs1.own i xs (getO_eq z)
          rw [h1] at g1
          cases g1
          have r' : Reps X.K H' O θ' ys ws := r.mono fun a h => .inl h
          obtain ⟨rs2, fs2⟩ := rs1.putO (ys := xs ++ ys) (ws := vs' ++ ws) (getO_eq z) h1 (g3.append r')
          refine ⟨a, p, vs', ws, rfl, rfl, g2, hv, by rw [← g3.length, ← r'.length, ← SZ_line]; exact hz, p2 _ _ _ _ ((ext_fs x).trans fs2) rs2⟩
        · rw [if_neg hz] at p2; exact p2.elim
theorem ps_d_pop {st : Stmt} {i : Nat} (h : PS X st (tDrop (tBM0 X.K "list" rPop (tVar i)))) : PS X st (tS X.K J k W (.pop i)) :=
  PS.imp h fun Dn σ H ⟨A, ρ, M, θ, O, rs, post⟩ => by
    have post' : Post X.K J W A Dn H O θ (match getO ρ i with
      | some xs => match xs.getLast? with
        | some _ => .next (setO ρ i xs.dropLast) M
        | none => .stuck
      | none => .stuck) := post
    cases z : getO ρ i with
    | none => rw [z] at post'; exact (show False from post').elim
    | some xs =>
      rw [z] at post'
      obtain ⟨a, vs, h1, h2, h3, h4, h5⟩ := rs.own i xs (getO_eq z)
      refine ⟨.ref a, h1, tyV_own h2, ?_⟩
      have p1 : Post X.K J W A Dn H O θ (match xs.getLast? with
        | some _ => .next (setO ρ i xs.dropLast) M
        | none => .stuck) := post'
      cases z2 : xs.getLast? with
      | none => rw [z2] at p1; exact (show False from p1).elim
      | some d =>
        rw [z2] at p1
        obtain ⟨v, e1, r⟩ := h3.last z2
        obtain ⟨rs2, fs2⟩ := rs.putO (ys := xs.dropLast) (ws := vs.dropLast) (getO_eq z) h1 h3.dropLast
        exact ⟨a, vs, v, rfl, rfl, h2, e1, p1 _ _ _ _ fs2 rs2⟩
theorem ps_d_setPop {st : Stmt} {i j : Nat} (h : PS X st (tAsg (tBM0 X.K "list" rPop (tVar i)) (gName j))) : PS X st (tS X.K J k W (.setPop j i)) :=
  PS.imp h fun Dn σ H ⟨A, ρ, M, θ, O, rs, post⟩ => by
    have post' : Post X.K J W A Dn H O θ (match getO ρ i with
      | some xs => match xs.getLast? with
        | some d => .next (setV (setO ρ i xs.dropLast) j d) M
        | none => .stuck
      | none => .stuck) := post
    cases z : getO ρ i with
    | none => rw [z] at post'; exact (show False from post').elim
    | some xs =>
      rw [z] at post'
      obtain ⟨a, vs, h1, h2, h3, h4, h5⟩ := rs.own i xs (getO_eq z)
      refine ⟨.ref a, h1, tyV_own h2, ?_⟩
      have p1 : Post X.K J W A Dn H O θ (match xs.getLast? with
        | some d => .next (setV (setO ρ i xs.dropLast) j d) M
        | none => .stuck) := post'
      cases z2 : xs.getLast? with
      | none => rw [z2] at p1; exact (show False from p1).elim
      | some d =>
        rw [z2] at p1
        obtain ⟨v, e1, r⟩ := h3.last z2
        obtain ⟨rs2, fs2⟩ := rs.putO (ys := xs.dropLast) (ws := vs.dropLast) (getO_eq z) h1 h3.dropLast
        exact ⟨a, vs, v, rfl, rfl, h2, e1, p1 _ _ _ _ fs2 (rs2.set j (Rep.stays (stays_put h4) _ _ r))⟩
def rPopAt2 : V → List V → Hp → VK → Prop := fun x vs H Q => ∃ l xs i k y, x = .ref l ∧ vs = [.int i] ∧ H l = some (.lst xs) ∧ RC.ixN xs.length i = some k ∧ xs[k]? = some y ∧ Q y (upd H l (.lst (xs.eraseIdx k)))
theorem mt_popAt2 : MtM X "list.pop" rPopAt2 := by
  intro pins s σ H x vs v us Q I rx rv h
  obtain ⟨l, xs, i, k, y, rfl, rfl, hH, hi, hy, q⟩ := h
  have z := (I.lstM hH).1
  have z2 : sizeLine = 16777216 := sizeLine_eq
  rw [ixN_eq] at hi
  obtain ⟨h1, h2, h3, h4⟩ := ixN_seq hi
  exact mt_popAt pins s σ H _ _ v us Q I rx rv ⟨l, xs, i, k, y, rfl, rfl, hH, by omega, by omega, h1, hy, q⟩
theorem ps_d_setPopAt {st : Stmt} {i j : Nat} {e : E} (h : PS X st (tAsg (tBM X.K "list" rPopAt2 (tVar i) (tXs X.K J k W false (.cons e .nil))) (gName j))) : PS X st (tS X.K J k W (.setPopAt j i e)) :=
  PS.imp h fun Dn σ H ⟨A, ρ, M, θ, O, rs, post⟩ => by
    have post' : Post X.K J W A Dn H O θ (match getO ρ i with
      | some xs => (ev (J.cfg k) e ρ M).then_ ρ fun k M1 => match k with
        | .int n => match RC.ixN xs.length n with
          | some m => match xs[m]? with
            | some d => .next (setV (setO ρ i (xs.eraseIdx m)) j d) M1
            | none => .stuck
          | none => .stuck
        | _ => .stuck
      | none => .stuck) := post
    cases z : getO ρ i with
    | none => rw [z] at post'; exact (show False from post').elim
    | some xs =>
      rw [z] at post'
      obtain ⟨a, vs, h1, h2, h3, h4, h5⟩ := rs.own i xs (getO_eq z)
      refine ⟨.ref a, h1, tyV_own h2, ?_⟩
      have p1 : Post X.K J W A Dn H O θ ((evs (J.cfg k) (.cons e .nil) ρ M).then_ ρ fun ds M1 => match ds with
        | [.int n] => match RC.ixN xs.length n with
          | some m => match xs[m]? with
            | some d => .next (setV (setO ρ i (xs.eraseIdx m)) j d) M1
            | none => .stuck
          | none => .stuck
        | _ => .stuck) := by
        show Post X.K J W A Dn H O θ (((ev (J.cfg k) e ρ M).bind fun x M1 => Res.ok [x] M1).then_ ρ _)
        cases z2 : ev (J.cfg k) e ρ M with
        | ok y M2 =>
          rw [z2] at post'
          cases y <;> exact post'
        | exc _ _ _ => rw [z2] at post'; exact post'
        | stuck => rw [z2] at post'; exact post'
      refine tXs_of rs ((Post.thn rs p1).len) fun ds M1 θ1 H1 x rs1 ⟨hl, q1⟩ ws rv => ?_
      have rv : Reps X.K H1 O θ1 ds ws := rv
      match ds, hl, q1, rv with
      | [d], _, q1, ⟨v, r', er, r1, r2⟩ =>
        cases r2
        subst er
        obtain ⟨n, ed⟩ : ∃ n, d = .int n := by
          cases d <;> first | exact (show False from q1).elim | exact ⟨_, rfl⟩
        subst ed
        obtain ⟨a', vs', g1, g2, g3, g4, g5⟩ := rs1.own i xs (getO_eq z)
        rw [h1] at g1
        cases g1
        have q2 : Post X.K J W A Dn H1 O θ1 (match RC.ixN xs.length n with
          | some m => match xs[m]? with
            | some d => .next (setV (setO ρ i (xs.eraseIdx m)) j d) M1
            | none => .stuck
          | none => .stuck) := q1
        cases z3 : RC.ixN xs.length n with
        | none => rw [z3] at q2; exact (show False from q2).elim
        | some m =>
          rw [z3] at q2
          have q3 : Post X.K J W A Dn H1 O θ1 (match xs[m]? with
            | some d => .next (setV (setO ρ i (xs.eraseIdx m)) j d) M1
            | none => .stuck) := q2
          cases z4 : xs[m]? with
          | none => rw [z4] at q3; exact (show False from q3).elim
          | some d =>
            rw [z4] at q3
            obtain ⟨w, e1, r⟩ := g3.get z4
            obtain ⟨rs2, fs2⟩ := rs1.putO (ys := xs.eraseIdx m) (ws := vs'.eraseIdx m) (getO_eq z) h1 (g3.erase m)
            have ev1 : v = .int n := r1
            exact ⟨a, vs', n, m, w, rfl, by rw [ev1], g2, by rw [← g3.length]; exact z3, e1, q3 _ _ _ _ fs2 (rs2.set j (Rep.stays (stays_put g4) _ _ r))⟩
end
end RC

set_option Elab.async false
set_option linter.all false
set_option autoImplicit false
set_option maxRecDepth 100000
set_option maxHeartbeats 2000000
namespace RC
open PySem PySem.Spec PyProof.Rows L2
variable [LX]
section
variable {X : Cx} {J : Inf} {k : Nat} {W : WX}
theorem ps_d_appPop {st : Stmt} {i j : Nat} {e : E} (h : PS X st (tDrop (tBM X.K "list" rAppend (tVar j) (tCons (tBM X.K "list" rPopAt2 (tVar i) (tXs X.K J k W false (.cons e .nil))) tNil)))) : PS X st (tS X.K J k W (.appPop j i e)) :=
  PS.imp h fun Dn σ H ⟨A, ρ, M, θ, O, rs, post⟩ => by
    have post' : Post X.K J W A Dn H O θ (match getO ρ j with
      | some ys => match getO ρ i with
        | some xs => (ev (J.cfg k) e ρ M).then_ ρ fun k M1 => match k with
          | .int n => match RC.ixN xs.length n with
            | some m => match xs[m]? with
              | some d => if i = j then .stuck else if ys.length < SZ then .next (setO (setO ρ i (xs.eraseIdx m)) j (ys ++ [d])) M1 else .stuck
              | none => .stuck
            | none => .stuck
          | _ => .stuck
        | none => .stuck
      | none => .stuck) := post
    cases zj : getO ρ j with
    | none => rw [zj] at post'; exact (show False from post').elim
    | some ys =>
      rw [zj] at post'
      cases z : getO ρ i with
      | none => rw [z] at post'; exact (show False from post').elim
      | some xs =>
        rw [z] at post'
        obtain ⟨a, vs, h1, h2, h3, h4, h5⟩ := rs.own i xs (getO_eq z)
        obtain ⟨b, us, j1, j2, j3, j4, j5⟩ := rs.own j ys (getO_eq zj)
        refine ⟨.ref b, j1, tyV_own j2, .ref a, h1, tyV_own h2, ?_⟩
        have p1 : Post X.K J W A Dn H O θ ((evs (J.cfg k) (.cons e .nil) ρ M).then_ ρ fun ds M1 => match ds with
          | [.int n] => match RC.ixN xs.length n with
            | some m => match xs[m]? with
              | some d => if i = j then .stuck else if ys.length < SZ then .next (setO (setO ρ i (xs.eraseIdx m)) j (ys ++ [d])) M1 else .stuck
              | none => .stuck
            | none => .stuck
          | _ => .stuck) := by
          show Post X.K J W A Dn H O θ (((ev (J.cfg k) e ρ M).bind fun x M1 => Res.ok [x] M1).then_ ρ _)
          cases z2 : ev (J.cfg k) e ρ M with
          | ok y M2 =>
            rw [z2] at post'
            cases y <;> exact post'
          | exc _ _ _ => rw [z2] at post'; exact post'
          | stuck => rw [z2] at post'; exact post'
        refine tXs_of rs ((Post.thn rs p1).len) fun ds M1 θ1 H1 x rs1 ⟨hl, q1⟩ ws rv => ?_
        have rv : Reps X.K H1 O θ1 ds ws := rv
        match ds, hl, q1, rv with
        | [d], _, q1, ⟨v, r', er, r1, r2⟩ =>
          cases r2
          subst er
          obtain ⟨n, ed⟩ : ∃ n, d = .int n := by
            cases d <;> first | exact (show False from q1).elim | exact ⟨_, rfl⟩
          subst ed
          obtain ⟨a', vs', g1, g2, g3, g4, g5⟩ := rs1.own i xs (getO_eq z)
          rw [h1] at g1
          cases g1
          obtain ⟨b', us', f1, f2, f3, f4, f5⟩ := rs1.own j ys (getO_eq zj)
          rw [j1] at f1
          cases f1
          have q2 : Post X.K J W A Dn H1 O θ1 (match RC.ixN xs.length n with
            | some m => match xs[m]? with
              | some d => if i = j then .stuck else if ys.length < SZ then .next (setO (setO ρ i (xs.eraseIdx m)) j (ys ++ [d])) M1 else .stuck
              | none => .stuck
            | none => .stuck) := q1
          cases z3 : RC.ixN xs.length n with
          | none => rw [z3] at q2; exact (show False from q2).elim
          | some m =>
            rw [z3] at q2
            have q3 : Post X.K J W A Dn H1 O θ1 (match xs[m]? with
              | some d => if i = j then .stuck else if ys.length < SZ then .next (setO (setO ρ i (xs.eraseIdx m)) j (ys ++ [d])) M1 else .stuck
              | none => .stuck) := q2
            cases z4 : xs[m]? with
            | none => rw [z4] at q3; exact (show False from q3).elim
            | some d =>
              rw [z4] at q3
              have q4 : Post X.K J W A Dn H1 O θ1 (if i = j then .stuck else if ys.length < SZ then .next (setO (setO ρ i (xs.eraseIdx m)) j (ys ++ [d])) M1 else .stuck) := q3
              by_cases hij : i = j
              · rw [if_pos hij] at q4; exact q4.elim
              rw [if_neg hij] at q4
              by_cases hz : ys.length < SZ
              · rw [if_pos hz] at q4
                obtain ⟨w, e1, r⟩ := g3.get z4
                obtain ⟨rs2, fs2⟩ := rs1.putO (ys := xs.eraseIdx m) (ws := vs'.eraseIdx m) (getO_eq z) h1 (g3.erase m)
                have ev1 : v = .int n := r1
                have hj2 : (setO ρ i (xs.eraseIdx m))[j]? = some (some (Sl.o ys)) := by
                  unfold setO; rw [List.getElem?_set_ne hij]; exact getO_eq zj
                have hab : b ≠ a := fun e => hij (rs.dis i j xs ys a (getO_eq z) (getO_eq zj) h1 (by rw [← e]; exact j1))
                have r'' : Rep X.K (upd H1 a (.lst (vs'.eraseIdx m))) O θ1 d w := Rep.stays (stays_put g4) _ _ r
                obtain ⟨b2, us2, k1, k2, k3, k4, k5⟩ := rs2.own j ys hj2
                rw [j1] at k1
                cases k1
                obtain ⟨rs3, fs3⟩ := rs2.putO (ys := ys ++ [d]) (ws := us2 ++ [w]) hj2 j1 (k3.append (Reps.one r''))
                refine ⟨a, vs', n, m, w, rfl, by rw [ev1], g2, by rw [← g3.length]; exact z3, e1, ?_⟩
                exact ⟨b, us2, w, rfl, rfl, k2, by rw [← k3.length, ← SZ_line]; exact hz, q4 _ _ _ _ (fs2.trans fs3) rs3⟩
              · rw [if_neg hz] at q4; exact q4.elim
theorem ps_d_put {st : Stmt} {i : Nat} {e n : E} (h : PS X st (tAsg (tX X.K J k W false e) (gSub (tVar i) (tX X.K J k W false n) rSetL))) : PS X st (tS X.K J k W (.put i n e)) :=
  PS.imp h fun Dn σ H ⟨A, ρ, M, θ, O, rs, post⟩ => tX_of rs (Post.thn rs post) fun d M1 θ1 H1 x rs1 h1 v rv => by
    have p1 : Post X.K J W A Dn H1 O θ1 (match getO ρ i with
      | some xs => (ev (J.cfg k) n ρ M1).then_ ρ fun n M2 => match n with
        | .int n => match RC.ixN xs.length n with
          | some m => .next (setO ρ i (xs.set m d)) M2
          | none => .stuck
        | _ => .stuck
      | none => .stuck) := h1
    cases z : getO ρ i with
    | none => rw [z] at p1; exact (show False from p1).elim
    | some xs =>
      rw [z] at p1
      obtain ⟨a, vs, g1, g2, g3, g4, g5⟩ := rs1.own i xs (getO_eq z)
      refine ⟨.ref a, g1, tX_of rs1 (Post.thn rs1 p1) fun dn M2 θ2 H2 x2 rs2 h2 u ru => ?_⟩
      cases dn <;> first | exact (show False from h2).elim | skip
      rename_i nn
      have h2' : Post X.K J W A Dn H2 O θ2 (match RC.ixN xs.length nn with
        | some m => .next (setO ρ i (xs.set m d)) M2
        | none => .stuck) := h2
      cases z2 : RC.ixN xs.length nn with
      | none => rw [z2] at h2'; exact (show False from h2').elim
      | some m =>
        rw [z2] at h2'
        obtain ⟨a', vs', f1, f2, f3, f4, f5⟩ := rs2.own i xs (getO_eq z)
        rw [g1] at f1
        cases f1
        obtain ⟨rs3, fs3⟩ := rs2.putO (ys := xs.set m d) (ws := vs'.set m v) (getO_eq z) g1 (Reps.set (rv.ext x2) m f3)
        exact ⟨a, vs', nn, m, rfl, ru, f2, by rw [← f3.length, ← ixN_eq]; exact z2, h2' _ _ _ _ fs3 rs3⟩
theorem ps_d_rput {st : Stmt} {r n e : E} (h : PS X st (tAsg (tX X.K J k W false e) (gSub (tX X.K J k W false r) (tX X.K J k W false n) rSetL))) : PS X st (tS X.K J k W (.rput r n e)) :=
  PS.imp h fun Dn σ H ⟨A, ρ, M, θ, O, rs, post⟩ => tX_of rs (Post.thn rs post) fun d M1 θ1 H1 x rs1 h1 v rv => tX_of rs1 (Post.thn rs1 h1) fun dr M2 θ2 H2 x2 rs2 h2 w rw' => tX_of rs2 (Post.thn rs2 h2) fun dn M3 θ3 H3 x3 rs3 h3 u ru => by
    cases dr <;> first | exact (show False from h3).elim | skip
    rename_i p
    have p1 : Post X.K J W A Dn H3 O θ3 (match M3[p]? with
      | some ns => match (generalizing := false) dn with
        | .int n => match (generalizing := false) d with
          | .int z => match RC.ixN ns.length n with
            | some m => .next ρ (M3.set p (ns.set m z))
            | none => .stuck
          | _ => .stuck
        | _ => .stuck
      | none => .stuck) := h3
    cases z : M3[p]? with
    | none => rw [z] at p1; exact (show False from p1).elim
    | some ns =>
      rw [z] at p1
      obtain ⟨nn, en⟩ : ∃ nn, dn = .int nn := by
        cases dn <;> first | exact (show False from p1).elim | exact ⟨_, rfl⟩
      subst en
      obtain ⟨zz, ez⟩ : ∃ nn, d = .int nn := by
        cases d <;> first | exact (show False from p1).elim | exact ⟨_, rfl⟩
      subst ez
      have p2 : Post X.K J W A Dn H3 O θ3 (match RC.ixN ns.length nn with
        | some m => .next ρ (M3.set p (ns.set m zz))
        | none => .stuck) := p1
      cases z2 : RC.ixN ns.length nn with
      | none => rw [z2] at p2; exact (show False from p2).elim
      | some m =>
        rw [z2] at p2
        obtain ⟨pa, hp, rfl⟩ := rw'
        have hp3 := pre_get x3.pre hp
        obtain ⟨rs4, fs4⟩ := rs3.rput (ms := ns.set m zz) hp3 z
        have ev1 : v = .int zz := rv
        refine ⟨pa, ns.map V.int, nn, m, rfl, ru, rs3.rm.at_ p pa ns hp3 z, by rw [List.length_map, ← ixN_eq]; exact z2, ?_⟩
        rw [ev1]
        have : (ns.map V.int).set m (V.int zz) = (ns.set m zz).map V.int := by rw [List.map_set]
        rw [this]
        exact p2 _ _ _ _ fs4 rs4
/-! ### plain ends -/
theorem ps_d_expr {st : Stmt} {e : E} (h : PS X st (tDrop (tX X.K J k W false e))) : PS X st (tS X.K J k W (.expr e)) :=
  PS.imp h fun Dn σ H ⟨A, ρ, M, θ, O, rs, post⟩ => tX_of rs (Post.thn rs post) fun d M1 θ1 H1 x rs1 h1 v rv => h1 σ H1 θ1 O (FS.refl _ _ _) rs1
theorem ps_d_ret {st : Stmt} {e : E} (h : PS X st (tRet (tX X.K J k W false e))) : PS X st (tS X.K J k W (.ret e)) :=
  PS.imp h fun Dn σ H ⟨A, ρ, M, θ, O, rs, post⟩ => tX_of rs (Post.thn rs post) fun d M1 θ1 H1 x rs1 h1 v rv => h1 v H1 θ1 rs1.anc (rs1.rm.mono rs1.sub) (Rep.mono rv rs1.sub)
theorem ps_d_retN {st : Stmt} (h : PS X st tRetN) : PS X st (tS X.K J k W .retN) :=
  PS.imp h fun Dn σ H ⟨A, ρ, M, θ, O, rs, post⟩ => (show Post X.K J W A Dn H O θ (.ret .non M) from post) .non H θ rs.anc (rs.rm.mono rs.sub) rfl
theorem ps_d_pass {st : Stmt} (h : PS X st tNext) : PS X st (tS X.K J k W .pass) :=
  PS.imp h fun Dn σ H ⟨A, ρ, M, θ, O, rs, post⟩ => (show Post X.K J W A Dn H O θ (.next ρ M) from post) σ H θ O (FS.refl _ _ _) rs
theorem ps_d_brk {st : Stmt} (h : PS X st tBreak) : PS X st (tS X.K J k W .brk) :=
  PS.imp h fun Dn σ H ⟨A, ρ, M, θ, O, rs, post⟩ => (show Post X.K J W A Dn H O θ (.brk ρ M) from post) σ H θ O (FS.refl _ _ _) rs
theorem ps_d_cont {st : Stmt} (h : PS X st tCont) : PS X st (tS X.K J k W .cont) :=
  PS.imp h fun Dn σ H ⟨A, ρ, M, θ, O, rs, post⟩ => (show Post X.K J W A Dn H O θ (.cont ρ M) from post) σ H θ O (FS.refl _ _ _) rs
theorem ps_d_never {st : Stmt} : PS X st (tS X.K J k W .never) :=
  PS.imp ps_never fun Dn σ H ⟨A, ρ, M, θ, O, rs, post⟩ => (show Post X.K J W A Dn H O θ .stuck from post)
/-! ### tests, branches, loops -/
def bOut (d : D) (f : Bool → Out) : Out := match d with
  | .bl true => f true
  | .bl false => f false
  | _ => .stuck
theorem tQ_post {A : Anc} {Dn : Ends} {O : OSet} {σ : L2.St} {ρ : RC.Env} {θ : List Addr} {H : Hp} {M : Store} {t : E} {f : Bool → Store → Out} {Q : Bool → Hp → Prop} (rs : RS X.K A H O σ ρ θ M) (h : Post X.K J W A Dn H O θ ((ev (J.cfg k) t ρ M).then_ ρ fun d M1 => bOut d fun b => f b M1))
    (hq : ∀ b M1 θ1 H1, Ext θ θ1 H H1 → RS X.K A H1 O σ ρ θ1 M1 → Post X.K J W A Dn H1 O θ1 (f b M1) → Q b H1) : tQ X.K J k W t σ H Q := by
  refine ⟨A, ρ, M, θ, O, rs, ?_⟩
  unfold truth
  cases z : ev (J.cfg k) t ρ M with
  | ok d M1 =>
    rw [z] at h
    have h1 : Post X.K J W A Dn H O θ (bOut d fun b => f b M1) := h
    cases d <;> first | exact (show False from h1).elim | skip
    rename_i b
    have h2 : Post X.K J W A Dn H O θ (f b M1) := by cases b <;> exact h1
    exact fun θ1 H1 x m => hq b M1 θ1 H1 x (rs.ext x m) (Post.shift h2 (ext_fs x))
  | exc c v M1 =>
    rw [z] at h
    exact fun θ' H' cls da x m q => h σ H' θ' O cls da (ext_fs x) (rs.ext x m) q
  | stuck => rw [z] at h; exact h
theorem ite_out {c : Cfg} {t : E} {a b : Cs} {ρ : RC.Env} {M : Store} : ex c (.ite t a b) ρ M = (ev c t ρ M).then_ ρ fun d M1 => bOut d fun x => if x then exs c a ρ M1 else exs c b ρ M1 := by
  rw [ex]
  congr 1
theorem ps_d_ite {c : Expr} {p q : List Stmt} {pos : Pos} {t : E} {a b : Cs} (hc : PT X c (tQ X.K J k W t)) (ha : PSs X p (tSs X.K J k W a)) (hb : PSs X q (tSs X.K J k W b)) : PS X (.If c p q pos) (tS X.K J k W (.ite t a b)) :=
  PS.imp (ps_if hc ha hb) fun Dn σ H ⟨A, ρ, M, θ, O, rs, post⟩ => by
    rw [ite_out] at post
    refine tQ_post rs post fun x M1 θ1 H1 x1 rs1 h1 => ?_
    cases x with
    | true => rw [if_pos rfl]; exact ⟨A, ρ, M1, θ1, O, rs1, h1⟩
    | false => rw [if_neg Bool.false_ne_true]; exact ⟨A, ρ, M1, θ1, O, rs1, h1⟩
theorem ps_d_while {c : Expr} {p : List Stmt} {pos : Pos} {t : E} {b : Cs} (hp : PassesOwn (model X.prog X.w) X.A X.env X.xe) (hc : PT X c (tQ X.K J k W t)) (hb : PSs X p (tSs X.K J k W b)) : PS X (.While c p [] pos) (tS X.K J k W (.while_ t b)) :=
  PS.imp (ps_while hp hc hb) fun Dn σ H ⟨A, ρ, M, θ, O, rs, post⟩ => by
    refine ⟨fun m σ H => ∃ ρ M θ O, RS X.K A H O σ ρ θ M ∧ Post X.K J W A Dn H O θ (whileLoop (fun ρ M => ev (J.cfg k) t ρ M) (fun ρ M => exs (J.cfg k) b ρ M) m ρ M), ⟨_, ρ, M, θ, O, rs, post⟩, ?_⟩
    rintro m σ H ⟨ρ, M, θ, O, rs, post⟩
    cases m with
    | zero => exact (show False from post).elim
    | succ m =>
      have post' : Post X.K J W A Dn H O θ ((ev (J.cfg k) t ρ M).then_ ρ fun d M1 => bOut d fun x => if x then (match exs (J.cfg k) b ρ M1 with
        | .next ρ1 M2 => whileLoop (fun ρ M => ev (J.cfg k) t ρ M) (fun ρ M => exs (J.cfg k) b ρ M) m ρ1 M2
        | .cont ρ1 M2 => whileLoop (fun ρ M => ev (J.cfg k) t ρ M) (fun ρ M => exs (J.cfg k) b ρ M) m ρ1 M2
        | .brk ρ1 M2 => .next ρ1 M2
        | o => o) else .next ρ M1) := by
        rw [whileLoop] at post
        refine Eq.mp ?_ post
        congr 2
      refine tQ_post rs post' fun x M1 θ1 H1 x1 rs1 h1 => ?_
      cases x with
      | false =>
        rw [if_neg Bool.false_ne_true]
        exact (show Post X.K J W A Dn H1 O θ1 (.next ρ M1) from h1) σ H1 θ1 O (FS.refl _ _ _) rs1
      | true =>
        rw [if_pos rfl]
        refine ⟨fun σ H => ∃ ρ M θ O, RS X.K A H O σ ρ θ M ∧ Post X.K J W A Dn H O θ (whileLoop (fun ρ M => ev (J.cfg k) t ρ M) (fun ρ M => exs (J.cfg k) b ρ M) m ρ M), fun σ' H' q => ⟨m, Nat.lt_succ_self m, q⟩, A, ρ, M1, θ1, O, rs1, ?_⟩
        rw [if_pos rfl] at h1
        cases z : exs (J.cfg k) b ρ M1 with
        | next ρ1 M2 => rw [z] at h1; exact fun σ' H' θ' O' f r => ⟨ρ1, M2, θ', O', r, Post.shift h1 f⟩
        | cont ρ1 M2 => rw [z] at h1; exact fun σ' H' θ' O' f r => ⟨ρ1, M2, θ', O', r, Post.shift h1 f⟩
        | brk ρ1 M2 => rw [z] at h1; exact h1
        | ret d M2 => rw [z] at h1; exact h1
        | exc ρ1 c v M2 => rw [z] at h1; exact h1
        | stuck => rw [z] at h1; exact h1
theorem ps_d_for {tgE i : Expr} {p : List Stmt} {pos : Pos} {tg : Tg} {it : RC.It} {b : Cs} (hx : XOk J k X) (hp : PassesOwn (model X.prog X.w) X.A X.env X.xe) (hi : PI X tgE i (tI X.K J k W true it)) (hg : PG X tgE (gX X.K tg)) (hb : PSs X p (tSs X.K J k W b)) (hs : ∀ x, foldedSetIterable i X.env x = pure x) :
    PS X (.For tgE i p [] pos) (tS X.K J k W (.for_ tg it b)) :=
  PS.imp (ps_for hp hx.calm hi hg hb hs) fun Dn σ H ⟨A, ρ, M, θ, O, rs, post⟩ => by
    refine ⟨A, ρ, M, θ, O, rs, (Post.thn rs post).mono fun ds M1 θ1 H1 x m h1 Jt C wk c0 ec fc => ?_⟩
    have fc := fc rfl
    let body := fun (d : D) (ρ : RC.Env) (M : Store) => match bindT tg d ρ with
      | some ρ' => exs (J.cfg k) b ρ' M
      | none => .stuck
    have h1 : Post X.K J W A Dn H1 O θ1 (forLoop body ds ρ M1) := h1
    refine ⟨fun i n σ H => ∃ ρ M θ O, RS X.K A H O σ ρ θ M ∧ C H O θ ∧ n = ds.length - i ∧ i ≤ ds.length ∧ Post X.K J W A Dn H O θ (forLoop body (ds.drop i) ρ M), ⟨ds.length, ρ, M1, θ1, O, rs.ext x m, c0, rfl, Nat.zero_le _, h1⟩, ?_⟩
    rintro i n σ H ⟨ρ, M, θ, O, rs, c, rfl, hi, post⟩
    by_cases hlt : i < ds.length
    · refine .inr ⟨wk.go _ _ _ _ c hlt, fun σ H => ∃ ρ M θ O, RS X.K A H O σ ρ θ M ∧ C H O θ ∧ Post X.K J W A Dn H O θ (forLoop body (ds.drop (i + 1)) ρ M), fun σ' H' ⟨ρ, M, θ, O, q1, q2, q3⟩ => ⟨ds.length - (i + 1), by omega, ρ, M, θ, O, q1, q2, rfl, hlt, q3⟩, fun v H' y => ?_⟩
      obtain ⟨sm, d, ed, rd⟩ := wk.yld _ _ _ _ _ _ c rs.rm.tr hlt y
      have hd : ds.drop i = d :: ds.drop (i + 1) := by
        rw [List.drop_eq_getElem_cons hlt]
        have := List.getElem?_eq_getElem hlt
        rw [ed] at this
        cases this; rfl
      rw [hd] at post
      have post1 : Post X.K J W A Dn H O θ (match body d ρ M with
        | .next ρ1 M1 => forLoop body (ds.drop (i + 1)) ρ1 M1
        | .cont ρ1 M1 => forLoop body (ds.drop (i + 1)) ρ1 M1
        | .brk ρ1 M1 => .next ρ1 M1
        | o => o) := by rw [forLoop] at post; exact post
      have rs' := rs.same sm
      have fsm : FS H O θ H' O θ := ext_fs (sm_ext sm θ)
      cases zb : bindT tg d ρ with
      | none =>
        have : body d ρ M = .stuck := by show (match bindT tg d ρ with | some ρ' => exs (J.cfg k) b ρ' M | none => .stuck) = _; rw [zb]
        rw [this] at post1
        exact (show False from post1).elim
      | some ρ' =>
        have eb : body d ρ M = exs (J.cfg k) b ρ' M := by show (match bindT tg d ρ with | some ρ' => exs (J.cfg k) b ρ' M | none => .stuck) = _; rw [zb]
        rw [eb] at post1
        refine ⟨A, ρ, M, θ, O, d, ρ', rs', rd, zb, fun σ2 o rs2 => ⟨A, ρ', M, θ, O, rs2, ?_⟩⟩
        have c' : C H' O θ := fc _ _ _ _ _ _ c fsm
        cases z : exs (J.cfg k) b ρ' M with
        | next ρ1 M2 => rw [z] at post1; exact fun σ' H'' θ' O' f r => ⟨ρ1, M2, θ', O', r, fc _ _ _ _ _ _ c' f, Post.shift post1 (fsm.trans f)⟩
        | cont ρ1 M2 => rw [z] at post1; exact fun σ' H'' θ' O' f r => ⟨ρ1, M2, θ', O', r, fc _ _ _ _ _ _ c' f, Post.shift post1 (fsm.trans f)⟩
        | brk ρ1 M2 => rw [z] at post1; exact fun σ' H'' θ' O' f r => (show Post X.K J W A Dn H O θ (.next ρ1 M2) from post1) σ' H'' θ' O' (fsm.trans f) r
        | ret d M2 => rw [z] at post1; exact post1
        | exc ρ1 c v M2 => rw [z] at post1; exact fun σ' H'' θ' O' cls da f r q => (show Post X.K J W A Dn H O θ (.exc ρ1 c v M2) from post1) σ' H'' θ' O' cls da (fsm.trans f) r q
        | stuck => rw [z] at post1; exact post1
    · have ei : i = ds.length := by omega
      subst ei
      rw [List.drop_length] at post
      exact .inl ⟨wk.stop _ _ _ _ c rfl, (show Post X.K J W A Dn H O θ (.next ρ M) from post) σ H θ O (FS.refl _ _ _) rs⟩
/-! ### blocks -/
theorem pss_d_nil : PSs X [] (tSs X.K J k W .nil) :=
  PSs.imp pss_nil fun Dn σ H ⟨A, ρ, M, θ, O, rs, post⟩ => (show Post X.K J W A Dn H O θ (.next ρ M) from post) σ H θ O (FS.refl _ _ _) rs
theorem pss_d_cons {st : Stmt} {rest : List Stmt} {c : C} {r : Cs} (h1 : PS X st (tS X.K J k W c)) (h2 : PSs X rest (tSs X.K J k W r)) : PSs X (st :: rest) (tSs X.K J k W (.cons c r)) :=
  PSs.imp (pss_cons h1 h2) fun Dn σ H ⟨A, ρ, M, θ, O, rs, post⟩ => by
    have post' : Post X.K J W A Dn H O θ (match ex (J.cfg k) c ρ M with
      | .next ρ1 M1 => exs (J.cfg k) r ρ1 M1
      | o => o) := by rw [exs] at post; exact post
    refine ⟨A, ρ, M, θ, O, rs, ?_⟩
    cases z : ex (J.cfg k) c ρ M with
    | next ρ1 M1 => rw [z] at post'; exact fun σ' H' θ' O' f rs' => ⟨A, ρ1, M1, θ', O', rs', Post.shift post' f⟩
    | cont ρ1 M2 => rw [z] at post'; exact post'
    | brk ρ1 M2 => rw [z] at post'; exact post'
    | ret d M2 => rw [z] at post'; exact post'
    | exc ρ1 c v M2 => rw [z] at post'; exact post'
    | stuck => rw [z] at post'; exact post'
theorem pss_d_frz {rest : List Stmt} {i : Nat} {r : Cs} (h2 : PSs X rest (tSs X.K J k W r)) : PSs X rest (tSs X.K J k W (.cons (.frz i) r)) :=
  PSs.imp h2 fun Dn σ H ⟨A, ρ, M, θ, O, rs, post⟩ => by
    have post' : Post X.K J W A Dn H O θ (match (match getO ρ i with
      | some xs => Out.next (setV ρ i (.lst xs)) M
      | none => .stuck) with
      | .next ρ1 M1 => exs (J.cfg k) r ρ1 M1
      | o => o) := by rw [exs, ex] at post; exact post
    cases z : getO ρ i with
    | none => rw [z] at post'; exact (show False from post').elim
    | some xs =>
      rw [z] at post'
      obtain ⟨O', rs', fs⟩ := rs.frz (getO_eq z)
      exact ⟨A, _, M, θ, O', rs', Post.shift post' fs⟩
theorem pss_d_never {rest : List Stmt} {r : Cs} : PSs X rest (tSs X.K J k W (.cons .never r)) :=
  PSs.imp pss_never fun Dn σ H ⟨A, ρ, M, θ, O, rs, post⟩ => by
    rw [exs, ex] at post
    exact (show False from post)
end
end RC

set_option Elab.async false
set_option linter.all false
set_option autoImplicit false
set_option maxRecDepth 100000
set_option maxHeartbeats 2000000
/-! raise and try. -/
namespace RC
open PySem PySem.Spec PyProof.Rows L2
variable [LX]
/-- a def's own frame -/
structure DefX (X : Cx) : Prop where
  stk : X.stack = X.env :: X.outer
  frm : X.env.frame = some X.env.locals
  ex : X.ex = []
theorem xok_tr {J : Inf} {k : Nat} {X : Cx} (hx : XOk J k X) (pn : List (Addr × Obj)) (xe : Value → Shared → Prop) : XOk J k (X.tr pn xe) :=
  ⟨hx.calm, hx.nd, hx.kind, hx.room, hx.gd, hx.rp, hx.fns, hx.blt, hx.gls, hx.sl, hx.isa, hx.fld, hx.cls, hx.act, fun z => ⟨(hx.lam z).1, ⟨(hx.lam z).2.fn, (hx.lam z).2.tab, (hx.lam z).2.give⟩⟩, hx.key⟩
section
variable {X : Cx} {J : Inf} {k : Nat} {W : WX}
theorem noO_none {H : Hp} {O : OSet} {θ : List Addr} {M : Store} {d : Addr} (m : RM H O θ M) (h : H d = none) : ¬ O d ∧ d ∉ θ := m.tr.new h
theorem rm_upd {H : Hp} {O : OSet} {θ : List Addr} {M : Store} {d : Addr} {o : HO} (m : RM H O θ M) (h : H d = none) : RM (upd H d o) O θ M :=
  ⟨m.len, m.nd, fun n a ns h1 h2 => by rw [upd_ne (ne_of_none (m.at_ n a ns h1 h2) h)]; exact m.at_ n a ns h1 h2, m.noO, fun a z => by
    obtain ⟨u, e⟩ := m.otr a z
    exact ⟨u, by rw [upd_ne (ne_of_none e h)]; exact e⟩, tabs_new m.tab h⟩
/-- raise C('..') -/
theorem ps_d_raise0 {c j : Nat} {d : D} {m : Str} {p p2 p3 pos : Pos} (hx : XOk J k X) (tk : Takes X W) (hc : c ∈ J.cs) (h0 : fldC c = 0) (hg : Gl X (cname c)) :
    PS X (.Raise (some (.Call (.Name (cname c) p) [.Constant (.str m) j p2] [] p3)) none pos) (tS X.K J k W (.raise c (.cons (.cst d) .nil))) := by
  have R := hx.cls c hc
  obtain ⟨C, F⟩ := clsB_ok R.cls
  have Z := rzB_ok R.rz F.at_
  refine PS.imp (ps_raise hx.calm tk (pmk_own (baseF c) (Z.no h0) (R.glo.trans (congrArg some F.at_)) Z.kp (raises_own Z.sb Z.ty) hg (cname_dbg c R.lt))) fun Dn σ H ⟨A, ρ, M, θ, O, rs, post⟩ => ?_
  have post' : Post X.K J W A Dn H O θ (.exc ρ c (if (J.cfg k).fld c = 0 then .non else d) M) := post
  exact post' σ H θ O (.ref C) none (FS.refl _ _ _) rs ⟨⟨R.cls, F.at_.symm⟩, .inl ⟨h0, rfl⟩⟩
/-- raise C(e), C keeping e -/
theorem ps_d_raise1 {c : Nat} {a : E} {e : Expr} {p p3 pos : Pos} (hx : XOk J k X) (tk : Takes X W) (hc : c ∈ J.cs) (h0 : fldC c ≠ 0) (hg : Gl X (cname c)) (he : PE X e (tX X.K J k W false a)) (hs : starEach [e] X.env = [(false, eval e X.env)]) :
    PS X (.Raise (some (.Call (.Name (cname c) p) [e] [] p3)) none pos) (tS X.K J k W (.raise c (.cons a .nil))) := by
  have R := hx.cls c hc
  obtain ⟨C, F⟩ := clsB_ok R.cls
  have Z := rzB_ok R.rz F.at_
  obtain ⟨C', fI, fd, ps, e1, i1, i2, F1, B⟩ := R.ini h0
  rw [F.at_] at e1
  cases e1
  have px : Passes (L2.CX X.prog X.w) X (fun _ _ _ => False) := passes_call tk fun _ _ _ _ z => z.elim
  refine PS.imp (ps_raise hx.calm tk (pmk_ini (baseF c) (Z.wi h0).1 Z.sb Z.ty Z.kp i1 i2 F1 (hx.room.mono (by omega)) B px hg (R.glo.trans (congrArg some F.at_)) he (cname_dbg c R.lt) hs)) fun Dn σ H ⟨A, ρ, M, θ, O, rs, post⟩ => ?_
  have post' : Post X.K J W A Dn H O θ ((ev (J.cfg k) a ρ M).then_ ρ fun d M1 => .exc ρ c d M1) := by
    have z : Post X.K J W A Dn H O θ ((evs (J.cfg k) (.cons a .nil) ρ M).then_ ρ fun xs M1 => match xs with
      | [d] => .exc ρ c (if (J.cfg k).fld c = 0 then .non else d) M1
      | _ => .stuck) := post
    rw [show (J.cfg k).fld = fldC from hx.fld] at z
    rw [evs] at z
    cases q : ev (J.cfg k) a ρ M with
    | ok d M1 => rw [q] at z; simpa [evs, h0] using z
    | exc _ _ _ => rw [q] at z; exact z
    | stuck => rw [q] at z; exact z
  refine tX_of rs (Post.thn rs post') fun d M1 θ1 H1 x rs1 h1 v rv => fun dd hdd => ?_
  have rv : Rep X.K H1 O θ1 d v := rv
  have xx : Ext θ1 θ1 H1 (upd H1 dd (.xd [(fname (fldC c), v)])) := Ext.upd hdd
  have nn := noO_none rs1.rm hdd
  exact (show Post X.K J W A Dn H1 O θ1 (.exc ρ c d M1) from h1) σ _ θ1 O (.ref C) (some dd) (ext_fs xx) (rs1.ext xx (rm_upd rs1.rm hdd)) ⟨⟨R.cls, F.at_.symm⟩, .inr ⟨h0, dd, v, rfl, ⟨upd_same, nn.1, nn.2⟩, rv.ext xx⟩⟩
theorem exm_all {K : PySem.W.Frag} {c : Nat} {C : Addr} (F : ClsF K c C) : ∀ ks : List Nat, (∀ t ∈ ks, t < 20 ∧ clV K t ≠ .none) → PySem.W.exmAny K (.ref C) (ks.map (clV K)) = some (ks.any (isaC c))
  | [], _ => rfl
  | t :: ks, h => by
    have e1 := F.exm t (h t List.mem_cons_self).1 (h t List.mem_cons_self).2
    have e2 := exm_all F ks fun u hu => h u (List.mem_cons_of_mem _ hu)
    rw [List.map_cons, PySem.W.exmAny, e1, e2]
    rfl
/-- try: .. except .. as n: m = n -/
theorem ps_d_try {b : Cs} {ks : List Nat} {i j : Nat} {t : Expr} {n m : Str} {body : List Stmt} {mp np ap hp pos : Pos} (hx : XOk J k X) (tk : Takes X W) (dx : DefX X) (hks : ∀ c ∈ ks, c ∈ J.cs) (hi : X.N[i]? = some n) (hln : X.env.kindOf n = some .local) (hj : X.N[j]? = some m) (hlm : Loc X.env.scope m)
    (hfm : X.fn m = true) (hnd : (n == ("__debug__" : Str)) = false) (hnc : (n == ("__classdict__" : Str)) = false) (T : Tst X t (ks.map (clV X.K)))
    (hb : ∀ (W' : WX) (pn : List (Addr × Obj)) (xe : Value → Shared → Prop), Takes (X.tr pn xe) W' → PassesOwn (model X.prog X.w) X.A X.env xe → PSs (X.tr pn xe) body (tSs X.K J k W' b)) :
    PS X (.Try body [.ExceptHandler (some t) (some n) [.Assign [.Name m mp] (.Name n np) ap] hp] [] [] pos) (tS X.K J k W (.try_ b ks i j)) := by
  refine PS.imp (ps_try_keep (tb := fun W' => tSs X.K J k W' b) dx.stk dx.frm dx.ex hx.nd hi hln hj hlm hfm hnd hnc T tk hb) fun Dn σ H ⟨A, ρ, M, θ, O, rs, post⟩ => ⟨A, ρ, M, θ, O, rs, ?_⟩
  have post' : Post X.K J W A Dn H O θ (match exs (J.cfg k) b ρ M with
    | .exc ρ1 c v M1 => if ks.any ((J.cfg k).isa c) then .next ((setV (setV ρ1 i (.exc c v)) j (.exc c v)).set i none) M1 else .exc ρ1 c v M1
    | o => o) := by rw [ex] at post; exact post
  rw [show (J.cfg k).isa = isaC from hx.isa] at post'
  have pres : ∀ t ∈ ks, t < 20 ∧ clV X.K t ≠ .none := fun t ht => by
    have R := hx.cls t (hks t ht)
    obtain ⟨C, F⟩ := clsB_ok R.cls
    exact ⟨by have := R.lt; omega, by rw [F.at_]; simp⟩
  cases z : exs (J.cfg k) b ρ M with
  | exc ρ1 c v M1 =>
    rw [z] at post'
    refine fun σ1 H1 θ1 O1 cls da f r rx => ?_
    obtain ⟨⟨hc, ec⟩, hd⟩ := rx
    obtain ⟨C, F⟩ := clsB_ok hc
    subst ec
    refine ⟨ks.any (isaC c), by rw [F.at_]; exact exm_all F ks pres, fun q a na => ?_, fun q => ?_⟩
    · have p1 : Post X.K J W A Dn H O θ (.next ((setV (setV ρ1 i (.exc c v)) j (.exc c v)).set i none) M1) := by
        have p0 : Post X.K J W A Dn H O θ (if ks.any (isaC c) then .next ((setV (setV ρ1 i (.exc c v)) j (.exc c v)).set i none) M1 else .exc ρ1 c v M1) := post'
        rw [if_pos q] at p0; exact p0
      have xx : Ext θ1 θ1 H1 (upd H1 a (ErO (clV X.K c) da a)) := Ext.upd na
      have nn := noO_none r.rm na
      have r2 := r.ext xx (rm_upd r.rm na)
      have rep : Rep X.K (upd H1 a (ErO (clV X.K c) da a)) O1 θ1 (.exc c v) (.ref a) := by
        refine ⟨hc, a, da, rfl, ⟨upd_same, nn.1, nn.2⟩, ?_⟩
        rcases hd with z1 | ⟨z1, d, w, z2, z3, z4⟩
        · exact .inl z1
        · exact .inr ⟨z1, d, w, z2, (xx.stays (K := X.K) (O := O1)).obj _ _ (nt_xd _) z3, z4.ext xx⟩
      exact p1 _ _ θ1 O1 (f.trans (ext_fs xx)) (((r2.set i rep).set j rep).unset i)
    · have p0 : Post X.K J W A Dn H O θ (if ks.any (isaC c) then .next ((setV (setV ρ1 i (.exc c v)) j (.exc c v)).set i none) M1 else .exc ρ1 c v M1) := post'
      rw [if_neg (by rw [q]; exact Bool.false_ne_true)] at p0
      exact p0 σ1 H1 θ1 O1 _ da f r ⟨⟨hc, rfl⟩, hd⟩
  | next ρ1 M1 => rw [z] at post'; exact post'
  | cont ρ1 M2 => rw [z] at post'; exact post'
  | brk ρ1 M2 => rw [z] at post'; exact post'
  | ret d M2 => rw [z] at post'; exact post'
  | stuck => rw [z] at post'; exact post'
end
end RC

set_option Elab.async false
set_option linter.all false
set_option autoImplicit false
set_option maxRecDepth 100000
set_option maxHeartbeats 2000000
namespace RC
open PySem PySem.Spec PyProof.Rows L2
variable [LX]
def notStarE : Expr → Bool
  | .Starred .. => true
  | _ => false
def par2B (sc : Scope) (x y : Str) (px py : Pos) (a b : Expr) : Bool :=
  isLocal sc x && isLocal sc y && (py.line == px.line) && !(y == x) && notStar a && notStar b && !([a, b].all (foldedForSure 8)) && !([a, b].all (constantsAlone 8))
def par3B (sc : Scope) (x y z : Str) (px py pz : Pos) (a b c : Expr) : Bool :=
  isLocal sc x && isLocal sc y && isLocal sc z && (py.line == px.line) && (pz.line == px.line) && !(y == x) && !(z == x) && !(z == y) && notStar a && notStar b && notStar c && !([a, b, c].all (foldedForSure 8)) && !([a, b, c].all (constantsAlone 8))
theorem isLocal_kind {env : PySem.Env} {x : Str} (h : isLocal env.scope x = true) : (env.kindOf x == some NameKind.local) = true := by
  have : env.kindOf x = some .local := of_decide_eq_true h
  rw [this]; rfl
theorem star_no {a : Expr} (h : notStar a = true) : notStarE a = false := by
  cases a <;> first | rfl | cases h
theorem sw_par2 {env : PySem.Env} {x y : Str} {px py pt pt2 : Pos} {a b : Expr} {kt k2 : Nat} (hk : env.scope.kind = .function) (h : par2B env.scope x y px py a b = true) :
    swappedStores [.Tuple [.Name x px, .Name y py] kt pt] (.Tuple [a, b] k2 pt2) env = pure (some [x, y]) := by
  unfold par2B at h
  simp only [Bool.and_eq_true] at h
  obtain ⟨⟨⟨⟨⟨⟨⟨h1, h2⟩, h3⟩, h4⟩, h5⟩, h6⟩, h7⟩, h8⟩ := h
  have h7' : [a, b].all (foldedForSure 8) = false := by simpa only [Bool.not_eq_true'] using h7
  have h8' : [a, b].all (constantsAlone 8) = false := by simpa only [Bool.not_eq_true'] using h8
  have h4' : (y == x) = false := by simpa using h4
  have e1 := isLocal_kind h1
  have e2 := isLocal_kind h2
  have s5 := star_no h5
  have s6 := star_no h6
  unfold swappedStores
  have hb : (env.blockKind != .function) = false := by rw [kind_block hk]; rfl
  simp only [List.length_cons, List.length_nil, List.any_cons, List.any_nil, List.filterMap_cons, List.filterMap_nil, List.head?_cons, Option.map_some, Option.getD_some, Expr.pos, e1, e2, h3, hb, h7', h8']
  have d1 : (px.line == px.line) = true := by simp
  simp only [d1, Bool.and_self, if_true, List.length_cons, List.length_nil]
  have ed : [x, y].eraseDups = [x, y] := by
    rw [List.eraseDups_cons]
    simp [List.filter, h4', List.eraseDups_cons]
  rw [ed]
  refine (if_neg (by decide)).trans ((if_neg ?_).trans rfl)
  show ¬ (notStarE a || (notStarE b || false)) = true
  rw [s5, s6]; decide
theorem sw_par3 {env : PySem.Env} {x y z : Str} {px py pz pt pt2 : Pos} {a b c : Expr} {kt k2 : Nat} (hk : env.scope.kind = .function) (h : par3B env.scope x y z px py pz a b c = true) :
    swappedStores [.Tuple [.Name x px, .Name y py, .Name z pz] kt pt] (.Tuple [a, b, c] k2 pt2) env = pure (some [x, y, z]) := by
  unfold par3B at h
  simp only [Bool.and_eq_true] at h
  obtain ⟨⟨⟨⟨⟨⟨⟨⟨⟨⟨⟨⟨h1, h2⟩, h2'⟩, h3⟩, h3'⟩, h4⟩, h4'⟩, h4''⟩, h5⟩, h6⟩, h6'⟩, h7⟩, h8⟩ := h
  have h7' : [a, b, c].all (foldedForSure 8) = false := by simpa only [Bool.not_eq_true'] using h7
  have h8' : [a, b, c].all (constantsAlone 8) = false := by simpa only [Bool.not_eq_true'] using h8
  have g1 : (y == x) = false := by simpa using h4
  have g2 : (z == x) = false := by simpa using h4'
  have g3 : (z == y) = false := by simpa using h4''
  have e1 := isLocal_kind h1
  have e2 := isLocal_kind h2
  have e3 := isLocal_kind h2'
  have s5 := star_no h5
  have s6 := star_no h6
  have s7 := star_no h6'
  unfold swappedStores
  have hb : (env.blockKind != .function) = false := by rw [kind_block hk]; rfl
  simp only [List.length_cons, List.length_nil, List.any_cons, List.any_nil, List.filterMap_cons, List.filterMap_nil, List.head?_cons, Option.map_some, Option.getD_some, Expr.pos, e1, e2, e3, h3, h3', hb, h7', h8']
  have d1 : (px.line == px.line) = true := by simp
  simp only [d1, Bool.and_self, if_true, List.length_cons, List.length_nil]
  have ed : [x, y, z].eraseDups = [x, y, z] := by
    rw [List.eraseDups_cons]
    simp [List.filter, g1, g2, g3, List.eraseDups_cons]
  rw [ed]
  refine (if_neg (by decide)).trans ((if_neg ?_).trans rfl)
  show ¬ (notStarE a || (notStarE b || (notStarE c || false))) = true
  rw [s5, s6, s7]; decide
/-- a name that is stored -/
def tgB (S : Sg) (sc : Scope) (i : Nat) (x : Str) : Bool := decide (S.N[i]? = some x) && locB sc x
def augB : BO → Operator → Bool
  | .add, .Add => true
  | .sub, .Sub => true
  | _, _ => false
/-- what a loop walks: frozen -/
def chkF (S : Sg) (it : RC.It) (sc : Scope) (t e : Expr) : Bool := match it with
  | .seq x => chkE S false x sc e
  | .rng x => chkI S (.rng x) sc t e
  | .rng2 x y => chkI S (.rng2 x y) sc t e
  | .enum x => match e with
    | .Call (.Name y _) [a] [] _ => decide (y = ("enumerate" : Str)) && globB sc y && chkE S false x sc a && isTupE t
    | _ => false
  | .zip x x' => match e with
    | .Call (.Name y _) [a, a'] [] _ => decide (y = ("zip" : Str)) && globB sc y && chkE S false x sc a && chkE S false x' sc a' && isTupE t
    | _ => false
/-- o.m(..) with a list of the frame's own -/
def mB (S : Sg) (sc : Scope) (i : Nat) (name : Str) (g : Expr) (cp : Pos) : Bool := match g with
  | .Attribute (.Name x _) n ap => varB S sc i x && decide (n = name) && (ap.endLine == cp.line)
  | _ => false
def notNeg : Expr → Bool
  | .Name _ _ => true
  | .Constant _ _ _ => true
  | .Subscript _ _ _ => true
  | .BinOp _ _ _ _ => true
  | .Call _ _ _ _ => true
  | .UnaryOp _ _ _ => true
  | _ => false
def isFrz : C → Bool
  | .frz _ => true
  | _ => false
def isNever : C → Bool
  | .never => true
  | _ => false
/-- a class by its name -/
def nmB (S : Sg) (sc : Scope) (c : Nat) (x : Str) : Bool := decide (x = cname c) && globB sc x && decide (c ∈ S.cs) && decide (c < 17)
def tstB (S : Sg) (sc : Scope) : List Nat → Expr → Bool
  | [c], .Name x _ => nmB S sc c x
  | [c, c'], .Tuple [.Name x _, .Name y _] _ _ => nmB S sc c x && nmB S sc c' y
  | [c, c', c''], .Tuple [.Name x _, .Name y _, .Name z _] _ _ => nmB S sc c x && nmB S sc c' y && nmB S sc c'' z
  | _, _ => false
mutual
def chkC (S : Sg) (sc : Scope) : C → Stmt → Bool
  | .set i e, st => match st with
    | .Assign ts v _ => match ts with
      | [.Name x _] => tgB S sc i x && chkE S false e sc v
      | _ => false
    | _ => false
  | .own i e, st => match st with
    | .Assign ts v _ => match ts with
      | [.Name x _] => tgB S sc i x && frB e && chkE S false e sc v
      | _ => false
    | _ => false
  | .asg tg e, st => match st with
    | .Assign ts v _ => match ts with
      | [t] => chkT S sc tg t && chkE S false e sc v && swNone sc t v && notComp v
      | _ => false
    | _ => false
  | .par2 i j a b, st => match st with
    | .Assign ts v _ => match ts, v with
      | [.Tuple [.Name x px, .Name y py] _ _], .Tuple [p, q] _ _ => decide (S.N[i]? = some x) && decide (S.N[j]? = some y) && par2B sc x y px py p q && chkE S false a sc p && chkE S false b sc q
      | _, _ => false
    | _ => false
  | .par2o i j fa fb a b, st => match st with
    | .Assign ts v _ => match ts, v with
      | [.Tuple [.Name x px, .Name y py] _ _], .Tuple [p, q] _ _ => decide (S.N[i]? = some x) && decide (S.N[j]? = some y) && par2B sc x y px py p q && (!fa || frB a) && (!fb || frB b) && chkE S false a sc p && chkE S false b sc q
      | _, _ => false
    | _ => false
  | .par3 i j l a b c, st => match st with
    | .Assign ts v _ => match ts, v with
      | [.Tuple [.Name x px, .Name y py, .Name z pz] _ _], .Tuple [p, q, r] _ _ => decide (S.N[i]? = some x) && decide (S.N[j]? = some y) && decide (S.N[l]? = some z) && par3B sc x y z px py pz p q r && chkE S false a sc p && chkE S false b sc q && chkE S false c sc r
      | _, _ => false
    | _ => false
  | .aug i o e, st => match st with
    | .AugAssign t op v _ => match t with
      | .Name x _ => tgB S sc i x && augB o op && chkE S false e sc v
      | _ => false
    | _ => false
  | .frz _, _ => false
  | .app i e, st => match st with
    | .Expr v _ => match v with
      | .Call g [a] [] cp => mB S sc i "append" g cp && chkE S false e sc a
      | _ => false
    | _ => false
  | .ext i e, st => match st with
    | .Expr v _ => match v with
      | .Call g [a] [] cp => mB S sc i "extend" g cp && frB e && chkE S false e sc a
      | _ => false
    | _ => false
  | .pop i, st => match st with
    | .Expr v _ => match v with
      | .Call g [] [] cp => mB S sc i "pop" g cp
      | _ => false
    | _ => false
  | .setPop j i, st => match st with
    | .Assign ts v _ => match ts, v with
      | [.Name x _], .Call g [] [] cp => tgB S sc j x && mB S sc i "pop" g cp
      | _, _ => false
    | _ => false
  | .setPopAt j i e, st => match st with
    | .Assign ts v _ => match ts, v with
      | [.Name x _], .Call g [a] [] cp => tgB S sc j x && mB S sc i "pop" g cp && chkE S false e sc a
      | _, _ => false
    | _ => false
  | .appPop j i e, st => match st with
    | .Expr v _ => match v with
      | .Call g [.Call g' [a] [] cp'] [] cp => mB S sc j "append" g cp && mB S sc i "pop" g' cp' && chkE S false e sc a
      | _ => false
    | _ => false
  | .put i n e, st => match st with
    | .Assign ts v _ => match ts with
      | [.Subscript (.Name x _) m _] => varB S sc i x && chkE S false n sc m && chkE S false e sc v && notComp v && notSlice m
      | _ => false
    | _ => false
  | .rput r n e, st => match st with
    | .Assign ts v _ => match ts with
      | [.Subscript o m _] => chkE S false r sc o && chkE S false n sc m && chkE S false e sc v && notComp v && notSlice m
      | _ => false
    | _ => false
  | .expr e, st => match st with
    | .Expr v _ => chkE S false e sc v && notComp v
    | _ => false
  | .ret e, st => match st with
    | .Return (some v) _ => chkE S false e sc v
    | _ => false
  | .retN, st => match st with
    | .Return none _ => true
    | _ => false
  | .never, _ => true
  | .ite t a b, st => match st with
    | .If c p q _ => chkE S false t sc c && notIfe c && chkCs S sc a p && chkCs S sc b q
    | _ => false
  | .for_ tg it b, st => match st with
    | .For t i p orelse _ => match orelse with
      | [] => chkT S sc tg t && chkF S it sc t i && notSet i && chkCs S sc b p
      | _ => false
    | _ => false
  | .while_ t b, st => match st with
    | .While c p orelse _ => match orelse with
      | [] => chkE S false t sc c && notIfe c && chkCs S sc b p
      | _ => false
    | _ => false
  | .pass, st => match st with
    | .Pass _ => true
    | .Expr (.Constant (.str _) _ _) _ => true
    | _ => false
  | .brk, st => match st with
    | .Break _ => true
    | _ => false
  | .cont, st => match st with
    | .Continue _ => true
    | _ => false
  | .raise c es, st => match st with
    | .Raise (some (.Call (.Name x _) [a] [] _)) none _ => nmB S sc c x && (match es with
      | .cons e .nil => bif fldC c == 0 then (match e, a with
          | .cst _, .Constant (.str _) _ _ => true
          | _, _ => false) else chkE S false e sc a
      | _ => false)
    | _ => false
  | .try_ b ks i j, st => match st with
    | .Try body [.ExceptHandler (some t) (some n) [.Assign [.Name m _] (.Name n' _) _] _] [] [] _ =>
      decide (n' = n) && decide (S.N[i]? = some n) && isLocal sc n && plainName n && tgB S sc j m && tstB S sc ks t && chkCs S sc b body
    | _ => false
def chkCs (S : Sg) (sc : Scope) : Cs → List Stmt → Bool
  | .nil, sts => sts.isEmpty
  | .cons c r, sts => bif isFrz c then chkCs S sc r sts else bif isNever c then true else match sts with
      | st :: rest => chkC S sc c st && chkCs S sc r rest
      | [] => false
end
end RC

set_option Elab.async false
set_option linter.all false
set_option autoImplicit false
set_option maxRecDepth 100000
set_option maxHeartbeats 4000000
namespace RC
open PySem PySem.Spec PyProof.Rows L2
variable [LX]
section
variable {X : Cx} {J : Inf} {k : Nat} {W : WX}
theorem tgB_ok {S : Sg} {sc : Scope} {i : Nat} {x : Str} (h : tgB S sc i x = true) : S.N[i]? = some x ∧ locB sc x = true := by
  obtain ⟨h1, h2⟩ := and2 h
  exact ⟨of_decide_eq_true h1, h2⟩
theorem pm1 {i : Nat} {name : Str} {id : String} {g a : Expr} {cp : Pos} {t : TA} {r : V → List V → Hp → VK → Prop} (slot : Slot "list" name id) (ty : typeOf (.builtin id) = pure (.type "method_descriptor")) (mt : MtM X id r) (h : mB (J.sg X.N) X.env.scope i name g cp = true) (ha : PA X [a] t) (hs : starEach [a] X.env = [(false, eval a X.env)]) :
    PE X (.Call g [a] [] cp) (tBM X.K "list" r (tVar i) t) := by
  unfold mB at h
  split at h
  · rename_i x p n ap
    obtain ⟨h1, h2, h3⟩ := and3 h
    have e := of_decide_eq_true h2
    subst e
    obtain ⟨v1, v2, v3, v4⟩ := varB_ok h1
    refine pe_bm F.plainAttrs_list slot ty mt (pe_var v1 v2 v3 v4) ha rfl ?_ h3 hs rfl
    rw [hs]; rfl
  · cases h
theorem pm0 {i : Nat} {name : Str} {id : String} {g : Expr} {cp : Pos} {r : V → List V → Hp → VK → Prop} (slot : Slot "list" name id) (ty : typeOf (.builtin id) = pure (.type "method_descriptor")) (mt : MtM X id r) (h : mB (J.sg X.N) X.env.scope i name g cp = true) :
    PE X (.Call g [] [] cp) (tBM0 X.K "list" r (tVar i)) := by
  unfold mB at h
  split at h
  · rename_i x p n ap
    obtain ⟨h1, h2, h3⟩ := and3 h
    have e := of_decide_eq_true h2
    subst e
    obtain ⟨v1, v2, v3, v4⟩ := varB_ok h1
    exact pe_bm0 F.plainAttrs_list slot ty mt (pe_var v1 v2 v3 v4) rfl h3
  · cases h
theorem pf_ok {it : RC.It} {t e : Expr} (hx : XOk J k X) (tk : Takes X W) (n1 : ∀ a, it ≠ .enum a) (n2 : ∀ a b, it ≠ .zip a b) (h : chkF (J.sg X.N) it X.env.scope t e = true) : PI X t e (tI X.K J k W true it) := by
  cases it <;> first | (exact absurd rfl (n1 _)) | (exact absurd rfl (n2 _ _)) | skip
  · exact pi_seq (bb := false) (pe_ok _ J k false X W _ hx tk h)
  · rename_i a
    have h' : chkI (J.sg X.N) (.rng a) X.env.scope t e = true := h
    cases e <;> first | cases h' | skip
    rename_i g as ks pos
    match g, as, ks, h' with
    | .Name y p, [b], [], h' =>
      obtain ⟨h1, h2, h3⟩ := and3 h'
      have e := of_decide_eq_true h1
      subst e
      exact pi_rng hx (pe_ok _ J k false X W _ hx tk h3) (globB_ok h2) (star_of (chkE_star h3))
  · rename_i a c
    have h' : chkI (J.sg X.N) (.rng2 a c) X.env.scope t e = true := h
    cases e <;> first | cases h' | skip
    rename_i g as ks pos
    match g, as, ks, h' with
    | .Name y p, [b, b'], [], h' =>
      obtain ⟨h1, h2, h3, h4⟩ := and4 h'
      have e := of_decide_eq_true h1
      subst e
      exact pi_rng2 hx (pe_ok _ J k false X W _ hx tk h3) (pe_ok _ J k false X W _ hx tk h4) (globB_ok h2) (by rw [star_of (chkE_star h3), star_of (chkE_star h4)]; rfl) (star_of (chkE_star h4))
theorem pf_enum {a : E} {t e : Expr} (hx : XOk J k X) (tk : Takes X W) (h : chkF (J.sg X.N) (.enum a) X.env.scope t e = true) : PI X t e (tI X.K J k W true (.enum a)) := by
  have h' : (match (generalizing := false) e with
    | .Call (.Name y _) [b] [] _ => decide (y = ("enumerate" : Str)) && globB X.env.scope y && chkE (J.sg X.N) false a X.env.scope b && isTupE t
    | _ => false) = true := h
  split at h'
  · rename_i y p b q
    obtain ⟨h1, h2, h3, h4⟩ := and4 h'
    have e1 : y = ("enumerate" : Str) := of_decide_eq_true h1
    subst e1
    cases t <;> first | cases h4 | skip
    exact pi_d_enum (bb := false) hx (pe_ok a J k false X W b hx tk h3) (globB_ok h2) (star_of (chkE_star h3))
  · cases h'
theorem pf_zip {a a' : E} {t e : Expr} (hx : XOk J k X) (tk : Takes X W) (h : chkF (J.sg X.N) (.zip a a') X.env.scope t e = true) : PI X t e (tI X.K J k W true (.zip a a')) := by
  have h' : (match (generalizing := false) e with
    | .Call (.Name y _) [b, b'] [] _ => decide (y = ("zip" : Str)) && globB X.env.scope y && chkE (J.sg X.N) false a X.env.scope b && chkE (J.sg X.N) false a' X.env.scope b' && isTupE t
    | _ => false) = true := h
  split at h'
  · rename_i y p b b' q
    obtain ⟨h0, h4, h5⟩ := and3 h'
    obtain ⟨h1, h2, h3⟩ := and3 h0
    have e1 : y = ("zip" : Str) := of_decide_eq_true h1
    subst e1
    cases t <;> first | cases h5 | skip
    exact pi_d_zip (bb := false) hx (pe_ok a J k false X W b hx tk h3) (pe_ok a' J k false X W b' hx tk h4) (globB_ok h2) (star_of (chkE_star h3)) (star_of (chkE_star h4)) (by rw [star_of (chkE_star h4)]; rfl)
  · cases h'
theorem pfl_ok {it : RC.It} {t e : Expr} (hx : XOk J k X) (tk : Takes X W) (h : chkF (J.sg X.N) it X.env.scope t e = true) : PI X t e (tI X.K J k W true it) := by
  cases it with
  | enum a => exact pf_enum hx tk h
  | zip a b => exact pf_zip hx tk h
  | seq a => exact pf_ok hx tk (fun a => by simp) (fun a b => by simp) h
  | rng a => exact pf_ok hx tk (fun a => by simp) (fun a b => by simp) h
  | rng2 a b => exact pf_ok hx tk (fun a => by simp) (fun a b => by simp) h
theorem sub_asg {o m : Expr} {p : Pos} {env : PySem.Env} (h : notSlice m = true) : ∀ v, assign (.Subscript o m p) env v = (do
      let ov ← holding [v] (eval o env)
      let iv ← holding [v, ov] (eval m env)
      standAt p
      holding [v, ov, iv] (setItem ov iv v)
      release [v, ov, iv] []) := by
  intro v
  cases m <;> first | rfl | cases h
theorem sole_no {v t : Expr} {n : Nat} {env : PySem.Env} (h : notComp v = true) : swapsWithSole [t] v n env = pure false := swaps_no (t := some t) (n := n) (env := env) h
theorem sw_sub {o m v : Expr} {p : Pos} {env : PySem.Env} : swappedStores [.Subscript o m p] v env = pure none := by
  cases v <;> rfl
theorem nmB_ok {c : Nat} {x : Str} (h : nmB (J.sg X.N) X.env.scope c x = true) : x = cname c ∧ Gl X x ∧ c ∈ J.cs ∧ c < 17 := by
  obtain ⟨h1, h2, h3, h4⟩ := and4 h
  exact ⟨of_decide_eq_true h1, globB_ok h2, of_decide_eq_true h3, of_decide_eq_true h4⟩
theorem nm_names {c : Nat} {x : Str} (hx : XOk J k X) (h : nmB (J.sg X.N) X.env.scope c x = true) : Names X x (clV X.K c) ∧ c ∈ J.cs := by
  obtain ⟨e, g, m, l⟩ := nmB_ok h
  subst e
  exact ⟨⟨g, cname_dbg c l, .inl (hx.cls c m).glo⟩, m⟩
theorem plainN {x : Str} (h : plainName x = true) : (x == ("__debug__" : Str)) = false ∧ (x == ("__classdict__" : Str)) = false := by
  unfold plainName at h
  simp only [Bool.and_eq_true, Bool.not_eq_true'] at h
  exact ⟨h.1.1, h.1.2⟩
theorem tstB_ok {ks : List Nat} {t : Expr} (hx : XOk J k X) (h : tstB (J.sg X.N) X.env.scope ks t = true) : Tst X t (ks.map (clV X.K)) ∧ ∀ c ∈ ks, c ∈ J.cs := by
  unfold tstB at h
  split at h
  · obtain ⟨h1, m1⟩ := nm_names hx h
    exact ⟨.one h1, fun c hc => by simp only [List.mem_singleton] at hc; rw [hc]; exact m1⟩
  · obtain ⟨h1, h2⟩ := and2 h
    obtain ⟨h1, m1⟩ := nm_names hx h1
    obtain ⟨h2, m2⟩ := nm_names hx h2
    refine ⟨.two h1 h2, fun c hc => ?_⟩
    simp only [List.mem_cons, List.not_mem_nil, or_false] at hc
    rcases hc with e | e <;> (rw [e]; assumption)
  · obtain ⟨h1, h2, h3⟩ := and3 h
    obtain ⟨h1, m1⟩ := nm_names hx h1
    obtain ⟨h2, m2⟩ := nm_names hx h2
    obtain ⟨h3, m3⟩ := nm_names hx h3
    refine ⟨.three h1 h2 h3, fun c hc => ?_⟩
    simp only [List.mem_cons, List.not_mem_nil, or_false] at hc
    rcases hc with e | e | e <;> (rw [e]; assumption)
  · cases h
mutual
theorem ps_ok : ∀ (c : C) (X : Cx) (W : WX) (st : Stmt), XOk J k X → Takes X W → (∀ z, X.fn z = true) → PassesOwn (model X.prog X.w) X.A X.env X.xe → DefX X → chkC (J.sg X.N) X.env.scope c st = true → PS X st (tS X.K J k W c)
  | .set i e, X, W, st, hx, tk, hfn, hp, hd, h => by
    cases st <;> first | cases h | skip
    rename_i ts v pos
    match ts, h with
    | [.Name x p], h =>
      obtain ⟨h1, h2⟩ := and2 h
      obtain ⟨t1, t2⟩ := tgB_ok h1
      by_cases hc : notComp v = true
      · exact ps_d_set (ps_set hx.nd t1 (locB_ok t2) (pe_ok e J k false X W v hx tk h2) (swaps_no hc) (.inl (hfn x)))
      · cases e <;> first | (cases v <;> first | cases h2 | (exact absurd rfl hc)) | skip
        exact ps_d_setN (fun _ _ _ _ q => ev_lc_lst q) (ps_lc hx tk hfn t1 t2 h2)
  | .own i e, X, W, st, hx, tk, hfn, hp, hd, h => by
    cases st <;> first | cases h | skip
    rename_i ts v pos
    match ts, h with
    | [.Name x p], h =>
      obtain ⟨h1, h3, h2⟩ := and3 h
      obtain ⟨t1, t2⟩ := tgB_ok h1
      by_cases hc : notComp v = true
      · exact ps_d_own (ps_set hx.nd t1 (locB_ok t2) (pn_ok hx tk h3 h2) (swaps_no hc) (.inl (hfn x)))
      · cases e <;> first | (cases v <;> first | cases h2 | (exact absurd rfl hc)) | skip
        exact ps_d_own (ps_lc hx tk hfn t1 t2 h2)
  | .asg tg e, X, W, st, hx, tk, hfn, hp, hd, h => by
    cases st <;> first | cases h | skip
    rename_i ts v pos
    match ts, h with
    | [t], h =>
      obtain ⟨h1, h2, h3, h4⟩ := and4 h
      exact ps_d_asg (ps_asg (pe_ok e J k false X W v hx tk h2) (pg_ok (S := J.sg X.N) (sc0 := X.env.scope) rfl hx.calm hx.nd (fun z hz => ⟨locB_ok hz, .inl (hfn z)⟩) tg t h1) (swaps_no h4) (swNone_ok h3) (by rw [chkT_star h1]; rfl))
  | .par2 i j a b, X, W, st, hx, tk, hfn, hp, hd, h => by
    cases st <;> first | cases h | skip
    rename_i ts v pos
    match ts, v, h with
    | [.Tuple [.Name x px, .Name y py] kt pt], .Tuple [p, q] k2 pt2, h =>
      obtain ⟨h0, h4, h5⟩ := and3 h
      obtain ⟨h1, h2, h3⟩ := and3 h0
      have hi : X.N[i]? = some x := of_decide_eq_true h1
      have hj : X.N[j]? = some y := of_decide_eq_true h2
      have h3' := h3
      unfold par2B at h3'
      simp only [Bool.and_eq_true] at h3'
      obtain ⟨⟨⟨⟨⟨⟨⟨k1, k2'⟩, k3⟩, k4⟩, k5⟩, k6⟩, k7⟩, k8⟩ := h3'
      have hij : i ≠ j := fun e => by
        subst e
        rw [hi] at hj
        cases hj
        simp at k4
      exact ps_d_par2 (ps_par hx.calm hx.nd hi hj hij (of_decide_eq_true k1) (of_decide_eq_true k2') (pa_d_cons (pe_ok a J k false X W p hx tk h4) (pa_d_cons (pe_ok b J k false X W q hx tk h5) pa_d_nil (star_of k6)) (star_of k5)) (sw_par2 hx.kind h3) rfl)
  | .par2o i j fa fb a b, X, W, st, hx, tk, hfn, hp, hd, h => by
    cases st <;> first | cases h | skip
    rename_i ts v pos
    match ts, v, h with
    | [.Tuple [.Name x px, .Name y py] kt pt], .Tuple [p, q] k2 pt2, h =>
      obtain ⟨h0, h4, h5⟩ := and3 h
      obtain ⟨h0, f1, f2⟩ := and3 h0
      obtain ⟨h1, h2, h3⟩ := and3 h0
      have hi : X.N[i]? = some x := of_decide_eq_true h1
      have hj : X.N[j]? = some y := of_decide_eq_true h2
      have h3' := h3
      unfold par2B at h3'
      simp only [Bool.and_eq_true] at h3'
      obtain ⟨⟨⟨⟨⟨⟨⟨k1, k2'⟩, k3⟩, k4⟩, k5⟩, k6⟩, k7⟩, k8⟩ := h3'
      have hij : i ≠ j := fun e => by
        subst e
        rw [hi] at hj
        cases hj
        simp at k4
      have ha : PE X p (tF X.K J k W fa a) := by
        cases fa with
        | false => exact pe_ok a J k false X W p hx tk h4
        | true => exact pn_ok hx tk (by simpa using f1) h4
      have hb : PE X q (tF X.K J k W fb b) := by
        cases fb with
        | false => exact pe_ok b J k false X W q hx tk h5
        | true => exact pn_ok hx tk (by simpa using f2) h5
      exact ps_d_par2o hij (PS.imp (ps_par hx.calm hx.nd hi hj hij (of_decide_eq_true k1) (of_decide_eq_true k2') (pa_cons ha (pa_cons hb pa_nil (star_of k6)) (star_of k5)) (sw_par2 hx.kind h3) rfl) fun Dn σ H q => q)
  | .par3 i j l a b c, X, W, st, hx, tk, hfn, hp, hd, h => by
    cases st <;> first | cases h | skip
    rename_i ts v pos
    match ts, v, h with
    | [.Tuple [.Name x px, .Name y py, .Name z pz] kt pt], .Tuple [p, q, r] k2 pt2, h =>
      obtain ⟨h0, h4, h5, h6⟩ := and4 h
      obtain ⟨h1, h2, h2', h3⟩ := and4 h0
      have hi : X.N[i]? = some x := of_decide_eq_true h1
      have hj : X.N[j]? = some y := of_decide_eq_true h2
      have hl : X.N[l]? = some z := of_decide_eq_true h2'
      have h3' := h3
      unfold par3B at h3'
      simp only [Bool.and_eq_true] at h3'
      obtain ⟨⟨⟨⟨⟨⟨⟨⟨⟨⟨⟨⟨k1, k2'⟩, k2''⟩, k3⟩, k3'⟩, k4⟩, k4'⟩, k4''⟩, k5⟩, k6⟩, k6'⟩, k7⟩, k8⟩ := h3'
      have hij : i ≠ j := fun e => by
        subst e
        rw [hi] at hj
        cases hj
        simp at k4
      have hil : i ≠ l := fun e => by
        subst e
        rw [hi] at hl
        cases hl
        simp at k4'
      have hjl : j ≠ l := fun e => by
        subst e
        rw [hj] at hl
        cases hl
        simp at k4''
      exact ps_d_par3 (ps_par3 hx.calm hx.nd hi hj hl hij hil hjl (of_decide_eq_true k1) (of_decide_eq_true k2') (of_decide_eq_true k2'') (pa_d_cons (pe_ok a J k false X W p hx tk h4) (pa_d_cons (pe_ok b J k false X W q hx tk h5) (pa_d_cons (pe_ok c J k false X W r hx tk h6) pa_d_nil (star_of k6')) (star_of k6)) (star_of k5)) (sw_par3 hx.kind h3) rfl)
  | .aug i o e, X, W, st, hx, tk, hfn, hp, hd, h => by
    cases st <;> first | cases h | skip
    rename_i t op v pos
    cases t <;> first | cases h | skip
    rename_i x p
    obtain ⟨h1, h2, h3⟩ := and3 h
    obtain ⟨t1, t2⟩ := tgB_ok h1
    cases o <;> cases op <;> first | cases h2 | skip
    · exact ps_d_aug (ps_aug hx.nd t1 (locB_ok t2) (pe_ok e J k false X W v hx tk h3) ip_add_ok (.inl (hfn x)))
    · exact ps_d_aug (ps_aug hx.nd t1 (locB_ok t2) (pe_ok e J k false X W v hx tk h3) ip_sub_ok (.inl (hfn x)))
  | .frz i, X, W, st, hx, tk, hfn, hp, hd, h => by cases h
  | .app i e, X, W, st, hx, tk, hfn, hp, hd, h => by
    cases st <;> first | cases h | skip
    rename_i v pos
    cases v <;> first | cases h | skip
    rename_i g as ks cp
    match as, ks, h with
    | [a], [], h =>
      obtain ⟨h1, h2⟩ := and2 h
      exact ps_d_app (ps_expr (pm1 F.slot_list_append F.type_list_append mt_append h1 (pa_d_cons (pe_ok e J k false X W a hx tk h2) pa_d_nil (star_of (chkE_star h2))) (star_of (chkE_star h2))) rfl)
  | .ext i e, X, W, st, hx, tk, hfn, hp, hd, h => by
    cases st <;> first | cases h | skip
    rename_i v pos
    cases v <;> first | cases h | skip
    rename_i g as ks cp
    match as, ks, h with
    | [a], [], h =>
      obtain ⟨h1, h3, h2⟩ := and3 h
      exact ps_d_ext (ps_expr (pm1 F.slot_list_extend F.type_list_extend mt_extend h1 (pa_cons (pn_ok hx tk h3 h2) pa_nil (star_of (chkE_star h2))) (star_of (chkE_star h2))) rfl)
  | .pop i, X, W, st, hx, tk, hfn, hp, hd, h => by
    cases st <;> first | cases h | skip
    rename_i v pos
    cases v <;> first | cases h | skip
    rename_i g as ks cp
    match as, ks, h with
    | [], [], h => exact ps_d_pop (ps_expr (pm0 F.slot_list_pop F.type_list_pop mt_pop h) rfl)
  | .setPop j i, X, W, st, hx, tk, hfn, hp, hd, h => by
    cases st <;> first | cases h | skip
    rename_i ts v pos
    match ts, v, h with
    | [.Name x p], .Call g [] [] cp, h =>
      obtain ⟨h1, h2⟩ := and2 h
      obtain ⟨t1, t2⟩ := tgB_ok h1
      exact ps_d_setPop (ps_set hx.nd t1 (locB_ok t2) (pm0 F.slot_list_pop F.type_list_pop mt_pop h2) rfl (.inl (hfn x)))
  | .setPopAt j i e, X, W, st, hx, tk, hfn, hp, hd, h => by
    cases st <;> first | cases h | skip
    rename_i ts v pos
    match ts, v, h with
    | [.Name x p], .Call g [a] [] cp, h =>
      obtain ⟨h1, h2, h3⟩ := and3 h
      obtain ⟨t1, t2⟩ := tgB_ok h1
      exact ps_d_setPopAt (ps_set hx.nd t1 (locB_ok t2) (pm1 F.slot_list_pop F.type_list_pop mt_popAt2 h2 (pa_d_cons (pe_ok e J k false X W a hx tk h3) pa_d_nil (star_of (chkE_star h3))) (star_of (chkE_star h3))) rfl (.inl (hfn x)))
  | .appPop j i e, X, W, st, hx, tk, hfn, hp, hd, h => by
    cases st <;> first | cases h | skip
    rename_i v pos
    match v, h with
    | .Call g [.Call g' [a] [] cp'] [] cp, h =>
      obtain ⟨h1, h2, h3⟩ := and3 h
      exact ps_d_appPop (ps_expr (pm1 F.slot_list_append F.type_list_append mt_append h1 (pa_cons (pm1 F.slot_list_pop F.type_list_pop mt_popAt2 h2 (pa_d_cons (pe_ok e J k false X W a hx tk h3) pa_d_nil (star_of (chkE_star h3))) (star_of (chkE_star h3))) pa_nil rfl) rfl) rfl)
  | .put i n e, X, W, st, hx, tk, hfn, hp, hd, h => by
    cases st <;> first | cases h | skip
    rename_i ts v pos
    match ts, h with
    | [.Subscript (.Name x p) m p2], h =>
      obtain ⟨h0, h4, h5⟩ := and3 h
      obtain ⟨h1, h2, h3⟩ := and3 h0
      obtain ⟨v1, v2, v3, v4⟩ := varB_ok h1
      exact ps_d_put (ps_asg (pe_ok e J k false X W v hx tk h3) (pg_sub (pe_var v1 v2 v3 v4) (pe_ok n J k false X W m hx tk h2) set_list (sub_asg h5)) (sole_no h4) sw_sub rfl)
  | .rput r n e, X, W, st, hx, tk, hfn, hp, hd, h => by
    cases st <;> first | cases h | skip
    rename_i ts v pos
    match ts, h with
    | [.Subscript o m p2], h =>
      obtain ⟨h0, h4, h5⟩ := and3 h
      obtain ⟨h1, h2, h3⟩ := and3 h0
      exact ps_d_rput (ps_asg (pe_ok e J k false X W v hx tk h3) (pg_sub (pe_ok r J k false X W o hx tk h1) (pe_ok n J k false X W m hx tk h2) set_list (sub_asg h5)) (sole_no h4) sw_sub rfl)
  | .expr e, X, W, st, hx, tk, hfn, hp, hd, h => by
    cases st <;> first | cases h | skip
    rename_i v pos
    obtain ⟨h1, h2⟩ := and2 h
    exact ps_d_expr (ps_expr (pe_ok e J k false X W v hx tk h1) (swaps_no h2))
  | .ret e, X, W, st, hx, tk, hfn, hp, hd, h => by
    cases st <;> first | cases h | skip
    rename_i v pos
    cases v with
    | none => cases h
    | some v => exact ps_d_ret (ps_ret (pe_ok e J k false X W v hx tk h))
  | .retN, X, W, st, hx, tk, hfn, hp, hd, h => by
    cases st <;> first | cases h | skip
    rename_i v pos
    cases v with
    | some v => cases h
    | none => exact ps_d_retN ps_retN
  | .never, X, W, st, hx, tk, hfn, hp, hd, h => ps_d_never
  | .ite t a b, X, W, st, hx, tk, hfn, hp, hd, h => by
    cases st <;> first | cases h | skip
    obtain ⟨h1, h2, h3, h4⟩ := and4 h
    exact ps_d_ite (pt_ok t J k X W _ hx tk h1 h2) (pss_ok a X W _ hx tk hfn hp hd h3) (pss_ok b X W _ hx tk hfn hp hd h4)
  | .for_ tg it b, X, W, st, hx, tk, hfn, hp, hd, h => by
    cases st <;> first | cases h | skip
    rename_i t i p orelse pos
    cases orelse with
    | cons _ _ => cases h
    | nil =>
      obtain ⟨h1, h2, h3, h4⟩ := and4 h
      exact ps_d_for hx hp (pfl_ok hx tk h2) (pg_ok (S := J.sg X.N) (sc0 := X.env.scope) rfl hx.calm hx.nd (fun z hz => ⟨locB_ok hz, .inl (hfn z)⟩) tg t h1) (pss_ok b X W _ hx tk hfn hp hd h4) (folded_of h3)
  | .while_ t b, X, W, st, hx, tk, hfn, hp, hd, h => by
    cases st <;> first | cases h | skip
    rename_i c p orelse pos
    cases orelse with
    | cons _ _ => cases h
    | nil =>
      obtain ⟨h1, h2, h3⟩ := and3 h
      exact ps_d_while hp (pt_ok t J k X W _ hx tk h1 h2) (pss_ok b X W _ hx tk hfn hp hd h3)
  | .pass, X, W, st, hx, tk, hfn, hp, hd, h => by
    cases st <;> first | cases h | skip
    · rename_i v pos
      cases v <;> first | cases h | skip
      rename_i c _ _
      cases c <;> first | cases h | skip
      exact ps_d_pass ps_doc
    · exact ps_d_pass ps_pass
  | .brk, X, W, st, hx, tk, hfn, hp, hd, h => by
    cases st <;> first | cases h | skip
    exact ps_d_brk ps_break
  | .cont, X, W, st, hx, tk, hfn, hp, hd, h => by
    cases st <;> first | cases h | skip
    exact ps_d_cont ps_continue
  | .raise c es, X, W, st, hx, tk, hfn, hp, hd, h => by
    have h' := h
    unfold chkC at h'
    split at h'
    · rename_i x p a q r
      obtain ⟨h1, h2⟩ := and2 h'
      obtain ⟨e1, g1, c1, l1⟩ := nmB_ok h1
      subst e1
      split at h2
      · rename_i e
        cases hf : (fldC c == 0) with
        | true =>
          rw [hf] at h2
          have h3 : (match (generalizing := false) e, a with
            | .cst _, .Constant (.str _) _ _ => true
            | _, _ => false) = true := h2
          split at h3
          · exact ps_d_raise0 hx tk c1 (by simpa using hf) g1
          · cases h3
        | false =>
          rw [hf] at h2
          exact ps_d_raise1 hx tk c1 (by simpa using hf) g1 (pe_ok e J k false X W a hx tk h2) (star_of (chkE_star (S := J.sg X.N) (b := false) (e := e) h2))
      · cases h2
    · cases h'
  | .try_ b ks i j, X, W, st, hx, tk, hfn, hp, hd, h => by
    have h' := h
    unfold chkC at h'
    split at h'
    · rename_i body t n m mp n' np ap hp' pos
      simp only [Bool.and_eq_true] at h'
      obtain ⟨⟨⟨⟨⟨⟨h1, h2⟩, h3⟩, h4⟩, h5⟩, h6⟩, h7⟩ := h'
      have e1 : n' = n := of_decide_eq_true h1
      subst e1
      obtain ⟨t1, t2⟩ := tgB_ok h5
      obtain ⟨T, hks⟩ := tstB_ok hx h6
      obtain ⟨n1, n2⟩ := plainN h4
      exact ps_d_try hx tk hd hks (of_decide_eq_true h2) (of_decide_eq_true h3) t1 (locB_ok t2) (hfn _) n1 n2 T fun W' pn xe tk' hp' => pss_ok b (X.tr pn xe) W' body (xok_tr hx pn xe) tk' hfn hp' ⟨hd.stk, hd.frm, hd.ex⟩ h7
    · cases h'
theorem pss_ok : ∀ (cs : Cs) (X : Cx) (W : WX) (sts : List Stmt), XOk J k X → Takes X W → (∀ z, X.fn z = true) → PassesOwn (model X.prog X.w) X.A X.env X.xe → DefX X → chkCs (J.sg X.N) X.env.scope cs sts = true → PSs X sts (tSs X.K J k W cs)
  | .nil, X, W, sts, hx, tk, hfn, hp, hd, h => by
    cases sts with
    | cons _ _ => cases h
    | nil => exact pss_d_nil
  | .cons c r, X, W, sts, hx, tk, hfn, hp, hd, h => by
    have h0 : (bif isFrz c then chkCs (J.sg X.N) X.env.scope r sts else bif isNever c then true else match (generalizing := false) sts with
      | st :: rest => chkC (J.sg X.N) X.env.scope c st && chkCs (J.sg X.N) X.env.scope r rest
      | [] => false) = true := h
    cases h1 : isFrz c with
    | true =>
      rw [h1] at h0
      cases c <;> first | cases h1 | skip
      exact pss_d_frz (pss_ok r X W sts hx tk hfn hp hd h0)
    | false =>
      rw [h1] at h0
      cases h2 : isNever c with
      | true =>
        cases c <;> first | cases h2 | skip
        exact pss_d_never
      | false =>
        rw [h2] at h0
        cases sts with
        | nil => cases h0
        | cons st rest =>
          obtain ⟨q1, q2⟩ := and2 h0
          exact pss_d_cons (ps_ok c X W st hx tk hfn hp hd q1) (pss_ok r X W rest hx tk hfn hp hd q2)
end
end
end RC

set_option Elab.async false
set_option linter.all false
set_option autoImplicit false
set_option maxRecDepth 100000
set_option maxHeartbeats 2000000
/-! Whole programs. -/
namespace RC
open PySem PySem.Spec PyProof.Rows L2
/-- what repr shows of data that is not too large -/
def rpP (d : D) : Option (List Nat) := if isPlain d = true ∧ (toPy d).showable = true ∧ (toPy d).shown.length ≤ SZ then some (toPy d).shown.cps.toList else none
/-- what repr shows, if it is known -/
def rpD (d : D) : Option (List Nat) := match d with
  | .clo 0 [] => some [123, 125]
  | d => rpP d
theorem rpP_ok (d : D) (s : List Nat) (h : rpP d = some s) : rpOk d s := by
  unfold rpP at h
  split at h
  · rename_i hh
    cases h
    refine .inl ⟨hh.1, hh.2.1, ?_, ?_⟩
    · cases (toPy d).shown; simp
    · have := hh.2.2
      simpa [Str.length] using this
  · cases h
theorem rpD_ok (d : D) (s : List Nat) (h : rpD d = some s) : rpOk d s := by
  unfold rpD at h
  split at h
  · cases h
    exact .inr ⟨rfl, rfl⟩
  · exact rpP_ok d s h
/-- what is known in a def -/
def Inf.at_ (J : Inf) (kd : Nat) (F : Store → Res D) : Inf := ⟨J.P, if kd = 3 then (fun _ => none) else J.fn, J.gl, J.cs, F, kd == 1, kd == 2, false, if kd = 3 then (fun _ => none) else J.kfn⟩
theorem at_fn {J : Inf} {kd : Nat} {F : Store → Res D} {f : Nat} {x : Str} (h : (J.at_ kd F).fn f = some x) : J.fn f = some x := by
  have h' : (if kd = 3 then (fun _ => none) else J.fn) f = some x := h
  split at h'
  · cases h'
  · exact h'
theorem at_kfn {J : Inf} {kd : Nat} {F : Store → Res D} {f : Nat} {x : Str} (h : (J.at_ kd F).kfn f = some x) : J.kfn f = some x := by
  have h' : (if kd = 3 then (fun _ => none) else J.kfn) f = some x := h
  split at h'
  · cases h'
  · exact h'
/-- the text's def is the core's -/
structure EntOk (J : Inf) (e : Ent) (fn : Fn) : Prop where
  scope : FnScope e.N e.ps e.sc
  chk : chkCs ((J.at_ e.kd fun _ => .stuck).sg e.N) e.sc fn.body e.body = true
  np : fn.np = e.ps.length
  ns : fn.ns = e.N.length
  nm : ∀ y, y ∈ e.ps → plainName y = true
/-- the def's code object and its table -/
def MkAt (tabs : List (Addr × Str)) (cps : List (Addr × Addr)) (e : Ent) (fd : FuncData) : Prop := ∃ c P, fd.code = .ref c ∧ (c, P) ∈ cps ∧ (P, lamQ e) ∈ tabs ∧ ∀ p ∈ tabs, p.1 = P → p.2 = lamQ e
/-- what is known of the module, for every def -/
structure ModOk (J : Inf) (K : PySem.W.Frag) (mg : Str → Option Value) (tabs : List (Addr × Str)) (cps : List (Addr × Addr)) : Prop where
  fns : ∀ f x, J.fn f = some x → ∃ (e : Ent) (fn : Fn) (fa : Addr) (fd : FuncData), J.P.T f = some fn ∧ EntOk J e fn ∧ mg x = some (.ref fa) ∧ FunD K e.x e.x e.pa e.body e.sc [] [] fa fd ∧ Binds K fd e.ps [] ∧ (e.kd = 1 → MkAt tabs cps e fd) ∧ ∀ y, J.kfn f = some y → e.kd = 3
  kfn : ∀ f x, J.kfn f = some x → J.fn f = some x
  blt : ∀ x, x ∈ bltNames → mg x = none
  gls : ∀ g x d, J.gl g = some x → J.P.G g = some d → ∃ u v, mg x = some u ∧ RelV v u ∧ ∀ H O θ, Rep K H O θ d v
  rp : ∀ d s, J.P.rp d = some s → rpOk d s
  isa : J.P.isa = isaC
  fld : J.P.fld = fldC
  cls : ∀ c, c ∈ J.cs → ∀ (P : Program) (w : World) (base : Heap), RzOk P w K mg base c
theorem start_get {N : List Str} {fn : Fn} {ds : List D} {vs : List V} (hl : ds.length = vs.length) (hn : fn.np = ds.length) (hs : fn.ns = N.length) (i : Nat) :
    (RC.start fn ds)[i]? = (if h : i < ds.length then some (some (Sl.v ds[i])) else (if i < (RC.start fn ds).length then some none else none)) ∧
    (L2.start N vs)[i]? = (if h : i < vs.length then some (some vs[i]) else (if i < (L2.start N vs).length then some none else none)) := by
  constructor
  · unfold RC.start
    by_cases h : i < ds.length
    · rw [dif_pos h, List.getElem?_append_left (by simpa using h), List.getElem?_map, List.getElem?_eq_getElem h]; rfl
    · rw [dif_neg h, List.getElem?_append_right (by simpa using h)]
      simp only [List.length_append, List.length_map, List.length_replicate, List.getElem?_replicate]
      by_cases q : i - ds.length < fn.ns - fn.np
      · rw [if_pos (by simpa using q), if_pos (by omega)]
      · rw [if_neg (by simpa using q), if_neg (by omega)]
  · unfold L2.start
    by_cases h : i < vs.length
    · rw [dif_pos h, List.getElem?_append_left (by simpa using h), List.getElem?_map, List.getElem?_eq_getElem h]; rfl
    · rw [dif_neg h, List.getElem?_append_right (by simpa using h)]
      simp only [List.length_append, List.length_map, List.length_replicate, List.getElem?_replicate]
      by_cases q : i - vs.length < N.length - vs.length
      · rw [if_pos (by simpa using q), if_pos (by omega)]
      · rw [if_neg (by simpa using q), if_neg (by omega)]
theorem rs_start [LX] {K : PySem.W.Frag} {H : Hp} {O : OSet} {θ : List Addr} {M : Store} {N : List Str} {fn : Fn} {ds : List D} {vs : List V} (m : RM H O θ M) (r : Reps K H O θ ds vs) (hn : fn.np = ds.length) (hs : fn.ns = N.length) : RS K ⟨H, θ, O⟩ H O (L2.start N vs) (RC.start fn ds) θ M where
  rm := m
  env := fun i d e => by
    rw [(start_get r.length hn hs i).1] at e
    split at e
    · rename_i h
      cases e
      obtain ⟨v, h1, h2⟩ := r.get (List.getElem?_eq_getElem h)
      refine ⟨v, ?_, h2⟩
      have hv : i < vs.length := by rw [← r.length]; exact h
      rw [(start_get (N := N) r.length hn hs i).2, dif_pos hv]
      rw [List.getElem?_eq_getElem hv] at h1
      cases h1; rfl
    · split at e <;> cases e
  own := fun i xs e => by
    rw [(start_get (N := N) r.length hn hs i).1] at e
    split at e
    · cases e
    · split at e <;> cases e
  fun_ := fun i e => by
    rw [(start_get (N := N) r.length hn hs i).1] at e
    split at e
    · cases e
    · split at e <;> cases e
  onew := fun _ h => .inl h
  dis := fun i j xs ys a e1 _ _ _ => by
    rw [(start_get (N := N) r.length hn hs i).1] at e1
    split at e1
    · cases e1
    · split at e1 <;> cases e1
  sub := fun _ h => h
  anc := Ext.refl _ _
  otr := m.otr
  len := by
    unfold RC.start L2.start
    simp only [List.length_append, List.length_map, List.length_replicate]
    have := r.length
    omega
theorem startF_get {fn : Fn} {i : Nat} {o : Sl} (h : (startF fn)[i]? = some (some o)) : i = 0 ∧ o = Sl.f := by
  unfold startF at h
  cases i with
  | zero => simp at h; exact ⟨rfl, h.symm⟩
  | succ i =>
    rw [List.getElem?_cons_succ, List.getElem?_replicate] at h
    split at h <;> cases h
/-- a def is entered with a function for its parameter -/
theorem rs_startF {K : PySem.W.Frag} {H : Hp} {O : OSet} {θ : List Addr} {M : Store} {N : List Str} {fn : Fn} {f c : Addr} {q : Str} {lx : LX} (m : @RM lx H O θ M) (hcur : @LXat lx ⟨H, θ, O⟩ f c q) (hc : H c = some (LamX.CodeO c q) ∧ ¬ O c ∧ c ∉ θ) (hN : 0 < N.length) (hs : fn.ns = N.length) : @RS lx K ⟨H, θ, O⟩ H O (L2.start N [.ref f]) (startF fn) θ M :=
  @RS.mk lx K ⟨H, θ, O⟩ H O (L2.start N [.ref f]) (startF fn) θ M m (fun i d e => by cases (startF_get e).2) (fun i xs e => by cases (startF_get e).2) (fun i e => by
    obtain ⟨h1, _⟩ := startF_get e
    subst h1
    exact ⟨f, c, q, hcur, rfl, hc⟩) (fun i j xs ys a e _ _ _ => by cases (startF_get e).2) (fun _ h => h) (Ext.refl _ _) (@RM.otr lx _ _ _ _ m) (fun _ h => .inl h) (by
    unfold startF L2.start
    simp only [List.length_append, List.length_map, List.length_replicate, List.length_cons, List.length_nil]
    omega)
theorem rm_lx {lx lx' : LX} {H : Hp} {O : OSet} {θ : List Addr} {M : Store} (e : lx.tabs = lx'.tabs) (m : @RM lx H O θ M) : @RM lx' H O θ M :=
  @RM.mk lx' H O θ M (@RM.len lx _ _ _ _ m) (@RM.nd lx _ _ _ _ m) (@RM.at_ lx _ _ _ _ m) (@RM.noO lx _ _ _ _ m) (@RM.otr lx _ _ _ _ m) (by rw [← e]; exact @RM.tab lx _ _ _ _ m)
theorem RepX.mono {K : PySem.W.Frag} {J : Inf} {H : Hp} {O O' : OSet} {θ : List Addr} {c : Nat} {x : D} {cls : Value} {da : Option Addr} (h : RepX K J H O' θ c x cls da) (m : ∀ a, O a → O' a) : RepX K J H O θ c x cls da := by
  obtain ⟨h1, h2⟩ := h
  refine ⟨h1, ?_⟩
  rcases h2 with h2 | ⟨z, d, v, e1, ⟨e2, n, t⟩, r⟩
  · exact .inl h2
  · exact .inr ⟨z, d, v, e1, ⟨e2, fun q => n (m d q), t⟩, r.mono m⟩
section
variable {J : Inf} {P : Program} {w : World} {K : PySem.W.Frag} {mg : Str → Option Value} {tabs : List (Addr × Str)} {cps : List (Addr × Addr)} {base : Heap}
/-- a def's promise, from its body -/
theorem fn_step [LX] {e : Ent} {fn : Fn} {fa : Addr} {fd : FuncData} {f k : Nat} (hT : J.P.T f = some fn) (ok : EntOk J e fn) (F : FunD K e.x e.x e.pa e.body e.sc [] [] fa fd)
    (hx : ∀ (cd : Value) (A : Around) (outer : List PySem.Env) (s : Shared) (H : Hp) (E : XK), fd.code = cd → A.guards = some [] → Room (k + 4) (A.deeper (envOfC e.x e.sc s.heap.objs.size fa cd)) → (A.deeper (envOfC e.x e.sc s.heap.objs.size fa cd)).units + 16 * (k + 4) + 210 < cLine → XOk (J.at_ e.kd fun _ => .stuck) k (cxOf (L2.CX P w) P w K mg base e.N e.x e.sc fa cd A outer s H E)) :
    FnG P w K mg base (L2.CX P w) (k + 1 + 4) fa fd e.ps (spF K J (k + 1) f) := by
  have len : ∀ (ds : List D) (M : Store), callF J.P (k + 1) f ds M ≠ .stuck → ds.length = fn.np := fun ds M z => by
    by_cases q : ds.length = fn.np
    · exact q
    · exact absurd (by rw [callF_any, hT]; exact if_neg q) z
  have many : ∀ vs H Q E, spF K J (k + 1) f vs H Q E → vs.length = e.ps.length := fun vs H Q E ⟨O, θ, M, ds, m, r, z⟩ => by
    rw [← r.length, ← ok.np]
    refine len ds M fun q => ?_
    rw [q] at z; exact z
  refine fnG_of (k := k + 4) F ok.scope many fun cd A outer s H vs Q E hcd g hr sl ⟨O, θ, M, ds, m, r, z⟩ => ?_
  have hd : ds.length = fn.np := len ds M fun q => by rw [q] at z; exact z
  rw [callF_succ hT hd] at z
  have hx := hx cd A outer s H E hcd g hr sl
  have tk : L2.Takes (cxOf (L2.CX P w) P w K mg base e.N e.x e.sc fa cd A outer s H E) (fun cls d _ H => E cls d H) := L2.takes_of rfl rfl rfl rfl
  have hp := L2.passes_of (X := cxOf (L2.CX P w) P w K mg base e.N e.x e.sc fa cd A outer s H E) rfl
  refine ⟨tSs K (J.at_ e.kd fun _ => .stuck) k (fun cls d _ H => E cls d H) fn.body, pss_ok fn.body _ _ e.body hx tk (fun _ => rfl) hp ⟨rfl, rfl, rfl⟩ ok.chk, ⟨H, θ, O⟩, RC.start fn ds, M, θ, O, rs_start m r hd.symm ok.ns, ?_⟩
  have ec : (J.at_ e.kd fun _ => .stuck).cfg k = J.P.cfg k := Inf.cfg_eq rfl
  rw [ec]
  cases q : exs (J.P.cfg k) fn.body (RC.start fn ds) M with
  | next ρ' M' =>
    rw [q] at z
    exact fun σ' H' θ' O' f r => z θ' H' r.anc (r.rm.mono r.sub) .non rfl
  | ret d M' =>
    rw [q] at z
    exact fun v H' θ' x m rp => z θ' H' x m v rp
  | exc ρ' c v M' =>
    rw [q] at z
    exact fun σ' H' θ' O' cls da f r rx => z θ' H' cls da r.anc (r.rm.mono r.sub) (rx.mono r.sub)
  | brk ρ' M' => rw [q] at z; exact (show False from z).elim
  | cont ρ' M' => rw [q] at z; exact (show False from z).elim
  | stuck => rw [q] at z; exact (show False from z).elim
theorem fn_zero [LX] {e : Ent} {fn : Fn} {fa : Addr} {fd : FuncData} {f : Nat} (ok : EntOk J e fn) (F : FunD K e.x e.x e.pa e.body e.sc [] [] fa fd) : FnG P w K mg base (L2.CX P w) (0 + 4) fa fd e.ps (spF K J 0 f) :=
  fnG_of (k := 3) F ok.scope (fun vs H Q E ⟨O, θ, M, ds, m, r, z⟩ => (show False from z).elim) fun cd A outer s H vs Q E hcd g hr sl ⟨O, θ, M, ds, m, r, z⟩ => (show False from z).elim
/-- keys -/
theorem key_ok (mo : ModOk J K mg tabs cps) (k f : Nat) (x : Str) (h : J.kfn f = some x) : ∃ fa fd ps, mg x = some (.ref fa) ∧ PySem.W.keepIn K (.ref fa) = true ∧ Binds K fd ps [] ∧ FnG P w K mg base (L2.CX P w) (k + 4) fa fd ps (@spF lx0 K J k f) := by
  obtain ⟨e, fn, fa, fd, hT, ok, hm, F, B, _, h3⟩ := mo.fns f x (mo.kfn f x h)
  have h3 := h3 x h
  refine ⟨fa, fd, e.ps, hm, F.kp, B, ?_⟩
  cases k with
  | zero => exact @fn_zero J P w K mg base lx0 e fn fa fd f ok F
  | succ k =>
    refine @fn_step J P w K mg base lx0 e fn fa fd f k hT ok F fun cd A outer s H E hcd g hr sl => ?_
    refine @XOk.mk lx0 _ _ _ rfl ok.scope.nd ok.scope.kind hr g mo.rp (fun _ _ lx _ k' _ f' x' h' => ?_) mo.blt mo.gls sl mo.isa mo.fld (fun c hc => mo.cls c hc P w base) (fun z => ?_) (fun z => ?_) fun k' _ f' x' h' => ?_
    · have h' : (if e.kd = 3 then (fun _ => none) else J.fn) f' = some x' := h'
      rw [if_pos h3] at h'; cases h'
    · have z : (e.kd == 2) = true := z
      rw [h3] at z; cases z
    · have z : (e.kd == 1) = true := z
      rw [h3] at z; cases z
    · have h' : (if e.kd = 3 then (fun _ => none) else J.kfn) f' = some x' := h'
      rw [if_pos h3] at h'; cases h'
/-- the module's defs at a depth: called, and entered with a function -/
def SOk (J : Inf) (P : Program) (w : World) (K : PySem.W.Frag) (mg : Str → Option Value) (tabs : List (Addr × Str)) (base : Heap) (k : Nat) : Prop := ∀ lx : LX, lx.tabs = tabs →
  (∀ f x, J.fn f = some x → ∃ fa fd ps, mg x = some (.ref fa) ∧ PySem.W.keepIn K (.ref fa) = true ∧ Binds K fd ps [] ∧ FnG P w K mg base (L2.CX P w) (k + 4) fa fd ps (@spF lx K J k f)) ∧
  ∀ X : Cx, X.prog = P → X.w = w → X.K = K → X.mg = mg → X.base = base → ∀ g x, J.fn g = some x → ∀ fn, J.P.T g = some fn → fn.np = 1 → ∃ (nm : Str) (Ng : List Str) (a : Str) (pg : Arguments) (bg : List Stmt) (sg : Scope) (fa : Addr) (fd : FuncData), X.mg x = some (.ref fa) ∧ FunD X.K nm nm pg bg sg [] [] fa fd ∧ Binds X.K fd [a] [] ∧ FnScope Ng [a] sg ∧
    (a == ("__debug__" : Str)) = false ∧ (a == ("__classdict__" : Str)) = false ∧ ∀ cdv, fd.code = cdv → @GiveL lx X J k g Ng nm sg fa cdv bg a
/-- what is known in a def's body -/
theorem body_xok (mo : ModOk J K mg tabs cps) (tb : ∀ p ∈ cps, LamX.TabB base mg p.1 p.2) {k : Nat} (hS : ∀ k', k' ≤ k → SOk J P w K mg tabs base k') {e : Ent} {fn : Fn} {fa : Addr} {fd : FuncData} (ok : EntOk J e fn) (hmk : e.kd = 1 → MkAt tabs cps e fd) {lx : LX} (hlx : lx.tabs = tabs)
    {cd : Value} {A : Around} {outer : List PySem.Env} {s : Shared} {H : Hp} {E : XK} (hcd : fd.code = cd) (g : A.guards = some []) (hr : Room (k + 4) (A.deeper (envOfC e.x e.sc s.heap.objs.size fa cd))) (sl : (A.deeper (envOfC e.x e.sc s.heap.objs.size fa cd)).units + 16 * (k + 4) + 210 < cLine) {F : Store → Res D}
    (hact : e.kd = 2 → ∀ (pn : List (Addr × Obj)) (xe : Value → Shared → Prop) (W : WX), Takes ((cxOf (L2.CX P w) P w K mg base e.N e.x e.sc fa cd A outer s H E).tr pn xe) W → ∀ (x : Str) (p1 p2 : Pos), e.N[0]? = some x → Vis e.sc x → PE ((cxOf (L2.CX P w) P w K mg base e.N e.x e.sc fa cd A outer s H E).tr pn xe) (.Call (.Name x p1) [] [] p2) (@tX lx K (J.at_ e.kd F) k W false (.act 0))) :
    @XOk lx (J.at_ e.kd F) k (cxOf (L2.CX P w) P w K mg base e.N e.x e.sc fa cd A outer s H E) := by
  refine @XOk.mk lx _ _ _ rfl ok.scope.nd ok.scope.kind hr g mo.rp (fun T eT lx' e' k' hk f' x' h' => ?_) mo.blt mo.gls sl mo.isa mo.fld (fun c hc => mo.cls c hc P w base) (fun z => hact (by simpa [Inf.at_] using z)) (fun z => ⟨rfl, ?_⟩) fun k' hk f' x' h' => ?_
  · exact ((hS k' hk) lx' (e'.trans (eT.trans hlx))).1 f' x' (at_fn h')
  · have z : e.kd = 1 := by simpa [Inf.at_] using z
    refine @MkL.mk lx _ _ _ (fun _ => rfl) ?_ fun g' x' h' fn' hT' hn' => ?_
    · obtain ⟨c, Pt, h1, h2, h3, h4⟩ := hmk z
      refine ⟨c, Pt, hcd.symm.trans h1, tb _ h2, ?_, ?_⟩
      · rw [hlx]; exact h3
      · rw [hlx]; exact h4
    · exact ((hS k (Nat.le_refl k)) lx hlx).2 _ rfl rfl rfl rfl rfl g' x' (at_fn h') fn' hT' hn'
  · exact key_ok mo k' f' x' (at_kfn h')
theorem sok (mo : ModOk J K mg tabs cps) (tb : ∀ p ∈ cps, LamX.TabB base mg p.1 p.2) : ∀ k, SOk J P w K mg tabs base k := by
  intro k
  induction k using Nat.strongRecOn with
  | _ k ih =>
    intro lx hlx
    refine ⟨fun f x h => ?_, fun X e1 e2 e3 e4 e5 gn x h fn hT hnp => ?_⟩
    · obtain ⟨e, fn, fa, fd, hT, ok, hm, F, B, hmk, _⟩ := mo.fns f x h
      refine ⟨fa, fd, e.ps, hm, F.kp, B, ?_⟩
      cases k with
      | zero => exact @fn_zero J P w K mg base lx e fn fa fd f ok F
      | succ k =>
        refine @fn_step J P w K mg base lx e fn fa fd f k hT ok F fun cd A outer s H E hcd g hr sl => ?_
        refine body_xok mo tb (fun k' hk => ih k' (by omega)) ok hmk hlx hcd g hr sl fun _ pn xe W tk y p1 p2 _ _ => ?_
        refine ⟨fun pins s σ H Q I ⟨A, ρ, M, θ, O, rs, h⟩ => ?_⟩
        have e0 : ev ((J.at_ e.kd fun _ => .stuck).cfg k) (.act 0) ρ M = .stuck := by
          rw [Inf.cfg_eq rfl, ev]
          split <;> rfl
        rw [e0] at h
        exact (show False from h).elim
    · subst e1 e2 e3 e4 e5
      obtain ⟨e, fn', fa, fd, hT', ok, hm, F, B, hmk, _⟩ := mo.fns gn x h
      rw [hT] at hT'
      cases hT'
      obtain ⟨a, ea⟩ : ∃ a, e.ps = [a] := List.length_eq_one_iff.mp (by rw [← ok.np]; exact hnp)
      have hpl := plainName_ok (ok.nm a (by rw [ea]; simp))
      rw [ea] at B
      have S := ok.scope
      rw [ea] at S
      refine ⟨e.x, e.N, a, e.pa, e.body, e.sc, fa, fd, hm, F, B, S, hpl.1, hpl.2.1, fun cdv hcdv f c' q s H Q tl Fn O θ M hr g sl hact hc m htl hres => ?_⟩
      match k, ih, hr, sl, hres with
      | 0, ih, hr, sl, hres => exact (show False from hres).elim
      | 1, ih, hr, sl, hres => exact (show False from hres).elim
      | k + 2, ih, hr, sl, hres =>
        rw [lamF_succ hT hnp] at hres
        have hN0 : e.N[0]? = some a := by
          have := S.pre
          cases hN : e.N with
          | nil => rw [hN] at this; cases this
          | cons y ys => rw [hN] at this; simp at this; rw [this]; rfl
        have hN : 0 < e.N.length := (List.getElem?_eq_some_iff.mp hN0).1
        let lx' : LX := ⟨lx.tabs, some (f, c', q), H, θ, O⟩
        have up : ∀ {H : Hp} {O : OSet} {θ : List Addr} {M : Store}, @RM lx H O θ M → @RM lx' H O θ M := fun m => rm_lx (lx := lx) (lx' := lx') rfl m
        have dn : ∀ {H : Hp} {O : OSet} {θ : List Addr} {M : Store}, @RM lx' H O θ M → @RM lx H O θ M := fun m => rm_lx (lx := lx') (lx' := lx) rfl m
        have hx : @XOk lx' (J.at_ e.kd Fn) (k + 1) (lamZ X e.N e.x e.sc fa cdv s H) := by
          refine body_xok (lx := lx') mo tb (fun k' hk => ih k' (by omega)) ok hmk hlx hcdv g hr (by show X.A.units + 3 + 16 * (k + 1 + 4) + 210 < _; omega) fun _ pn xe W tk y p1 p2 hy hv => ?_
          rw [hN0] at hy
          cases hy
          refine PE.imp (hact W pn xe p1 p2 tk) fun σZ HZ Q' ⟨A, ρ, M1, θ1, O1, rs, h1⟩ => ?_
          have e0 : ev ((J.at_ e.kd Fn).cfg (k + 1)) (.act 0) ρ M1 = if getF ρ 0 then Fn M1 else .stuck := by
            rw [Inf.cfg_eq rfl, ev]
            rfl
          rw [e0] at h1
          cases hg : getF ρ 0 with
          | false => rw [hg] at h1; exact (show False from h1).elim
          | true =>
            rw [hg] at h1
            have hρ : ρ[0]? = some (some Sl.f) := by
              unfold getF at hg
              split at hg
              · assumption
              · cases hg
            obtain ⟨f1, c1, q1, ⟨hc1, hA1, hA2, hA3⟩, hs1, hh1⟩ := @RS.fun_ lx' _ _ _ _ _ _ _ _ rs 0 hρ
            have hc1 : some (f, c', q) = some (f1, c1, q1) := hc1
            cases hc1
            obtain ⟨AH, Aθ, AO⟩ := A
            have hA1 : AH = H := hA1
            have hA2 : Aθ = θ := hA2
            have hA3 : AO = O := hA3
            subst hA1 hA2 hA3
            refine ⟨hs1, hh1.1, htl HZ O1 θ1 M1 _ Q' (@RS.anc lx' _ _ _ _ _ _ _ _ rs) (@RS.sub lx' _ _ _ _ _ _ _ _ rs) (@RS.onew lx' _ _ _ _ _ _ _ _ rs) (dn (@RS.rm lx' _ _ _ _ _ _ _ _ rs)) ?_⟩
            revert h1
            cases Fn M1 with
            | ok d M2 => exact fun h1 θ' H' x m => h1 θ' H' x (up m)
            | exc c v M2 => exact fun h1 θ' H' cls da x m rx => h1 θ' H' cls da x (up m) rx
            | stuck => exact fun h1 => h1
        have tk : L2.Takes (lamZ X e.N e.x e.sc fa cdv s H) (fun _ _ _ _ => False) := L2.takes_of (E := fun _ _ _ => False) rfl rfl rfl rfl
        have hp := L2.passes_of (X := lamZ X e.N e.x e.sc fa cdv s H) rfl
        refine ⟨@tSs lx' X.K (J.at_ e.kd Fn) (k + 1) (fun _ _ _ _ => False) fn.body, @pss_ok lx' _ _ fn.body _ _ e.body hx tk (fun _ => rfl) hp ⟨rfl, rfl, rfl⟩ ok.chk, ⟨H, θ, O⟩, startF fn, M, θ, O, rs_startF (lx := lx') (up m) ⟨rfl, rfl, rfl, rfl⟩ hc hN ok.ns, ?_⟩
        have ec : (J.at_ e.kd Fn).cfg (k + 1) = J.P.cfgA (k + 1) Fn := Inf.cfg_eq rfl
        rw [ec]
        cases q : exs (J.P.cfgA (k + 1) Fn) fn.body (startF fn) M with
        | next ρ' M' =>
          rw [q] at hres
          exact fun σ' H' θ' O' f r => hres θ' H' (@RS.anc lx' _ _ _ _ _ _ _ _ r) (@RM.mono lx _ _ _ _ _ (dn (@RS.rm lx' _ _ _ _ _ _ _ _ r)) (@RS.sub lx' _ _ _ _ _ _ _ _ r)) .non rfl
        | ret d M' =>
          rw [q] at hres
          exact fun v H' θ' x m rp => hres θ' H' x (dn m) v rp
        | exc ρ' c v M' => rw [q] at hres; exact (show False from hres).elim
        | brk ρ' M' => rw [q] at hres; exact (show False from hres).elim
        | cont ρ' M' => rw [q] at hres; exact (show False from hres).elim
        | stuck => rw [q] at hres; exact (show False from hres).elim
theorem fns_ok (mo : ModOk J K mg tabs cps) (k f : Nat) (x : Str) (h : J.fn f = some x) (lx : LX) (hlx : lx.tabs = tabs) : ∃ fa fd ps, mg x = some (.ref fa) ∧ PySem.W.keepIn K (.ref fa) = true ∧ Binds K fd ps [] ∧ (∃ fn, J.P.T f = some fn ∧ fn.np = ps.length) ∧ ∀ base : Heap, (∀ p ∈ cps, LamX.TabB base mg p.1 p.2) → FnG P w K mg base (L2.CX P w) (k + 4) fa fd ps (@spF lx K J k f) := by
  obtain ⟨e, fn, fa, fd, hT, ok, hm, F, B, hmk, _⟩ := mo.fns f x h
  refine ⟨fa, fd, e.ps, hm, F.kp, B, ⟨fn, hT, ok.np⟩, fun base tb => ?_⟩
  cases k with
  | zero => exact @fn_zero J P w K mg base lx e fn fa fd f ok F
  | succ k =>
    refine @fn_step J P w K mg base lx e fn fa fd f k hT ok F fun cd A outer s H E hcd g hr sl => ?_
    refine body_xok mo tb (fun k' hk => sok mo tb k') ok hmk hlx hcd g hr sl fun _ pn xe W tk y p1 p2 _ _ => ?_
    refine ⟨fun pins s σ H Q I ⟨A, ρ, M, θ, O, rs, h⟩ => ?_⟩
    have e0 : ev ((J.at_ e.kd fun _ => .stuck).cfg k) (.act 0) ρ M = .stuck := by
      rw [Inf.cfg_eq rfl, ev]
      split <;> rfl
    rw [e0] at h
    exact (show False from h).elim
end
end RC

set_option linter.all false
set_option autoImplicit false
set_option maxRecDepth 100000
/-! The core's run, equation by equation, for simp. Comprehensions and loops stay closed. -/
namespace RCs
open RC
/-- by a test's answer -/
def brn (d : D) (t u : Out) : Out := match d with
  | .bl true => t
  | .bl false => u
  | _ => .stuck
@[simp] theorem brn_bl {b : Bool} {t u : Out} : brn (.bl b) t u = if b then t else u := by cases b <;> rfl
/-- an error is caught and kept -/
def ctch (isa : Nat → Nat → Bool) (ks : List Nat) (i j : Nat) : Out → Out
  | .exc ρ1 k v M1 => if ks.any (isa k) then .next ((setV (setV ρ1 i (.exc k v)) j (.exc k v)).set i none) M1 else .exc ρ1 k v M1
  | o => o
@[simp] theorem ctch_next {isa : Nat → Nat → Bool} {ks : List Nat} {i j : Nat} {ρ : Env} {M : Store} : ctch isa ks i j (.next ρ M) = .next ρ M := rfl
@[simp] theorem ctch_ret {isa : Nat → Nat → Bool} {ks : List Nat} {i j : Nat} {d : D} {M : Store} : ctch isa ks i j (.ret d M) = .ret d M := rfl
@[simp] theorem ctch_exc {isa : Nat → Nat → Bool} {ks : List Nat} {i j k : Nat} {v : D} {ρ : Env} {M : Store} : ctch isa ks i j (.exc ρ k v M) = if ks.any (isa k) then .next ((setV (setV ρ i (.exc k v)) j (.exc k v)).set i none) M else .exc ρ k v M := rfl
@[simp] theorem isx_non {isa : Nat → Nat → Bool} {t : Nat} : isxF isa .non t = some false := rfl
@[simp] theorem isx_exc {isa : Nat → Nat → Bool} {k t : Nat} {v : D} : isxF isa (.exc k v) t = some (isa k t) := rfl
@[simp] theorem att_exc {fld : Nat → Nat} {k n : Nat} {v : D} : attF fld (.exc k v) n = if n ≠ 0 ∧ fld k = n then some v else none := rfl
section
variable {c : Cfg} {ρ : Env} {M : Store}
@[simp] theorem s_var {i : Nat} : ev c (.var i) ρ M = Res.of M (getV ρ i) := by rw [ev] <;> rfl
@[simp] theorem s_bor {i : Nat} : ev c (.bor i) ρ M = Res.of M ((getO ρ i).map .lst) := by rw [ev] <;> rfl
@[simp] theorem s_cst {d : D} : ev c (.cst d) ρ M = .ok d M := by rw [ev] <;> rfl
@[simp] theorem s_glb {x : Nat} : ev c (.glb x) ρ M = Res.of M (c.G x) := by rw [ev] <;> rfl
@[simp] theorem s_bin {o : BO} {a b : E} : ev c (.bin o a b) ρ M = (ev c a ρ M).bind fun x M1 => (ev c b ρ M1).bind fun y M2 => Res.of M2 (binF o x y) := by rw [ev] <;> rfl
@[simp] theorem s_cmp {o : CO} {a b : E} : ev c (.cmp o a b) ρ M = (ev c a ρ M).bind fun x M1 => (ev c b ρ M1).bind fun y M2 => Res.of M2 ((cmpF o x y).map .bl) := by rw [ev] <;> rfl
@[simp] theorem s_chain {o o' : CO} {a b d : E} : ev c (.chain o o' a b d) ρ M = (ev c a ρ M).bind fun x M1 => (ev c b ρ M1).bind fun y M2 => match cmpF o x y with
    | some true => (ev c d ρ M2).bind fun z M3 => Res.of M3 ((cmpF o' y z).map .bl)
    | some false => .ok (.bl false) M2
    | none => .stuck := by rw [ev] <;> rfl
@[simp] theorem s_and {a b : E} : ev c (.and a b) ρ M = truth (ev c a ρ M) fun x M1 => if x then ev c b ρ M1 else .ok (.bl false) M1 := by rw [ev] <;> rfl
@[simp] theorem s_or {a b : E} : ev c (.or a b) ρ M = truth (ev c a ρ M) fun x M1 => if x then .ok (.bl true) M1 else ev c b ρ M1 := by rw [ev] <;> rfl
@[simp] theorem s_not {a : E} : ev c (.not a) ρ M = truth (ev c a ρ M) fun x M1 => .ok (.bl (!x)) M1 := by rw [ev] <;> rfl
@[simp] theorem s_neg {a : E} : ev c (.neg a) ρ M = (ev c a ρ M).bind fun x M1 => match x with
    | .int i => .ok (.int (-i)) M1
    | _ => .stuck := by rw [ev] <;> rfl
@[simp] theorem s_ife {t a b : E} : ev c (.ife t a b) ρ M = truth (ev c t ρ M) fun x M1 => if x then ev c a ρ M1 else ev c b ρ M1 := by rw [ev] <;> rfl
@[simp] theorem s_call {f : Nat} {es : Es} : ev c (.call f es) ρ M = (evs c es ρ M).bind fun xs M1 => c.call f xs M1 := by rw [ev] <;> rfl
@[simp] theorem s_bi {b : Bi} {es : Es} : ev c (.bi b es) ρ M = (evs c es ρ M).bind fun xs M1 => Res.of M1 (biF b xs) := by rw [ev] <;> rfl
@[simp] theorem s_mt {m : Mt} {o : E} {es : Es} : ev c (.mt m o es) ρ M = (ev c o ρ M).bind fun x M1 => match x with
    | .str s => (evs c es ρ M1).bind fun xs M2 => Res.of M2 (mtF m (.str s) xs)
    | _ => .stuck := by rw [ev] <;> rfl
@[simp] theorem s_isi {a : E} {t : Ty} : ev c (.isi a t) ρ M = (ev c a ρ M).bind fun x M1 => Res.of M1 ((isiF c.isa x t).map .bl) := by rw [ev] <;> rfl
@[simp] theorem s_sub {a i : E} : ev c (.sub a i) ρ M = (ev c a ρ M).bind fun x M1 => (ev c i ρ M1).bind fun y M2 => match x with
    | .ref n => match y with
      | .int j => match M2[n]? with
        | some ns => Res.of M2 ((atF ns j).map .int)
        | none => .stuck
      | _ => .stuck
    | _ => Res.of M2 (subF2 x y) := by rw [ev] <;> rfl
@[simp] theorem s_slcL {a lo : E} : ev c (.slcL a lo) ρ M = (ev c a ρ M).bind fun x M1 => (ev c lo ρ M1).bind fun y M2 => match y with
    | .int i => Res.of M2 (slcF x (some i) none)
    | _ => .stuck := by rw [ev] <;> rfl
@[simp] theorem s_slcU {a hi : E} : ev c (.slcU a hi) ρ M = (ev c a ρ M).bind fun x M1 => (ev c hi ρ M1).bind fun y M2 => match y with
    | .int i => Res.of M2 (slcF x none (some i))
    | _ => .stuck := by rw [ev] <;> rfl
@[simp] theorem s_slcB {a lo hi : E} : ev c (.slcB a lo hi) ρ M = (ev c a ρ M).bind fun x M1 => (ev c lo ρ M1).bind fun y M2 => match y with
    | .int i => (ev c hi ρ M2).bind fun z M3 => match z with
      | .int j => Res.of M3 (slcF x (some i) (some j))
      | _ => .stuck
    | _ => .stuck := by rw [ev] <;> rfl
@[simp] theorem s_rev {a : E} : ev c (.rev a) ρ M = (ev c a ρ M).bind fun x M1 => Res.of M1 (revF x) := by rw [ev] <;> rfl
@[simp] theorem s_half {a : E} : ev c (.half a) ρ M = (ev c a ρ M).bind fun x M1 => Res.of M1 (halfF x) := by rw [ev] <;> rfl
@[simp] theorem s_tup {es : Es} : ev c (.tup es) ρ M = (evs c es ρ M).bind fun xs M1 => .ok (.tup xs) M1 := by rw [ev] <;> rfl
@[simp] theorem s_lst {es : Es} : ev c (.lst es) ρ M = (evs c es ρ M).bind fun xs M1 => .ok (.lst xs) M1 := by rw [ev] <;> rfl
@[simp] theorem s_new {es : Es} : ev c (.new es) ρ M = (evs c es ρ M).bind fun xs M1 => match allI xs with
    | some ns => .ok (.ref M1.length) (M1 ++ [ns])
    | none => .stuck := by rw [ev] <;> rfl
@[simp] theorem s_rpr {a : E} : ev c (.rpr a) ρ M = (ev c a ρ M).bind fun x M1 => Res.of M1 ((c.rp x).map .str) := by rw [ev] <;> rfl
@[simp] theorem s_isi2 {a : E} {t u : Ty} : ev c (.isi2 a t u) ρ M = (ev c a ρ M).bind fun x M1 => Res.of M1 ((isi2F c.isa x t u).map .bl) := by rw [ev] <;> rfl
@[simp] theorem s_isx {a : E} {t : Nat} : ev c (.isx a t) ρ M = (ev c a ρ M).bind fun x M1 => Res.of M1 ((isxF c.isa x t).map .bl) := by rw [ev] <;> rfl
@[simp] theorem s_att {a : E} {n : Nat} : ev c (.att a n) ρ M = (ev c a ρ M).bind fun x M1 => Res.of M1 (attF c.fld x n) := by rw [ev] <;> rfl
@[simp] theorem s_lamc {g : Nat} {a : E} : ev c (.lamc g a) ρ M = (c.lam g (fun M' => ev c.low a ρ M') M).quiet := by rw [ev] <;> rfl
@[simp] theorem s_act {i : Nat} : ev c (.act i) ρ M = if getF ρ i then c.act M else .stuck := by rw [ev] <;> rfl
@[simp] theorem ss_nil : evs c .nil ρ M = .ok [] M := by rw [evs] <;> rfl
@[simp] theorem ss_cons {a : E} {r : Es} : evs c (.cons a r) ρ M = (ev c a ρ M).bind fun x M1 => (evs c r ρ M1).bind fun xs M2 => .ok (x :: xs) M2 := by rw [evs] <;> rfl
@[simp] theorem sc_nil : evc c .nil ρ M = .ok true M := by rw [evc] <;> rfl
@[simp] theorem sc_cons {a : E} {r : Es} : evc c (.cons a r) ρ M = truth (ev c a ρ M) fun x M1 => if x then evc c r ρ M1 else .ok false M1 := by rw [evc] <;> rfl
@[simp] theorem si_seq {e : E} : evi c (.seq e) ρ M = (ev c e ρ M).bind fun x M1 => Res.of M1 (itemsOf x) := by rw [evi] <;> rfl
@[simp] theorem si_rng {e : E} : evi c (.rng e) ρ M = (ev c e ρ M).bind fun x M1 => match x with
    | .int j => if -1000000 ≤ j ∧ j ≤ 1000000 then .ok (rngD 0 j.toNat) M1 else .stuck
    | _ => .stuck := by rw [evi] <;> rfl
@[simp] theorem si_rng2 {a b : E} : evi c (.rng2 a b) ρ M = (ev c a ρ M).bind fun x M1 => (ev c b ρ M1).bind fun y M2 => match x with
    | .int i => match y with
      | .int j => if -1000000 ≤ i ∧ i ≤ 1000000 ∧ -1000000 ≤ j ∧ j ≤ 1000000 then .ok (rngD i (j - i).toNat) M2 else .stuck
      | _ => .stuck
    | _ => .stuck := by rw [evi] <;> rfl
@[simp] theorem si_enum {e : E} : evi c (.enum e) ρ M = (ev c e ρ M).bind fun x M1 => match itemsOf x with
    | some xs => .ok (enumD 0 xs) M1
    | none => .stuck := by rw [evi] <;> rfl
@[simp] theorem si_zip {a b : E} : evi c (.zip a b) ρ M = (ev c a ρ M).bind fun x M1 => (ev c b ρ M1).bind fun y M2 => match itemsOf x with
    | some xs => match itemsOf y with
      | some ys => .ok (zipD xs ys) M2
      | none => .stuck
    | none => .stuck := by rw [evi] <;> rfl
@[simp] theorem x_set {i : Nat} {e : E} : ex c (.set i e) ρ M = (ev c e ρ M).then_ ρ fun d M1 => .next (setV ρ i d) M1 := by rw [ex] <;> rfl
@[simp] theorem x_asg {tg : Tg} {e : E} : ex c (.asg tg e) ρ M = (ev c e ρ M).then_ ρ fun d M1 => orStuck (bindT tg d ρ) M1 := by rw [ex] <;> rfl
@[simp] theorem x_par2 {i j : Nat} {a b : E} : ex c (.par2 i j a b) ρ M = (ev c a ρ M).then_ ρ fun x M1 => (ev c b ρ M1).then_ ρ fun y M2 => .next (setV (setV ρ i x) j y) M2 := by rw [ex] <;> rfl
@[simp] theorem x_par2o {i j : Nat} {fa fb : Bool} {a b : E} : ex c (.par2o i j fa fb a b) ρ M = (ev c a ρ M).then_ ρ fun x M1 => if okF fa x = true then (ev c b ρ M1).then_ ρ fun y M2 => orStuck ((putF fa ρ i x).bind fun ρ1 => putF fb ρ1 j y) M2 else .stuck := by rw [ex] <;> rfl
@[simp] theorem okF_f {d : D} : okF false d = true := by cases d <;> rfl
@[simp] theorem okF_l {f : Bool} {xs : List D} : okF f (.lst xs) = true := rfl
@[simp] theorem x_par3 {i j k : Nat} {a b d : E} : ex c (.par3 i j k a b d) ρ M = (ev c a ρ M).then_ ρ fun x M1 => (ev c b ρ M1).then_ ρ fun y M2 => (ev c d ρ M2).then_ ρ fun z M3 => .next (setV (setV (setV ρ i x) j y) k z) M3 := by rw [ex] <;> rfl
@[simp] theorem x_aug {i : Nat} {o : BO} {e : E} : ex c (.aug i o e) ρ M = match getV ρ i with
    | some x => (ev c e ρ M).then_ ρ fun y M1 => match augF o x y with
      | some d => .next (setV ρ i d) M1
      | none => .stuck
    | none => .stuck := by rw [ex] <;> rfl
@[simp] theorem x_own {i : Nat} {e : E} : ex c (.own i e) ρ M = (ev c e ρ M).then_ ρ fun d M1 => match d with
    | .lst xs => .next (setO ρ i xs) M1
    | _ => .stuck := by rw [ex] <;> rfl
@[simp] theorem x_frz {i : Nat} : ex c (.frz i) ρ M = match getO ρ i with
    | some xs => .next (setV ρ i (.lst xs)) M
    | none => .stuck := by rw [ex] <;> rfl
@[simp] theorem x_app {i : Nat} {e : E} : ex c (.app i e) ρ M = match getO ρ i with
    | some xs => (ev c e ρ M).then_ ρ fun d M1 => if xs.length < SZ then .next (setO ρ i (xs ++ [d])) M1 else .stuck
    | none => .stuck := by rw [ex] <;> rfl
@[simp] theorem x_ext {i : Nat} {e : E} : ex c (.ext i e) ρ M = match getO ρ i with
    | some xs => (ev c e ρ M).then_ ρ fun d M1 => match d with
      | .lst ys => if xs.length + ys.length ≤ SZ then .next (setO ρ i (xs ++ ys)) M1 else .stuck
      | _ => .stuck
    | none => .stuck := by rw [ex] <;> rfl
@[simp] theorem x_pop {i : Nat} : ex c (.pop i) ρ M = match getO ρ i with
    | some xs => match xs.getLast? with
      | some _ => .next (setO ρ i xs.dropLast) M
      | none => .stuck
    | none => .stuck := by rw [ex] <;> rfl
@[simp] theorem x_expr {e : E} : ex c (.expr e) ρ M = (ev c e ρ M).then_ ρ fun _ M1 => .next ρ M1 := by rw [ex] <;> rfl
@[simp] theorem x_ret {e : E} : ex c (.ret e) ρ M = (ev c e ρ M).then_ ρ fun d M1 => .ret d M1 := by rw [ex] <;> rfl
@[simp] theorem x_retN : ex c .retN ρ M = .ret .non M := by rw [ex] <;> rfl
@[simp] theorem x_ite {t : E} {a b : Cs} : ex c (.ite t a b) ρ M = (ev c t ρ M).then_ ρ fun d M1 => brn d (exs c a ρ M1) (exs c b ρ M1) := by rw [ex] <;> rfl
@[simp] theorem x_pass : ex c .pass ρ M = .next ρ M := by rw [ex] <;> rfl
@[simp] theorem x_brk : ex c .brk ρ M = .brk ρ M := by rw [ex] <;> rfl
@[simp] theorem x_cont : ex c .cont ρ M = .cont ρ M := by rw [ex] <;> rfl
@[simp] theorem x_put {i : Nat} {k e : E} : ex c (.put i k e) ρ M = (ev c e ρ M).then_ ρ fun d M1 => match getO ρ i with
    | some xs => (ev c k ρ M1).then_ ρ fun n M2 => match n with
      | .int n => match ixN xs.length n with
        | some m => .next (setO ρ i (xs.set m d)) M2
        | none => .stuck
      | _ => .stuck
    | none => .stuck := by rw [ex] <;> rfl
@[simp] theorem x_rput {r k e : E} : ex c (.rput r k e) ρ M = (ev c e ρ M).then_ ρ fun d M1 => (ev c r ρ M1).then_ ρ fun x M2 => (ev c k ρ M2).then_ ρ fun n M3 => match x with
    | .ref p => match M3[p]? with
      | some ns => match n with
        | .int n => match d with
          | .int z => match ixN ns.length n with
            | some m => .next ρ (M3.set p (ns.set m z))
            | none => .stuck
          | _ => .stuck
        | _ => .stuck
      | none => .stuck
    | _ => .stuck := by rw [ex] <;> rfl
@[simp] theorem x_raise {k : Nat} {es : Es} : ex c (.raise k es) ρ M = (evs c es ρ M).then_ ρ fun xs M1 => match xs with
    | [d] => .exc ρ k (if c.fld k = 0 then .non else d) M1
    | _ => .stuck := by rw [ex] <;> rfl
@[simp] theorem x_try {b : Cs} {ks : List Nat} {i j : Nat} : ex c (.try_ b ks i j) ρ M = ctch c.isa ks i j (exs c b ρ M) := by rw [ex] <;> rfl
@[simp] theorem xs_nil : exs c .nil ρ M = .next ρ M := by rw [exs] <;> rfl
@[simp] theorem xs_cons {a : C} {r : Cs} : exs c (.cons a r) ρ M = match ex c a ρ M with
    | .next ρ1 M1 => exs c r ρ1 M1
    | o => o := by rw [exs] <;> rfl
end
@[simp] theorem e_ret {d : D} {M : Store} : (Out.ret d M).end_ = .ok d M := rfl
@[simp] theorem e_next {ρ : Env} {M : Store} : (Out.next ρ M).end_ = .ok .non M := rfl
@[simp] theorem e_exc {ρ : Env} {c : Nat} {v : D} {M : Store} : (Out.exc ρ c v M).end_ = .exc c v M := rfl
@[simp] theorem t_ok {α : Type} {b : Bool} {M : Store} {f : Bool → Store → Res α} : truth (.ok (.bl b) M) f = f b M := rfl
@[simp] theorem cfg_call {P : Prg} {k : Nat} : (P.cfg k).call = callF P k := rfl
@[simp] theorem cfg_lam {P : Prg} {k : Nat} : (P.cfg k).lam = lamF P k := rfl
@[simp] theorem cfgA_call {P : Prg} {k : Nat} {F : Store → Res D} : (P.cfgA k F).call = callF P k := rfl
@[simp] theorem cfgA_act {P : Prg} {k : Nat} {F : Store → Res D} : (P.cfgA k F).act = F := rfl
@[simp] theorem cfgA_G {P : Prg} {k : Nat} {F : Store → Res D} : (P.cfgA k F).G = P.G := rfl
@[simp] theorem cfgA_rp {P : Prg} {k : Nat} {F : Store → Res D} : (P.cfgA k F).rp = P.rp := rfl
@[simp] theorem cfgA_isa {P : Prg} {k : Nat} {F : Store → Res D} : (P.cfgA k F).isa = P.isa := rfl
@[simp] theorem cfgA_fld {P : Prg} {k : Nat} {F : Store → Res D} : (P.cfgA k F).fld = P.fld := rfl
theorem low_call {P : Prg} {k : Nat} : (P.cfg (k + 2)).low.call = callF P k := rfl
@[simp] theorem low_G {P : Prg} {k : Nat} : (P.cfg k).low.G = P.G := rfl
@[simp] theorem gf_zero {ρ : Env} : getF (some Sl.f :: ρ) 0 = true := rfl
@[simp] theorem cfg_G {P : Prg} {k : Nat} : (P.cfg k).G = P.G := rfl
@[simp] theorem cfg_rp {P : Prg} {k : Nat} : (P.cfg k).rp = P.rp := rfl
@[simp] theorem cfg_lf {P : Prg} {k : Nat} : (P.cfg k).lf = P.lf := rfl
@[simp] theorem cfg_fld {P : Prg} {k : Nat} : (P.cfg k).fld = P.fld := rfl
@[simp] theorem cfg_isa {P : Prg} {k : Nat} : (P.cfg k).isa = P.isa := rfl
theorem call_of {P : Prg} {k f : Nat} {fn : Fn} {args : List D} {M : Store} (hT : P.T f = some fn) (hl : args.length = fn.np) (hk : 1 ≤ k) : callF P k f args M = (exs (P.cfg (k - 1)) fn.body (start fn args) M).end_ := by
  obtain ⟨j, rfl⟩ : ∃ j, k = j + 1 := ⟨k - 1, by omega⟩
  exact callF_succ hT hl
theorem lam_of {P : Prg} {k g : Nat} {fn : Fn} {F : Store → Res D} {M : Store} (hT : P.T g = some fn) (hl : fn.np = 1) (hk : 2 ≤ k) : lamF P k g F M = (exs (P.cfgA (k - 1) F) fn.body (startF fn) M).end_ := by
  obtain ⟨j, rfl⟩ : ∃ j, k = j + 2 := ⟨k - 2, by omega⟩
  exact lamF_succ hT hl
theorem low_call2 {P : Prg} {k : Nat} (hk : 2 ≤ k) : (P.cfg k).low.call = callF P (k - 2) := by
  obtain ⟨j, rfl⟩ : ∃ j, k = j + 2 := ⟨k - 2, by omega⟩
  rfl
@[simp] theorem cfgA_lf {P : Prg} {k : Nat} {F : Store → Res D} : (P.cfgA k F).lf = P.lf := rfl
/-! ### the program -/
def fnAt (i : Nat) : List (Nat × Fn) → Option Fn
  | [] => none
  | p :: r => if p.1 = i then some p.2 else fnAt i r
def glAt (i : Nat) : List (Nat × D) → Option D
  | [] => none
  | p :: r => if p.1 = i then some p.2 else glAt i r
/-! ### slots -/
@[simp] theorem put_v {ρ : Env} {i : Nat} {d : D} : putF false ρ i d = some (setV ρ i d) := rfl
@[simp] theorem put_o {ρ : Env} {i : Nat} {xs : List D} : putF true ρ i (.lst xs) = some (setO ρ i xs) := rfl
@[simp] theorem g_some {ρ : Env} {i : Nat} {d : D} : getV (some (.v d) :: ρ) 0 = some d := rfl
@[simp] theorem g_succ {ρ : Env} {x : Option Sl} {i : Nat} : getV (x :: ρ) (i + 1) = getV ρ i := by simp [getV]
@[simp] theorem go_some {ρ : Env} {i : Nat} {d : List D} : getO (some (.o d) :: ρ) 0 = some d := rfl
@[simp] theorem go_succ {ρ : Env} {x : Option Sl} {i : Nat} : getO (x :: ρ) (i + 1) = getO ρ i := by simp [getO]
@[simp] theorem p_zero {ρ : Env} {x : Option Sl} {d : D} : setV (x :: ρ) 0 d = some (.v d) :: ρ := rfl
@[simp] theorem p_succ {ρ : Env} {x : Option Sl} {i : Nat} {d : D} : setV (x :: ρ) (i + 1) d = x :: setV ρ i d := rfl
@[simp] theorem po_zero {ρ : Env} {x : Option Sl} {d : List D} : setO (x :: ρ) 0 d = some (.o d) :: ρ := rfl
@[simp] theorem po_succ {ρ : Env} {x : Option Sl} {i : Nat} {d : List D} : setO (x :: ρ) (i + 1) d = x :: setO ρ i d := rfl
@[simp] theorem b_n {i : Nat} {d : D} {ρ : Env} : bindT (.n i) d ρ = some (setV ρ i d) := by rw [bindT]
@[simp] theorem b_t {ts : Tgs} {xs : List D} {ρ : Env} : bindT (.t ts) (.tup xs) ρ = bindTs ts xs ρ := by rw [bindT]
@[simp] theorem b_tl {ts : Tgs} {xs : List D} {ρ : Env} : bindT (.t ts) (.lst xs) ρ = bindTs ts xs ρ := by rw [bindT]
@[simp] theorem b_nil {ρ : Env} : bindTs .nil [] ρ = some ρ := by rw [bindTs]
@[simp] theorem b_cons {a : Tg} {r : Tgs} {x : D} {xs : List D} {ρ : Env} : bindTs (.cons a r) (x :: xs) ρ = (bindT a x ρ).bind fun ρ1 => bindTs r xs ρ1 := by rw [bindTs]
@[simp] theorem o_some {ρ : Env} {M : Store} : orStuck (some ρ) M = .next ρ M := rfl
@[simp] theorem ts_n {i : Nat} : tgSlots (.n i) = [i] := by rw [tgSlots]
@[simp] theorem ts_t {t : Tgs} : tgSlots (.t t) = tgsSlots t := by rw [tgSlots]
@[simp] theorem ts_nil : tgsSlots .nil = [] := by rw [tgsSlots]
@[simp] theorem ts_cons {a : Tg} {r : Tgs} : tgsSlots (.cons a r) = tgSlots a ++ tgsSlots r := by rw [tgsSlots]
@[simp] theorem w_nil {ρ : Env} : wipeE ρ [] = ρ := rfl
@[simp] theorem w_cons {ρ : Env} {v : Nat} {vs : List Nat} : wipeE ρ (v :: vs) = (wipeE ρ vs).set v none := rfl
@[simp] theorem quiet_ok {α : Type} (a : α) (M : Store) : (Res.ok a M).quiet = .ok a M := rfl
/-! ### operations -/
@[simp] theorem bf_add {a b : D} : binF .add a b = addF a b := rfl
@[simp] theorem bf_sub {a b : D} : binF .sub a b = subF a b := rfl
@[simp] theorem bf_mul {a b : D} : binF .mul a b = mulF a b := rfl
@[simp] theorem bf_fdiv {a b : D} : binF .fdiv a b = fdivF a b := rfl
@[simp] theorem bf_mod {a b : D} : binF .mod a b = modF a b := rfl
@[simp] theorem bf_pow {a b : D} : binF .pow a b = powF a b := rfl
@[simp] theorem add_int {i j : Int} : addF (.int i) (.int j) = some (.int (i + j)) := rfl
@[simp] theorem add_str {s t : List Nat} (h : s.length + t.length ≤ 16777216) : addF (.str s) (.str t) = some (.str (s ++ t)) := if_pos h
@[simp] theorem add_lst {s t : List D} (h : s.length + t.length ≤ 16777216) : addF (.lst s) (.lst t) = some (.lst (s ++ t)) := if_pos h
@[simp] theorem add_tup {s t : List D} (h : s.length + t.length ≤ 16777216) : addF (.tup s) (.tup t) = some (.tup (s ++ t)) := if_pos h
@[simp] theorem sub_int {i j : Int} : subF (.int i) (.int j) = some (.int (i - j)) := rfl
theorem mul_l {i j : Int} (h : i.natAbs < 18446744073709551616) : mulF (.int i) (.int j) = some (.int (i * j)) := if_pos (.inl h)
theorem mul_r {i j : Int} (h : j.natAbs < 18446744073709551616) : mulF (.int i) (.int j) = some (.int (i * j)) := if_pos (.inr (.inl h))
theorem mul_w {i j : Int} (h : i.natAbs.log2 + j.natAbs.log2 < 1000000) : mulF (.int i) (.int j) = some (.int (i * j)) := if_pos (.inr (.inr h))
@[simp] theorem fdiv_int {i j : Int} (h : 0 < j) (h2 : j.natAbs < 18446744073709551616) : fdivF (.int i) (.int j) = some (.int (i / j)) := if_pos ⟨h, h2⟩
@[simp] theorem mod_int {i j : Int} (h : 0 < j) : modF (.int i) (.int j) = some (.int (i % j)) := if_pos h
@[simp] theorem len_str {s : List Nat} (h : s.length ≤ 16777216) : lenF (.str s) = some (.int s.length) := if_pos h
@[simp] theorem len_lst {s : List D} : lenF (.lst s) = some (.int s.length) := rfl
@[simp] theorem len_tup {s : List D} : lenF (.tup s) = some (.int s.length) := rfl
@[simp] theorem bi_len {d : D} : biF .len [d] = lenF d := rfl
@[simp] theorem bi_max2 {i j : Int} : biF .max2 [.int i, .int j] = some (.int (if j > i then j else i)) := rfl
@[simp] theorem bi_min2 {i j : Int} : biF .min2 [.int i, .int j] = some (.int (if j < i then j else i)) := rfl
@[simp] theorem bi_tuple_lst {xs : List D} : biF .tuple [.lst xs] = some (.tup xs) := rfl
@[simp] theorem bi_tuple_tup {xs : List D} : biF .tuple [.tup xs] = some (.tup xs) := rfl
@[simp] theorem bi_tuple_str {s : List Nat} (h : s.length ≤ 16777216) : biF .tuple [.str s] = some (.tup (s.map fun c => .str [c])) := if_pos h
@[simp] theorem bi_list_str {s : List Nat} (h : s.length ≤ 16777216) : biF .list [.str s] = some (.lst (s.map fun c => .str [c])) := if_pos h
@[simp] theorem bi_list_lst {xs : List D} : biF .list [.lst xs] = some (.lst xs) := rfl
@[simp] theorem bi_list_tup {xs : List D} : biF .list [.tup xs] = some (.lst xs) := rfl
@[simp] theorem bi_sorted {d : D} {xs : List D} (h : itemsOf d = some xs) (h2 : sortOk xs = true) (h3 : xs.length ≤ 16777216) : biF .sorted [d] = some (.lst (sortK xs)) := by
  simp only [biF, h]
  exact if_pos ⟨h2, h3⟩
@[simp] theorem it_str {s : List Nat} : itemsOf (.str s) = some (s.map fun c => .str [c]) := rfl
@[simp] theorem it_lst {s : List D} : itemsOf (.lst s) = some s := rfl
@[simp] theorem it_tup {s : List D} : itemsOf (.tup s) = some s := rfl
@[simp] theorem su_str {s : List Nat} {i : Int} (h : s.length ≤ 16777216) : subF2 (.str s) (.int i) = (atF s i).map fun c => .str [c] := if_pos h
@[simp] theorem su_lst {s : List D} {i : Int} : subF2 (.lst s) (.int i) = atF s i := rfl
@[simp] theorem su_tup {s : List D} {i : Int} : subF2 (.tup s) (.int i) = atF s i := rfl
@[simp] theorem sl_str {s : List Nat} {a b : Option Int} (h : s.length ≤ 16777216) : slcF (.str s) a b = some (.str (slcL s a b)) := if_pos h
@[simp] theorem sl_lst {s : List D} {a b : Option Int} : slcF (.lst s) a b = some (.lst (slcL s a b)) := rfl
@[simp] theorem sl_tup {s : List D} {a b : Option Int} : slcF (.tup s) a b = some (.tup (slcL s a b)) := rfl
@[simp] theorem re_str {s : List Nat} (h : s.length ≤ 16777216) : revF (.str s) = some (.str s.reverse) := if_pos h
@[simp] theorem re_tup {s : List D} : revF (.tup s) = some (.tup s.reverse) := rfl
@[simp] theorem re_lst {s : List D} : revF (.lst s) = some (.lst s.reverse) := rfl
/-! ### comparisons -/
@[simp] theorem c_eq {a b : D} : cmpF .eq a b = eqF a b := rfl
@[simp] theorem c_ne {a b : D} : cmpF .ne a b = (eqF a b).map (!·) := rfl
@[simp] theorem c_lt {i j : Int} : cmpF .lt (.int i) (.int j) = some (decide (i < j)) := rfl
@[simp] theorem c_gt {i j : Int} : cmpF .gt (.int i) (.int j) = some (decide (j < i)) := rfl
@[simp] theorem c_gts {x y : List Nat} : cmpF .gt (.str x) (.str y) = ltF (.str y) (.str x) := rfl
@[simp] theorem c_les {x y : List Nat} : cmpF .le (.str x) (.str y) = (ltF (.str y) (.str x)).map (!·) := rfl
@[simp] theorem c_ges {x y : List Nat} : cmpF .ge (.str x) (.str y) = (ltF (.str x) (.str y)).map (!·) := rfl
@[simp] theorem c_le {i j : Int} : cmpF .le (.int i) (.int j) = some (decide (i ≤ j)) := rfl
@[simp] theorem c_ge {i j : Int} : cmpF .ge (.int i) (.int j) = some (decide (j ≤ i)) := rfl
@[simp] theorem c_is {a : D} : cmpF .is_ a .non = some (isNon a) := rfl
@[simp] theorem c_isnot {a : D} : cmpF .isnot a .non = some (!isNon a) := rfl
@[simp] theorem c_in {a b : D} : cmpF .in_ a b = inF a b := rfl
@[simp] theorem c_notin {a b : D} : cmpF .notin a b = (inF a b).map (!·) := rfl
@[simp] theorem q_str {x y : List Nat} : eqF (.str x) (.str y) = some (x == y) := rfl
@[simp] theorem q_int {x y : Int} : eqF (.int x) (.int y) = some (x == y) := by simp [eqF, isPlain, plain, eqD]
@[simp] theorem q_bl {x y : Bool} : eqF (.bl x) (.bl y) = some (x == y) := by simp [eqF, isPlain, plain, eqD]
@[simp] theorem q_tup {x y : List D} (hx : plainAll 39 x = true) (hy : plainAll 39 y = true) : eqF (.tup x) (.tup y) = some (eqAll x y) := by simp [eqF, isPlain, plain, eqD, hx, hy]
@[simp] theorem q_lst {x y : List D} (hx : plainAll 39 x = true) (hy : plainAll 39 y = true) : eqF (.lst x) (.lst y) = some (eqAll x y) := by simp [eqF, isPlain, plain, eqD, hx, hy]
@[simp] theorem in_str {c : Nat} {t : List Nat} : inF (.str [c]) (.str t) = some (decide (c ∈ t)) := rfl
/-! ### data -/
@[simp] theorem pl_nil {n : Nat} : plainAll n [] = true := by rw [plainAll]
@[simp] theorem pl_cons {n : Nat} {x : D} {xs : List D} : plainAll n (x :: xs) = (plain n x && plainAll n xs) := by rw [plainAll]
@[simp] theorem pl_int {n : Nat} {i : Int} : plain n (.int i) = true := by rw [plain]
@[simp] theorem pl_bl {n : Nat} {i : Bool} : plain n (.bl i) = true := by rw [plain]
@[simp] theorem pl_non {n : Nat} : plain n .non = true := by rw [plain]
@[simp] theorem pl_tup {n : Nat} {xs : List D} : plain (n + 1) (.tup xs) = plainAll n xs := by rw [plain]
@[simp] theorem pl_lst {n : Nat} {xs : List D} : plain (n + 1) (.lst xs) = plainAll n xs := by rw [plain]
theorem pl_str {n : Nat} {s : List Nat} (h : ∀ c ∈ s, c < 1114112) : plain n (.str s) = true := by
  rw [plain]
  exact List.all_eq_true.mpr fun c hc => decide_eq_true (h c hc)
theorem pl_all {n : Nat} : ∀ {xs : List D}, (∀ x ∈ xs, plain n x = true) → plainAll n xs = true
  | [], _ => pl_nil
  | x :: xs, h => by rw [pl_cons, h x List.mem_cons_self, pl_all fun y hy => h y (List.mem_cons_of_mem _ hy)]; rfl
theorem pl_map {α : Type} {n : Nat} {xs : List α} {f : α → D} (h : ∀ x ∈ xs, plain n (f x) = true) : plainAll n (xs.map f) = true := pl_all fun d hd => by
  obtain ⟨x, hx, rfl⟩ := List.mem_map.mp hd
  exact h x hx
@[simp] theorem ed_str {x y : List Nat} : eqD (.str x) (.str y) = (x == y) := by rw [eqD]
@[simp] theorem ed_int {x y : Int} : eqD (.int x) (.int y) = (x == y) := by rw [eqD]
@[simp] theorem ed_bl {x y : Bool} : eqD (.bl x) (.bl y) = (x == y) := by rw [eqD]
@[simp] theorem ed_lst {x y : List D} : eqD (.lst x) (.lst y) = eqAll x y := by rw [eqD]
@[simp] theorem ed_tup {x y : List D} : eqD (.tup x) (.tup y) = eqAll x y := by rw [eqD]
@[simp] theorem ea_nil : eqAll [] [] = true := by rw [eqAll]
@[simp] theorem ea_cons {x y : D} {xs ys : List D} : eqAll (x :: xs) (y :: ys) = (eqD x y && eqAll xs ys) := by rw [eqAll]
@[simp] theorem ea_nc {y : D} {ys : List D} : eqAll [] (y :: ys) = false := by rw [eqAll] <;> simp
@[simp] theorem ea_cn {y : D} {ys : List D} : eqAll (y :: ys) [] = false := by rw [eqAll] <;> simp
mutual
theorem eqD_refl : ∀ (n : Nat) (d : D), plain n d = true → eqD d d = true
  | _, .non, _ => by rw [eqD]
  | _, .bl _, _ => by simp
  | _, .int _, _ => by simp
  | _, .str _, _ => by simp
  | 0, .lst _, h => by simp [plain] at h
  | n + 1, .lst xs, h => by rw [ed_lst]; exact eqAll_refl n xs (by simpa using h)
  | 0, .tup _, h => by simp [plain] at h
  | n + 1, .tup xs, h => by rw [ed_tup]; exact eqAll_refl n xs (by simpa using h)
  | _, .ref _, h => by simp [plain] at h
  | _, .exc _ _, h => by simp [plain] at h
  | _, .clo _ _, h => by simp [plain] at h
theorem eqAll_refl : ∀ (n : Nat) (d : List D), plainAll n d = true → eqAll d d = true
  | _, [], _ => by simp
  | n, d :: ds, h => by
    rw [pl_cons, Bool.and_eq_true] at h
    rw [ea_cons, eqD_refl n d h.1, eqAll_refl n ds h.2]; rfl
end
theorem eqF_self {d : D} (h : isPlain d = true) : eqF d d = some true := by
  unfold eqF
  split
  · simp
  · rw [h, eqD_refl 40 d h]; rfl
/-! ### loops -/
/-- a loop's turn -/
def forBody (c : Cfg) (tg : Tg) (b : Cs) (d : D) (ρ : Env) (M : Store) : Out := match bindT tg d ρ with
  | some ρ' => exs c b ρ' M
  | none => .stuck
theorem ex_for {c : Cfg} {tg : Tg} {it : It} {b : Cs} {ρ : Env} {M : Store} : ex c (.for_ tg it b) ρ M = (evi c it ρ M).then_ ρ fun ds M1 => forLoop (forBody c tg b) ds ρ M1 := by rw [ex]; rfl
theorem ex_while {c : Cfg} {t : E} {b : Cs} {ρ : Env} {M : Store} : ex c (.while_ t b) ρ M = whileLoop (fun ρ M => ev c t ρ M) (fun ρ M => exs c b ρ M) c.lf ρ M := by rw [ex] <;> rfl
theorem for_inv {body : D → Env → Store → Out} {ds : List D} (I : Nat → Env → Store → Prop) (h : ∀ i d, ds[i]? = some d → ∀ ρ M, I i ρ M → ∃ ρ' M', body d ρ M = .next ρ' M' ∧ I (i + 1) ρ' M') {ρ : Env} {M : Store} (h0 : I 0 ρ M) :
    ∃ ρ' M', forLoop body ds ρ M = .next ρ' M' ∧ I ds.length ρ' M' := by
  induction ds generalizing I ρ M with
  | nil => exact ⟨ρ, M, rfl, h0⟩
  | cons d ds ih =>
    obtain ⟨ρ1, M1, e, h1⟩ := h 0 d rfl ρ M h0
    obtain ⟨ρ2, M2, e2, h2⟩ := ih (fun i => I (i + 1)) (fun i d hd ρ M hI => h (i + 1) d (by simpa using hd) ρ M hI) h1
    refine ⟨ρ2, M2, ?_, h2⟩
    rw [forLoop, e]; exact e2
/-- a loop that folds: E b j is the frame, b what is gathered, j what is left over -/
theorem for_fold {α β γ : Type} {c : Cfg} {tg : Tg} {body : Cs} {M : Store} {f : α → D} {E : β → γ → Env} {step : β → α → β} : ∀ (xs : List α) (I : Nat → β → Prop)
    (_ : ∀ (i : Nat) (x : α) (b : β) (s : γ), xs[i]? = some x → I i b → (∃ s', forBody c tg body (f x) (E b s) M = .next (E (step b x) s') M) ∧ I (i + 1) (step b x))
    (b : β) (s : γ) (_ : I 0 b), (∃ s', forLoop (forBody c tg body) (xs.map f) (E b s) M = .next (E (xs.foldl step b) s') M) ∧ I xs.length (xs.foldl step b)
  | [], I, _, b, s, h0 => ⟨⟨s, rfl⟩, h0⟩
  | x :: xs, I, h, b, s, h0 => by
    obtain ⟨⟨s1, e⟩, h1⟩ := h 0 x b s rfl h0
    obtain ⟨⟨s2, e2⟩, h2⟩ := for_fold (f := f) xs (fun i => I (i + 1)) (fun i y b s hy hI => h (i + 1) y b s (by simpa using hy) hI) (step b x) s1 h1
    refine ⟨⟨s2, ?_⟩, h2⟩
    rw [List.map_cons, forLoop, e]; exact e2
/-- a comprehension's turn -/
def lcStep (c : Cfg) (tg : Tg) (cs : Es) (elt : E) (ρ : Env) (d : D) (M2 : Store) : Res (Option D) := match bindT tg d (wipeE ρ (tgSlots tg)) with
  | none => .stuck
  | some ρ' => (evc c cs ρ' M2).bind fun b M3 => if b then (ev c elt ρ' M3).bind fun y M4 => .ok (some y) M4 else .ok none M3
theorem ev_lc_eq {c : Cfg} {tg : Tg} {it : It} {cs : Es} {elt : E} {ρ : Env} {M : Store} : ev c (.lc tg it cs elt) ρ M = (evi c it ρ M).bind fun ds M1 => if ds.length ≤ SZ then (lcLoop (lcStep c tg cs elt ρ) ds M1).quiet.bind fun ys M2 => .ok (.lst ys) M2 else .stuck := by rw [ev] <;> rfl
theorem lcStep_ok {c : Cfg} {tg : Tg} {elt : E} {ρ ρ' : Env} {d y : D} {M M' : Store} (h1 : bindT tg d (wipeE ρ (tgSlots tg)) = some ρ') (h2 : ev c elt ρ' M = .ok y M') : lcStep c tg .nil elt ρ d M = .ok (some y) M' := by
  simp only [lcStep, h1, sc_nil, Res.bind_ok, if_true, h2]
/-- a comprehension whose steps change nothing -/
theorem lc_over {α : Type} {step : D → Store → Res (Option D)} {M : Store} {f : α → D} {g : α → Option D} : ∀ {xs : List α}, (∀ x ∈ xs, step (f x) M = .ok (g x) M) → lcLoop step (xs.map f) M = .ok (xs.filterMap g) M
  | [], _ => rfl
  | x :: xs, h => by
    rw [List.map_cons, lcLoop, h x List.mem_cons_self]
    simp only [Res.bind_ok]
    rw [lc_over fun y hy => h y (List.mem_cons_of_mem _ hy)]
    simp only [Res.bind_ok, List.filterMap_cons]
    cases g x <;> rfl
/-- [elt for tg in it] -/
theorem ev_lc {α : Type} {c : Cfg} {tg : Tg} {it : It} {elt : E} {ρ : Env} {M : Store} {xs : List α} (f g : α → D) (hi : evi c it ρ M = .ok (xs.map f) M) (hl : xs.length ≤ 16777216)
    (h : ∀ x ∈ xs, ∃ ρ', bindT tg (f x) (wipeE ρ (tgSlots tg)) = some ρ' ∧ ev c elt ρ' M = .ok (g x) M) : ev c (.lc tg it .nil elt) ρ M = .ok (.lst (xs.map g)) M := by
  rw [ev, hi]
  simp only [Res.bind_ok, List.length_map, show xs.length ≤ SZ from hl, if_true]
  rw [lc_over (g := fun x => some (g x))]
  · simp
  · intro x hx
    obtain ⟨ρ', e1, e2⟩ := h x hx
    rw [e1]
    simp only [sc_nil, Res.bind_ok, if_true, e2]
theorem filterMap_if {α β : Type} (p : α → Bool) (g : α → β) : ∀ xs : List α, xs.filterMap (fun x => if p x then some (g x) else none) = (xs.filter p).map g
  | [] => rfl
  | x :: xs => by
    rw [List.filterMap_cons, List.filter_cons]
    cases z : p x <;> simp [filterMap_if p g xs]
/-- [elt for tg in it if t] -/
theorem ev_lcif {α : Type} {c : Cfg} {tg : Tg} {it : It} {t elt : E} {ρ : Env} {M : Store} {xs : List α} (f g : α → D) (p : α → Bool) (hi : evi c it ρ M = .ok (xs.map f) M) (hl : xs.length ≤ 16777216)
    (h : ∀ x ∈ xs, ∃ ρ', bindT tg (f x) (wipeE ρ (tgSlots tg)) = some ρ' ∧ ev c t ρ' M = .ok (.bl (p x)) M ∧ (p x = true → ev c elt ρ' M = .ok (g x) M)) : ev c (.lc tg it (.cons t .nil) elt) ρ M = .ok (.lst ((xs.filter p).map g)) M := by
  rw [ev, hi]
  simp only [Res.bind_ok, List.length_map, show xs.length ≤ SZ from hl, if_true]
  rw [lc_over (g := fun x => if p x then some (g x) else none)]
  · simp only [quiet_ok, Res.bind_ok]
    rw [filterMap_if]
  · intro x hx
    obtain ⟨ρ', e1, e2, e3⟩ := h x hx
    rw [e1]
    cases z : p x
    · simp [e2, z]
    · simp [e2, z, e3 z]
theorem allB_map (bs : List Bool) : allB (bs.map D.bl) = some bs := by
  induction bs with
  | nil => rfl
  | cons b bs ih => simp [allB, ih]
theorem all_bl {α : Type} (p : α → Bool) (xs : List α) : biF .all [.lst (xs.map fun x => .bl (p x))] = some (.bl (xs.all p)) := by
  have : (xs.map fun x => D.bl (p x)) = (xs.map p).map D.bl := by rw [List.map_map]; rfl
  show (allB (xs.map fun x => D.bl (p x))).map _ = _
  rw [this, allB_map]
  simp [List.all_map, Function.comp_def]
theorem any_bl {α : Type} (p : α → Bool) (xs : List α) : biF .any [.lst (xs.map fun x => .bl (p x))] = some (.bl (xs.any p)) := by
  have : (xs.map fun x => D.bl (p x)) = (xs.map p).map D.bl := by rw [List.map_map]; rfl
  show (allB (xs.map fun x => D.bl (p x))).map _ = _
  rw [this, allB_map]
  simp [List.any_map, Function.comp_def]
theorem allI_map (bs : List Int) : allI (bs.map D.int) = some bs := by
  induction bs with
  | nil => rfl
  | cons b bs ih => simp [allI, ih]
/-- a loop that counts -/
theorem while_up {c : Cfg} {t : E} {b : Cs} {M : Store} (I : Nat → Env) : ∀ (s n : Nat), s < n → (∀ i, i < s → ev c t (I i) M = .ok (.bl true) M ∧ exs c b (I i) M = .next (I (i + 1)) M) → ev c t (I s) M = .ok (.bl false) M →
    whileLoop (fun ρ M => ev c t ρ M) (fun ρ M => exs c b ρ M) n (I 0) M = .next (I s) M
  | 0, n + 1, _, _, h => by rw [whileLoop, h]; rfl
  | s + 1, n + 1, hn, hs, h => by
    obtain ⟨h1, h2⟩ := hs 0 (by omega)
    rw [whileLoop, h1]
    show (match exs c b (I 0) M with
      | .next ρ1 M2 => whileLoop (fun ρ M => ev c t ρ M) (fun ρ M => exs c b ρ M) n ρ1 M2
      | .cont ρ1 M2 => whileLoop (fun ρ M => ev c t ρ M) (fun ρ M => exs c b ρ M) n ρ1 M2
      | .brk ρ1 M2 => .next ρ1 M2
      | o => o) = _
    rw [h2]
    exact while_up (fun i => I (i + 1)) s n (by omega) (fun i hi => hs (i + 1) (by omega)) h
/-! ### places, ranges -/
theorem atF_nat {α : Type} {xs : List α} {i : Nat} : atF xs (i : Int) = xs[i]? := by
  unfold atF ixN
  by_cases h : i < xs.length
  · rw [if_pos (by omega), if_pos (by omega)]; simp
  · rw [if_pos (by omega), if_neg (by omega)]
    simp [h]
theorem atF_at {α : Type} {xs : List α} {i : Int} (h0 : 0 ≤ i) (h1 : i < xs.length) : ∃ x, atF xs i = some x ∧ xs[i.toNat]? = some x := by
  have h2 : i.toNat < xs.length := by omega
  exact ⟨xs[i.toNat], by simp [atF, ixN, h0, h1, h2], by simp [h2]⟩
theorem at_last {α : Type} {w : List α} {x : α} (h : w.getLast? = some x) : atF w (-1) = some x := by
  have hne : w ≠ [] := fun e => by rw [e] at h; cases h
  have hl : 0 < w.length := List.length_pos_iff.mpr hne
  rw [List.getLast?_eq_getElem?] at h
  have e1 : ((-1 : Int) + (w.length : Int)).toNat = w.length - 1 := by omega
  simp only [atF, ixN]
  rw [if_neg (by omega), if_pos (by omega), e1]
  exact h
theorem rngD_map (lo : Int) : ∀ n : Nat, rngD lo n = (List.range n).map fun i => .int (lo + (i : Int)) := by
  intro n
  induction n generalizing lo with
  | zero => rfl
  | succ n ih =>
    rw [rngD, ih, List.range_succ_eq_map, List.map_cons, List.map_map]
    simp only [List.cons.injEq]
    refine ⟨by simp, ?_⟩
    apply List.map_congr_left
    intro i _
    simp only [Function.comp, D.int.injEq]
    omega
theorem rng0_map (n : Nat) : rngD 0 n = (List.range n).map fun i => .int (i : Int) := by
  rw [rngD_map]
  apply List.map_congr_left
  intro i _
  simp
theorem rng_get {n i : Nat} {d : D} (h : (rngD 0 n)[i]? = some d) : i < n ∧ d = .int i := by
  rw [rng0_map, List.getElem?_map] at h
  by_cases hi : i < n
  · rw [List.getElem?_range hi] at h
    cases h
    exact ⟨hi, rfl⟩
  · rw [List.getElem?_eq_none (by simpa using hi)] at h
    cases h
theorem rng_len (n : Nat) : (rngD 0 n).length = n := by rw [rng0_map, List.length_map, List.length_range]
theorem clip_nat {n i : Nat} : clip n (i : Int) = min i n := by
  unfold clip
  rw [if_neg (by omega)]
  omega
theorem slc_from {α : Type} {s : List α} {i : Nat} : slcL s (some (i : Int)) none = s.drop i := by
  simp only [slcL, cutL, clipO, clip_nat]
  by_cases h : i ≤ s.length
  · rw [show min i s.length = i by omega, List.take_of_length_le (by simp)]
  · rw [show min i s.length = s.length by omega]
    simp [List.drop_of_length_le (show s.length ≤ i by omega)]
theorem slc_to {α : Type} {s : List α} {i : Nat} : slcL s none (some (i : Int)) = s.take i := by
  simp only [slcL, cutL, clipO, clip_nat, List.drop_zero, Nat.sub_zero]
  by_cases h : i ≤ s.length
  · rw [show min i s.length = i by omega]
  · rw [show min i s.length = s.length by omega, List.take_of_length_le (Nat.le_refl _), List.take_of_length_le (by omega)]
theorem slc_both {α : Type} {s : List α} {i j : Nat} : slcL s (some (i : Int)) (some (j : Int)) = (s.take j).drop i := by
  simp only [slcL, cutL, clipO, clip_nat]
  by_cases h : i ≤ s.length
  · rw [show min i s.length = i by omega, ← List.drop_take]
    by_cases h2 : j ≤ s.length
    · rw [show min j s.length = j by omega]
    · rw [show min j s.length = s.length by omega, List.take_of_length_le (Nat.le_refl _), List.take_of_length_le (by omega)]
  · rw [show min i s.length = s.length by omega]
    rw [List.drop_of_length_le (Nat.le_refl _), List.drop_of_length_le (by simp; omega)]
    simp
end RCs

set_option Elab.async false
set_option linter.all false
set_option autoImplicit false
set_option maxRecDepth 100000
set_option maxHeartbeats 2000000
/-! From a law's text and its core to the law. -/
namespace RC
open PySem PySem.Spec PyProof.Rows L2
mutual
theorem datB_ok {K : PySem.W.Frag} : ∀ (d : D) (u : Value), datB K d u = true → ∃ v, RelV v u ∧ ∀ H O θ, Rep K H O θ d v
  | .non, u, h => by
    cases u <;> first | cases h | skip
    exact ⟨.non, rfl, fun _ _ _ => rfl⟩
  | .bl b, u, h => by
    cases u <;> first | cases h | skip
    have e := eq_of_beq (show (b == _) = true from h)
    subst e
    exact ⟨.bl b, rfl, fun _ _ _ => rfl⟩
  | .int i, u, h => by
    cases u <;> first | cases h | skip
    rename_i j t
    have e : i = j := of_decide_eq_true h
    subst e
    exact ⟨.int i, ⟨t, rfl⟩, fun _ _ _ => rfl⟩
  | .str s, u, h => by
    cases u <;> first | cases h | skip
    rename_i x t
    have e : x = ⟨s.toArray⟩ := of_decide_eq_true h
    subst e
    exact ⟨sV s, ⟨t, rfl⟩, fun _ _ _ => rfl⟩
  | .tup ds, u, h => by
    have lxi : LX := lx0
    cases u <;> first | cases h | skip
    rename_i a
    have h' : (match K.lookup a with
      | some o => decide (o.cls = .type "tuple") && (match o.data with
        | .seq its _ => decide (its.size ≤ sizeLine) && datAll K ds its.toList
        | _ => false)
      | none => false) = true := h
    cases z : K.lookup a with
    | none => rw [z] at h'; cases h'
    | some o =>
      rw [z] at h'
      obtain ⟨h1, h2⟩ := and2 (show (decide (o.cls = .type "tuple") && (match o.data with
        | .seq its _ => decide (its.size ≤ sizeLine) && datAll K ds its.toList
        | _ => false)) = true from h')
      split at h2
      · rename_i its n hd
        obtain ⟨h3, h4⟩ := and2 h2
        obtain ⟨vs, rv, rp⟩ := datAll_ok ds its.toList h4
        exact ⟨.ref a, rfl, fun H O θ => ⟨a, vs, rfl, .inr ⟨o, its, n, z, of_decide_eq_true h1, hd, of_decide_eq_true h3, rv⟩, rp H O θ⟩⟩
      · cases h2
  | .lst _, u, h => by cases h
  | .ref _, u, h => by cases h
  | .exc _ _, u, h => by cases h
  | .clo _ _, u, h => by cases h
theorem datAll_ok {K : PySem.W.Frag} : ∀ (ds : List D) (us : List Value), datAll K ds us = true → ∃ vs, Vals vs us ∧ ∀ H O θ, Reps K H O θ ds vs
  | [], us, h => by
    cases us with
    | nil => exact ⟨[], .nil, fun _ _ _ => rfl⟩
    | cons _ _ => cases h
  | d :: ds, us, h => by
    cases us with
    | nil => cases h
    | cons u us =>
      have lxi : LX := lx0
      obtain ⟨h1, h2⟩ := and2 (show (datB K d u && datAll K ds us) = true from h)
      obtain ⟨v, r, p⟩ := datB_ok d u h1
      obtain ⟨vs, rs, ps⟩ := datAll_ok ds us h2
      exact ⟨v :: vs, .cons r rs, fun H O θ => ⟨v, vs, rfl, p H O θ, ps H O θ⟩⟩
end
theorem noList_ok {K : PySem.W.Frag} (h : noList K = true) {a : Addr} {o : Obj} (e : K.lookup a = some o) : o.cls ≠ .type "list" := fun z => by
  have := List.all_eq_true.mp h _ (He.lookup_mem e)
  simp [z] at this
def rowAt (i : Nat) : List Row → Option Row
  | [] => none
  | r :: rs => if r.i = i then some r else rowAt i rs
def gvAt (i : Nat) : List Gv → Option Gv
  | [] => none
  | r :: rs => if r.i = i then some r else gvAt i rs
theorem rowAt_mem {i : Nat} {r : Row} : ∀ {rs : List Row}, rowAt i rs = some r → r ∈ rs
  | [], h => by cases h
  | q :: rs, h => by
    rw [rowAt] at h
    split at h
    · cases h; exact List.mem_cons_self
    · exact List.mem_cons_of_mem _ (rowAt_mem h)
theorem gvAt_mem {i : Nat} {r : Gv} : ∀ {rs : List Gv}, gvAt i rs = some r → r ∈ rs
  | [], h => by cases h
  | q :: rs, h => by
    rw [gvAt] at h
    split at h
    · cases h; exact List.mem_cons_self
    · exact List.mem_cons_of_mem _ (gvAt_mem h)
def Tb.P (t : Tb) : Prg := ⟨fun i => (rowAt i t.rows).map (·.f), fun i => (gvAt i t.gvs).map (·.d), isaC, fldC, rpD, 100000⟩
def keyRow (r : Row) : Option Str := if r.e.kd = 3 then some r.x else none
def Tb.J (t : Tb) : Inf := ⟨t.P, fun i => (rowAt i t.rows).map (·.x), fun i => (gvAt i t.gvs).map (·.x), t.cls.map (·.c), fun _ => .stuck, false, false, false, fun i => (rowAt i t.rows).bind keyRow⟩
def Tb.cps (t : Tb) (K : PySem.W.Frag) : List (Addr × Addr) := t.mks.map fun r => He.cT K (dfn r)
def scB (N P : List Str) (sc : Scope) : Bool :=
  decide (sc.kind = .function) && !sc.isCoroutine && !sc.isGenerator && decide N.Nodup && decide (N.take P.length = P) && P.all (fun x => decide (sc.names.lookup x = some .local) || decide (sc.names.lookup x = some .cell)) && sc.names.all (fun y => !decide (y.2 = .free))
theorem scB_ok {N P : List Str} {sc : Scope} (h : scB N P sc = true) : FnScope N P sc := by
  unfold scB at h
  simp only [Bool.and_eq_true] at h
  obtain ⟨⟨⟨⟨⟨⟨h1, h2⟩, h3⟩, h4⟩, h5⟩, h6⟩, h7⟩ := h
  refine ⟨of_decide_eq_true h1, by simpa using h2, by simpa using h3, of_decide_eq_true h4, of_decide_eq_true h5, fun x hx => ?_, fun y hy => ?_⟩
  · have := List.all_eq_true.mp h6 x hx
    rcases Bool.or_eq_true_iff.mp this with z | z
    · exact .inl (of_decide_eq_true z)
    · exact .inr (of_decide_eq_true z)
  · have := List.all_eq_true.mp h7 y hy
    simpa using this
def entB (t : Tb) (e : Ent) (fn : Fn) : Bool := scB e.N e.ps e.sc && chkCs ((t.J.at_ e.kd fun _ => .stuck).sg e.N) e.sc fn.body e.body && decide (fn.np = e.ps.length) && (decide (fn.ns = e.N.length) && e.ps.all plainName)
theorem entB_ok {t : Tb} {e : Ent} {fn : Fn} (h : entB t e fn = true) : EntOk t.J e fn := by
  have lxi : LX := lx0
  obtain ⟨h1, h2, h3, h4⟩ := and4 h
  obtain ⟨h4, h5⟩ := and2 h4
  exact ⟨scB_ok h1, h2, of_decide_eq_true h3, of_decide_eq_true h4, fun y hy => List.all_eq_true.mp h5 y hy⟩
/-- a def is checked -/
def RowOk (t : Tb) (r : Row) : Prop := entB t r.e r.f = true ∧ ∀ (K : PySem.W.Frag) (fa : Addr) (fd : FuncData), FunD K r.e.x r.e.x r.e.pa r.e.body r.e.sc [] [] fa fd → Binds K fd r.e.ps []
/-- every def is -/
def AllE (t : Tb) : List Row → Prop
  | r :: rs => RowOk t r ∧ AllE t rs
  | [] => True
theorem AllE.get {t : Tb} {r : Row} : ∀ {rs : List Row}, AllE t rs → r ∈ rs → RowOk t r
  | q :: rs, h, m => by
    rcases List.mem_cons.mp m with e | m
    · rw [e]; exact h.1
    · exact AllE.get h.2 m
/-- the __init__ keeps its argument -/
def iniB (c : Nat) (e : Ent) : Bool := scB e.N e.ps e.sc && (match e.body with
  | [.Assign [.Attribute (.Name s _) f _] (.Name v _) _] => decide (f = fname (fldC c)) && decide (e.N = [s, v]) && decide (e.ps = [s, v]) && plainName s && plainName v
  | _ => false)
def CRowOk (r : CRow) : Prop := r.c < 17 ∧ (fldC r.c = 0 ∨ ∃ e, r.e = some e ∧ iniB r.c e = true ∧ ∀ (K : PySem.W.Frag) (fa : Addr) (fd : FuncData), FunD K "__init__" e.x e.pa e.body e.sc [] [] fa fd → Binds K fd e.ps [])
def AllC : List CRow → Prop
  | r :: rs => CRowOk r ∧ AllC rs
  | [] => True
theorem AllC.get {r : CRow} : ∀ {rs : List CRow}, AllC rs → r ∈ rs → CRowOk r
  | q :: rs, h, m => by
    rcases List.mem_cons.mp m with e | m
    · rw [e]; exact h.1
    · exact AllC.get h.2 m
theorem clV_ns {K : PySem.W.Frag} {c : Nat} {C : Addr} (h : c < 17) (e : clV K c = .ref C) : PySem.W.nsIn K mainGlobals (cname c) = some (some (.ref C)) := by
  unfold clV at e
  rw [if_neg (by omega), if_neg (by omega), if_neg (by omega)] at e
  split at e
  · rename_i u hu
    rw [hu, e]
  · cases e
theorem mod_ok {t : Tb} {K : PySem.W.Frag} {h : Heap} {mg : Str → Option Value} {w : World} (A : AllE t t.rows) (Ac : AllC t.cls) (X : K.In h) (G : h.Ns mainGlobals mg) (c : He.SaysX t.fa t.fn [] t.tf t.ex w h K) : ModOk t.J K mg (t.tabs K) (t.cps K) where
  fns := fun f x hf => by
    have lxi : LX := lx0
    have hf' : (rowAt f t.rows).map (·.x) = some x := hf
    cases z : rowAt f t.rows with
    | none => rw [z] at hf'; cases hf'
    | some r =>
      rw [z] at hf'
      have ex : r.x = x := by simpa using hf'
      subst ex
      have hm := rowAt_mem z
      obtain ⟨h30, h4⟩ := AllE.get A hm
      have h3 := h30
      obtain ⟨fd, F⟩ := c.t.d.defs (d := mkDef r) (List.mem_append_left _ (List.mem_map.mpr ⟨r, hm, rfl⟩))
      refine ⟨r.e, r.f, _, fd, ?_, entB_ok h3, He.glo_ok X G (c.t.d.facts (f := .glo r.x) (List.mem_append_right _ (List.mem_map.mpr ⟨r, hm, rfl⟩))), F, h4 K _ fd F, fun h1 => ?_, fun y hy => ?_⟩
      · show (rowAt f t.rows).map (·.f) = some r.f
        rw [z]; rfl
      · have hmk : r ∈ t.mks := List.mem_filter.mpr ⟨hm, by rw [h1]; rfl⟩
        obtain ⟨oc, od, dV, kV, doc, pm, an, cdv, ct, osl, e1, lk, hcd, _, _⟩ := F.ex
        obtain ⟨cc, hcc⟩ : ∃ cc, cdv = .ref cc := by
          unfold PySem.W.codeIn at hcd
          split at hcd
          · exact ⟨_, rfl⟩
          · cases hcd
        have e2 : fd.code = .ref cc := by rw [e1, hcc]
        have e3 := He.codeOf_eq lk e2
        refine ⟨cc, (He.cT K (dfn r)).2, e2, List.mem_map.mpr ⟨r, hmk, ?_⟩, List.mem_map.mpr ⟨r, hmk, rfl⟩, fun p hp ep => ?_⟩
        · have e4 : He.codeOf K (dfn r) = cc := e3
          show (He.codeOf K (dfn r), He.tabOf K (He.codeOf K (dfn r))) = (cc, He.tabOf K (He.codeOf K (dfn r)))
          rw [e4]
        · have hu := List.all_eq_true.mp (and2 c.more).2 _ (List.mem_map.mpr ⟨r, hmk, rfl⟩)
          have hu := List.all_eq_true.mp hu p hp
          rcases Bool.or_eq_true_iff.mp hu with q | q
          · have q' := of_decide_eq_false (by simpa using q)
            exact absurd ep q'
          · exact of_decide_eq_true q
      · have hy : (rowAt f t.rows).bind keyRow = some y := hy
        rw [z] at hy
        have hy : keyRow r = some y := hy
        unfold keyRow at hy
        split at hy
        · assumption
        · cases hy
  kfn := fun f x hf => by
    have hf : (rowAt f t.rows).bind keyRow = some x := hf
    show (rowAt f t.rows).map (·.x) = some x
    cases z : rowAt f t.rows with
    | none => rw [z] at hf; cases hf
    | some r =>
      rw [z] at hf
      have hf : keyRow r = some x := hf
      unfold keyRow at hf
      split at hf
      · exact hf
      · cases hf
  blt := fun x hx => He.free_ok X G (c.t.d.facts (f := .free x) (List.mem_append_left _ (List.mem_map.mpr ⟨x, hx, rfl⟩)))
  gls := fun g x d hg hd => by
    have lxi : LX := lx0
    have hg' : (gvAt g t.gvs).map (·.x) = some x := hg
    have hd' : (gvAt g t.gvs).map (·.d) = some d := hd
    cases z : gvAt g t.gvs with
    | none => rw [z] at hg'; cases hg'
    | some r =>
      rw [z] at hg' hd'
      have ex : r.x = x := by simpa using hg'
      have ed : r.d = d := by simpa using hd'
      subst ex ed
      have h1 := List.all_eq_true.mp (and2 (and2 (and2 c.more).1).2).1 r (gvAt_mem z)
      unfold glB at h1
      split at h1
      · rename_i u hu
        obtain ⟨v, rv, p⟩ := datB_ok r.d u h1
        exact ⟨u, v, PySem.W.mg_of X G hu, rv, p⟩
      · cases h1
  rp := rpD_ok
  isa := rfl
  fld := rfl
  cls := fun n hn P w' base => by
    have lxi : LX := lx0
    obtain ⟨r, hr, er⟩ := List.mem_map.mp hn
    subst er
    obtain ⟨lt, hi⟩ := AllC.get Ac hr
    have hb := List.all_eq_true.mp (and2 (and2 (and2 c.more).1).2).2 r hr
    obtain ⟨b1, b2, b3⟩ := and3 hb
    obtain ⟨C, F⟩ := clsB_ok b1
    refine ⟨lt, b1, by rw [F.at_]; exact PySem.W.mg_of X G (clV_ns lt F.at_), b2, fun h0 => ?_⟩
    rcases hi with hi | ⟨e, he, hi, hbd⟩
    · exact absurd hi h0
    · rw [he] at b3
      obtain ⟨b4, b5⟩ := and2 b3
      obtain ⟨fd, FD⟩ := c.t.d.defs (d := ⟨(cname r.c, some "__init__"), "__init__", e.x, e.pa, e.body, e.sc, [], []⟩) (List.mem_append_right _ (List.mem_filterMap.mpr ⟨r, hr, by unfold mkIni; rw [he]; rfl⟩))
      have FD' : FunD K "__init__" e.x e.pa e.body e.sc [] [] (iniA K r.c) fd := FD
      obtain ⟨i1, i2⟩ := and2 hi
      have bd := hbd K _ fd FD'
      split at i2
      · rename_i s p1 f p2 v p3 p4 hbody
        obtain ⟨i0, i6, i7⟩ := and3 i2
        obtain ⟨i3, i4, i5⟩ := and3 i0
        have e1 : f = fname (fldC r.c) := of_decide_eq_true i3
        have e2 : e.N = [s, v] := of_decide_eq_true i4
        have e3 : e.ps = [s, v] := of_decide_eq_true i5
        rw [hbody, e1] at FD'
        have S := scB_ok i1
        rw [e2, e3] at S
        rw [e3] at bd
        have b4' := of_decide_eq_true b4
        rw [F.at_] at b4'
        obtain ⟨n1, n2⟩ := plainN i6
        obtain ⟨n3, n4⟩ := plainN i7
        exact ⟨C, _, fd, _, F.at_, b4', of_decide_eq_true b5, ini_ok F (rzB_ok b2 F.at_) h0 FD' S n1 n2 n3 n4, bd⟩
      · cases i2
theorem reps_ints {K : PySem.W.Frag} {H : Hp} {O : OSet} {θ : List Addr} : ∀ ns : List Int, Reps K H O θ (ns.map D.int) (ns.map V.int)
  | [] => rfl
  | n :: ns => ⟨_, _, rfl, rfl, reps_ints ns⟩
/-- the law's call: the script is a list that is no part of the module, the tables are empty -/
theorem enterT {P : Program} {w : World} {K : PySem.W.Frag} {mg mb : Str → Option Value} {CX : CXT} {k : Nat} {fa a : Addr} {cs : List (Addr × Addr)} {fd : FuncData} {x : Str} {sp : Sp} {s : Shared} {vs : List Value} {ns : List Int}
    (kin : K.In s.heap) (hns : s.heap.Ns mainGlobals mg) (hb : s.heap.Ns builtinsNs mb) (hbb : ∀ x : Str, x ≠ "__name__" → mb x = bootBuiltins x) (nol : s.heap.NoLimit) (hg : s.gens = #[])
    (hT : ∀ p ∈ cs, s.heap.get? p.2 = some { cls := .none, data := .fields #[] }) (nT : ∀ p ∈ cs, K.lookup p.2 = none) (C : ∀ p ∈ cs, PySem.W.CodeHd s.heap p.1 p.2)
    (hbm : ∃ (bm : Addr) (ob : Obj), mg "__builtins__" = some (.ref bm) ∧ bm ≠ builtinsNs ∧ s.heap.get? bm = some ob ∧ ob.cls = .type "module" ∧ ob.dict = some builtinsNs ∧ ob.data = .plain)
    (ha : s.heap.get? a = some { cls := .type "list", data := .seq vs.toArray }) (hi : IntsAre vs ns) (hl : ns.length ≤ sizeLine) (hr : Room k callerA) (hk : K.lookup a = none)
    (F : ∀ base : Heap, K.In base → base.Ns mainGlobals mg → (∀ p ∈ cs, LamX.TabB base mg p.1 p.2) → FnG P w K mg base CX k fa fd [x] sp) (hbind : BindsTo s fd ⟨[.ref a], []⟩ [(x, .ref a)])
    (hsp : ∀ (H : Hp) (o : Obj), (∀ p ∈ cs, H p.2 = some (.tbl #[])) → H a = some (.frz o (.lst (ns.map V.int))) → sp [.ref a] H (fun v _ => v = .bl true) fun _ _ _ => False)
    (hCX : ∀ H e s', CX [] H s (fun _ _ _ => False) e s' → False) :
    codeAny (model P w) callerA (.call (.ref fa) ⟨[.ref a], []⟩) (fun r s' => r = .ok (.ret (.bool true)) ∧ OldK s.heap s'.heap ∧ s'.os = s.os ∧ AllBare s'.gens) s := by
  obtain ⟨ob, eob⟩ : ∃ o : Obj, o = { cls := .type "list", data := .seq vs.toArray } := ⟨_, rfl⟩
  rw [← eob] at ha
  have isT : ∀ b : Addr, b ∈ cs.map (·.2) → s.heap.get? b = some { cls := .none, data := .fields #[] } := fun b hb => by
    obtain ⟨p, hp, e⟩ := List.mem_map.mp hb
    rw [← e]
    exact hT p hp
  have aT : a ∉ cs.map (·.2) := fun z => by
    have q := isT a z
    rw [ha, eob] at q
    cases q
  obtain ⟨H, Ha, Ht, Hb⟩ : ∃ H : Hp, H a = some (.frz ob (.lst (ns.map V.int))) ∧ (∀ b, b ∈ cs.map (·.2) → H b = some (.tbl #[])) ∧ ∀ b, b ≠ a → b ∉ cs.map (·.2) → H b = none :=
    ⟨fun b => if b = a then some (.frz ob (.lst (ns.map V.int))) else if b ∈ cs.map (·.2) then some (.tbl #[]) else none, if_pos rfl, fun b hb => (if_neg (show ¬ b = a from fun z => aT (by rw [← z]; exact hb))).trans (if_pos hb), fun b hb h2 => (if_neg hb).trans (if_neg h2)⟩
  have hok : HOk P w H s.heap := fun b u z => by
    by_cases q : b = a
    · subst q
      rw [Ha] at z
      cases z
      exact ⟨ha, by rw [List.length_map]; exact hl, vs, _, vals_ints hi, by rw [ha, eob]⟩
    · by_cases q2 : b ∈ cs.map (·.2)
      · rw [Ht b q2] at z
        cases z
        exact isT b q2
      · rw [Hb b q q2] at z; cases z
  have lives : ∀ {b : Addr} {o : Obj}, s.heap.get? b = some o → b ≠ a → b ∉ cs.map (·.2) → (hidT s.heap H).get? b = some o := fun e n m => hidT_get e (Hb _ n m)
  have away : ∀ {b : Addr} {o : Obj}, s.heap.get? b = some o → (∀ xs n, o.data ≠ .seq xs n) → o.data ≠ .fields #[] → (hidT s.heap H).get? b = some o := fun {b o} e h1 h2 => by
    refine lives e (fun z => ?_) fun z => ?_
    · rw [z, ha] at e
      cases e
      rw [eob] at h1
      exact h1 _ _ rfl
    · rw [isT b z] at e
      cases e
      exact h2 rfl
  have nsp : ∀ {b : Addr} {m : Str → Option Value}, s.heap.Ns b m → (hidT s.heap H).Ns b m := by
    rintro b m ⟨o, es, ep, e, d, r⟩
    refine ⟨o, es, ep, away e (fun _ _ z => ?_) (fun z => ?_), d, r⟩
    · rw [d] at z; cases z
    · rw [d] at z; cases z
  have kb : K.In (hidT s.heap H) := fun b o e => lives (kin b o e) (fun z => by rw [z, hk] at e; cases e) fun z => by
    obtain ⟨p, hp, ep⟩ := List.mem_map.mp z
    rw [← ep, nT p hp] at e; cases e
  have TB : ∀ p ∈ cs, LamX.TabB (hidT s.heap H) mg p.1 p.2 := fun p hp => by
    refine ⟨?_, ?_, fun z => ?_⟩
    · obtain ⟨o, us, file, tf, flags, tg, inF, text, tt, e1, r1, r2, r3, r4, r5, r6, r7, r8, hne⟩ := C p hp
      refine ⟨o, us, file, tf, flags, tg, inF, text, tt, away e1 (fun _ _ z => ?_) (fun z => ?_), r1, r2, r3, r4, r5, r6, r7, r8, hne⟩
      · rw [r2] at z; cases z
      · rw [r2] at z
        cases z
        simp at r3
    · obtain ⟨bm, om, b1, b2, b3, b4, b5, b6⟩ := hbm
      refine ⟨bm, om, b1, b2, fun q => ?_, fun q => ?_, away b3 (fun _ _ z => ?_) (fun z => ?_), b4, b5, b6⟩
      · obtain ⟨o, es, ep, e, hd, _⟩ := hns
        rw [q, e] at b3
        cases b3
        rw [hd] at b6; cases b6
      · rw [q, hT p hp] at b3
        cases b3
        cases b6
      · rw [b6] at z; cases z
      · rw [b6] at z; cases z
    · obtain ⟨o, es, ep, e, hd, _⟩ := hns
      rw [z, hT p hp] at e
      cases e
      cases hd
  obtain ⟨mc, n1, n2⟩ := nol
  have e0 : Env0 P w K mg (hidT s.heap H) callerA [] s H := ⟨rfl, ⟨kb, nsp hns, ⟨mb, nsp hb, hbb⟩, ⟨mc, nsp n1, n2⟩⟩, fun b o e => of_hidT e, Nat.le_of_eq (hidT_size _ _), trivial, fun b hb => absurd (show b ∈ ([] : List Addr) from hb) (by simp), hok, .of_eq hg⟩
  refine codeAny_mono ((F _ kb (nsp hns) TB).does callerA [] s H ⟨[.ref a], []⟩ [.ref a] [.ref a] _ _ rfl hr e0 hbind (.cons rfl .nil) (hsp H ob (fun p hp => Ht _ (List.mem_map.mpr ⟨p, hp, rfl⟩)) Ha)) fun res s' h => ?_
  match res, h with
  | .error e, h => exact (hCX H e s' h).elim
  | .ok (.ret u), h =>
    obtain ⟨v, H', os, bare, un, hok', rv, q⟩ := h
    have q' : v = .bl true := q
    subst q'
    obtain rfl : u = Value.bool true := rv
    have key : ∀ b o, b ∉ cs.map (·.2) → s.heap.get? b = some o → s'.heap.get? b = some o := fun b o nb e => by
      by_cases q : b = a
      · subst q
        obtain ⟨e1, _⟩ := hok' b _ (un.frzs b ob _ Ha)
        rw [ha] at e
        cases e
        exact e1
      · exact un.keep b o e (Hb b q nb) (fun z => absurd (show b ∈ ([] : List Addr) from z) (by simp)) (by simp)
    have grown : ∀ p ∈ cs, ∃ more : Array Value, s'.heap.get? p.2 = some { cls := .none, data := .fields more } := fun p hp => by
      obtain ⟨more, z⟩ := un.tbls p.2 #[] (Ht _ (List.mem_map.mpr ⟨p, hp, rfl⟩))
      exact ⟨_, hok' p.2 _ z⟩
    refine ⟨rfl, ⟨fun b o e => ?_, fun b o e => ?_⟩, os, bare⟩
    · by_cases hb : b ∈ cs.map (·.2)
      · obtain ⟨p, hp, ep⟩ := List.mem_map.mp hb
        obtain ⟨more, hm⟩ := grown p hp
        rw [← ep] at e ⊢
        rw [hT p hp] at e
        cases e
        exact .inr (.inl ⟨((C p hp).tab (hT p hp)).isCodeTable, rfl, #[], more, rfl, by rw [Array.empty_append]; exact hm⟩)
      · exact .inl (key b o hb e)
    · by_cases hb : b ∈ cs.map (·.2)
      · obtain ⟨p, hp, ep⟩ := List.mem_map.mp hb
        obtain ⟨more, hm⟩ := grown p hp
        rw [← ep]
        exact ⟨_, hm⟩
      · exact ⟨o, key b o hb e⟩
/-- the law's call, from what its core computes -/
theorem law_walk {l : PySem.W.OpenLaw} {n k m flaw : Nat} {q : Program} {loose : List Str} {XP : (Str → Option Value) → Heap → Prop} {d : DefRec} {t : Tb} (hn : l.most = some n) (hn2 : n ≤ sizeLine) (hdf : d.params.defaults = []) (A : AllE t t.rows) (Ac : AllC t.cls) (hr : Room (k + 4) callerA)
    (hname : t.J.fn flaw = some d.name) (hlaw : ∀ ns : List Int, ns.length ≤ n → ∃ M, callF t.P k flaw [.lst (ns.map .int)] [] = .ok (.bl true) M) :
    PySem.W.WalkO q loose XP (He.hookX m t.fa t.fn [] t.tf t.ex).says l.row.toRowW d [] (fun f vs => PySem.call f vs) := by
  refine Att.attach_call hn hdf fun w s₀ s₁ mg mb fa o pm cd doc a vs ns G Y ho hd hcd hmg hobj hints hlen hg => ?_
  obtain ⟨K, KX, c⟩ := Y
  let lx : LX := ⟨t.tabs K, none, fun _ => none, [], fun _ => False⟩
  obtain ⟨fa', fd, ps, hm, kp, B, ⟨fn, hT, hnp⟩, F⟩ := fns_ok (P := l.prog) (w := w) (mod_ok A Ac KX G.T.g c) k flaw d.name hname lx rfl
  rw [hmg] at hm
  cases hm
  obtain ⟨M', hM⟩ := hlaw ns hlen
  have hsp : ∀ (H : Hp) (o : Obj), (∀ p ∈ t.cps K, H p.2 = some (.tbl #[])) → H a = some (.frz o (.lst (ns.map V.int))) → @spF lx K t.J k flaw [.ref a] H (fun v _ => v = .bl true) fun _ _ _ => False := fun H o hb ha => by
    refine ⟨fun _ => False, [], [], [.lst (ns.map .int)], @RM.mk lx _ _ _ _ rfl List.nodup_nil (fun n a ns h => by simp at h) (fun a h => by simp at h) (fun a h => h.elim) (fun p hp => ?_), ⟨_, _, rfl, ⟨a, ns.map V.int, rfl, ⟨.inr ⟨o, ha⟩, id, by simp⟩, reps_ints ns⟩, rfl⟩, ?_⟩
    · obtain ⟨r, hr, e⟩ := List.mem_map.mp hp
      subst e
      exact ⟨#[], hb (He.cT K (dfn r)) (List.mem_map.mpr ⟨r, hr, rfl⟩), trivial, fun pos cv e => by cases e⟩
    · show @After lx _ K t.J _ _ _ _ _ (callF t.P k flaw [.lst (ns.map .int)] []) _
      rw [hM]
      exact fun θ' H' x m v r => r
  have nolk : K.lookup a = none := by
    have lxi : LX := lx0
    cases z : K.lookup a with
    | none => rfl
    | some ob =>
      have e := KX a ob z
      rw [hobj] at e
      cases e
      exact absurd rfl (noList_ok (and2 (and2 c.more).1).1 z)
  have tf_of : ∀ p, p ∈ t.cps K → ∃ dd, dd ∈ t.tf ∧ p = He.cT K dd := fun p hp => by
    obtain ⟨r, hr, e⟩ := List.mem_map.mp hp
    exact ⟨dfn r, List.mem_map.mpr ⟨r, hr, rfl⟩, e.symm⟩
  obtain ⟨x, rfl⟩ : ∃ x, ps = [x] := by
    have hpl : ps.length = 1 := by
      rw [← hnp]
      cases k with
      | zero => cases hM
      | succ k =>
        rw [callF_any, show t.P.T flaw = some fn from hT] at hM
        by_cases z : [D.lst (ns.map D.int)].length = fn.np
        · exact z.symm
        · simp only [if_neg z] at hM; cases hM
    exact List.length_eq_one_iff.mp hpl
  have bd := B s₁ [.ref a] KX rfl
  exact enterT (cs := t.cps K) KX G.T.g G.T.b G.T.builtins G.T.nolimit hg (fun p hp => by obtain ⟨dd, h1, h2⟩ := tf_of p hp; rw [h2]; exact c.empty dd h1) (fun p hp => by obtain ⟨dd, h1, h2⟩ := tf_of p hp; rw [h2]; exact c.out dd h1)
    (fun p hp => by obtain ⟨dd, h1, h2⟩ := tf_of p hp; rw [h2]; exact PySem.W.codeHd_of_K KX (c.hd dd h1)) G.T.bmain hobj hints (Nat.le_trans hlen hn2) hr nolk (fun base _ _ tb => F base tb) bd hsp fun H e s' z => by
    obtain ⟨_, _, _, _, _, _, _, _, _, _, _, _, z⟩ := z
    exact z
theorem fnAt_rows (i : Nat) : ∀ rs : List Row, RCs.fnAt i (rs.map fun r => (r.i, r.f)) = (rowAt i rs).map (·.f)
  | [] => rfl
  | r :: rs => by
    rw [List.map_cons, RCs.fnAt, rowAt, fnAt_rows i rs]
    split <;> rfl
theorem glAt_gvs (i : Nat) : ∀ rs : List Gv, RCs.glAt i (rs.map fun r => (r.i, r.d)) = (gvAt i rs).map (·.d)
  | [] => rfl
  | r :: rs => by
    rw [List.map_cons, RCs.glAt, gvAt, glAt_gvs i rs]
    split <;> rfl
theorem Tb.P_eq {t : Tb} {fs : List (Nat × Fn)} {gs : List (Nat × D)} (h1 : t.rows.map (fun r => (r.i, r.f)) = fs) (h2 : t.gvs.map (fun r => (r.i, r.d)) = gs) : t.P = ⟨fun i => RCs.fnAt i fs, fun i => RCs.glAt i gs, isaC, fldC, rpD, 100000⟩ := by
  subst h1 h2
  simp only [fnAt_rows, glAt_gvs]
  rfl
end RC

set_option Elab.async false
set_option linter.all false
set_option autoImplicit false
set_option maxRecDepth 100000
set_option maxHeartbeats 2000000
namespace RC
open PySem PySem.Spec PyProof.Rows L2
mutual
/-- at least as long as what repr shows -/
def szD : D → Nat
  | .non => 4
  | .bl _ => 5
  | .int _ => 1921
  | .str s => 10 * s.length + 2
  | .lst xs => szAll xs + 4
  | .tup xs => szAll xs + 4
  | _ => 4
def szAll : List D → Nat
  | [] => 0
  | d :: ds => szD d + 2 + szAll ds
end
mutual
/-- ints that repr shows -/
def smD : D → Bool
  | .int i => decide (i.natAbs.log2 < 1920)
  | .lst xs => smAll xs
  | .tup xs => smAll xs
  | _ => true
def smAll : List D → Bool
  | [] => true
  | d :: ds => smD d && smAll ds
end
theorem tupleText_le (ts : List Str) : (tupleText ts).length ≤ piled ts + 3 := by
  unfold tupleText
  rw [strLen_append, strLen_append]
  have e1 : ((("(" : String) : Str)).length = 1 := rfl
  have e3 : (((if ts.length == 1 then ",)" else ")" : String) : Str)).length ≤ 2 := by split <;> decide
  cases ts with
  | nil => simp [piled]; decide
  | cons t r =>
    have := join_length_add (t :: r) (by simp)
    omega
theorem listText_le (ts : List Str) : (listText ts).length ≤ piled ts + 3 := by
  cases ts with
  | nil => decide
  | cons t r =>
    have h := textFrom_length_pos r 1 (("[" : Str) ++ (if (0 : Nat) > 0 then ", " else "" : String) ++ t) (Nat.succ_pos 0)
    have e : ((("[" : Str) ++ (if (0 : Nat) > 0 then ", " else "" : String) ++ t)).length = 1 + t.length := by
      rw [strLen_append, strLen_append]; rfl
    have hX : (listText (t :: r)).length = (textFrom 0 "[" (t :: r)).length + 1 := by
      show (textFrom 0 "[" (t :: r) ++ "]").length = _
      rw [strLen_append]; rfl
    have hY : (textFrom 0 "[" (t :: r)).length = (textFrom 1 (("[" : Str) ++ (if (0 : Nat) > 0 then ", " else "" : String) ++ t) r).length := rfl
    rw [hX, hY, h, e, piled_cons]; omega
mutual
theorem shown_le : ∀ (n : Nat) (d : D), plain n d = true → smD d = true → (toPy d).showable = true ∧ (toPy d).shown.length ≤ szD d
  | _, .non, _, _ => ⟨rfl, by decide⟩
  | _, .bl b, _, _ => ⟨rfl, by cases b <;> decide⟩
  | _, .int i, _, h => by
    have h' : decide (i.natAbs.log2 < 1920) = true := by simpa [smD] using h
    refine ⟨by simpa [toPy, PyData.showable] using h', ?_⟩
    exact int_text_len_1921 (of_decide_eq_true h')
  | _, .str s, h, _ => by
    refine ⟨rfl, ?_⟩
    have h1 : ∀ c ∈ s, c < 1114112 := by simpa [plain] using h
    have := PySem.StrLaws.reprText_len ⟨s.toArray⟩ (fun c hc => by
      have := h1 c (by simpa using hc)
      omega)
    simpa [toPy, PyData.shown, szD, Str.length] using this
  | 0, .lst xs, h, _ => by simp [plain] at h
  | n + 1, .lst xs, h, h2 => by
    obtain ⟨a, b⟩ := shown_all n xs (by simpa [plain] using h) (by simpa [smD] using h2)
    refine ⟨by simpa [toPy, PyData.showable] using a, ?_⟩
    have := listText_le (PyData.shownAll (toPys xs))
    show (listText (PyData.shownAll (toPys xs))).length ≤ szAll xs + 4
    omega
  | 0, .tup xs, h, _ => by simp [plain] at h
  | n + 1, .tup xs, h, h2 => by
    obtain ⟨a, b⟩ := shown_all n xs (by simpa [plain] using h) (by simpa [smD] using h2)
    refine ⟨by simpa [toPy, PyData.showable] using a, ?_⟩
    have := tupleText_le (PyData.shownAll (toPys xs))
    show (tupleText (PyData.shownAll (toPys xs))).length ≤ szAll xs + 4
    omega
  | _, .ref _, h, _ => by simp [plain] at h
  | _, .exc _ _, h, _ => by simp [plain] at h
  | _, .clo _ _, h, _ => by simp [plain] at h
theorem shown_all : ∀ (n : Nat) (ds : List D), plainAll n ds = true → smAll ds = true → PyData.showableAll (toPys ds) = true ∧ piled (PyData.shownAll (toPys ds)) ≤ szAll ds
  | _, [], _, _ => ⟨rfl, by decide⟩
  | n, d :: ds, h, h2 => by
    rw [plainAll, Bool.and_eq_true] at h
    rw [smAll, Bool.and_eq_true] at h2
    obtain ⟨a, b⟩ := shown_le n d h.1 h2.1
    obtain ⟨a', b'⟩ := shown_all n ds h.2 h2.2
    refine ⟨by simp [toPys, PyData.showableAll, a, a'], ?_⟩
    show piled ((toPy d).shown :: PyData.shownAll (toPys ds)) ≤ szD d + 2 + szAll ds
    rw [piled_cons]
    omega
end
theorem rp_some {d : D} (h : plain 40 d = true) (h2 : smD d = true) (h3 : szD d ≤ 16777216) : ∃ s, rpD d = some s := by
  obtain ⟨a, b⟩ := shown_le 40 d h h2
  have e0 : rpD d = rpP d := by
    unfold rpD
    split
    · rename_i z; simp [plain] at h
    · rfl
  rw [e0]
  unfold rpP
  rw [if_pos ⟨h, a, by show _ ≤ 16777216; omega⟩]
  exact ⟨_, rfl⟩
/-! the same by simp -/
@[simp] theorem sz_int {i : Int} : szD (.int i) = 1921 := by rw [szD]
@[simp] theorem sz_bl {i : Bool} : szD (.bl i) = 5 := by rw [szD]
@[simp] theorem sz_non : szD .non = 4 := by rw [szD]
@[simp] theorem sz_str {s : List Nat} : szD (.str s) = 10 * s.length + 2 := by rw [szD]
@[simp] theorem sz_lst {s : List D} : szD (.lst s) = szAll s + 4 := by rw [szD]
@[simp] theorem sz_tup {s : List D} : szD (.tup s) = szAll s + 4 := by rw [szD]
@[simp] theorem sz_nil : szAll [] = 0 := by rw [szAll]
@[simp] theorem sz_cons {d : D} {s : List D} : szAll (d :: s) = szD d + 2 + szAll s := by rw [szAll]
@[simp] theorem sm_int {i : Int} : smD (.int i) = decide (i.natAbs.log2 < 1920) := by rw [smD]
@[simp] theorem sm_bl {i : Bool} : smD (.bl i) = true := by rw [smD] <;> simp
@[simp] theorem sm_non : smD .non = true := by rw [smD] <;> simp
@[simp] theorem sm_str {s : List Nat} : smD (.str s) = true := by rw [smD] <;> simp
@[simp] theorem sm_lst {s : List D} : smD (.lst s) = smAll s := by rw [smD]
@[simp] theorem sm_tup {s : List D} : smD (.tup s) = smAll s := by rw [smD]
@[simp] theorem sm_nil : smAll [] = true := by rw [smAll]
@[simp] theorem sm_cons {d : D} {s : List D} : smAll (d :: s) = (smD d && smAll s) := by rw [smAll]
theorem sz_map {α : Type} {f : α → D} {m : Nat} : ∀ {xs : List α}, (∀ x ∈ xs, szD (f x) ≤ m) → szAll (xs.map f) ≤ xs.length * (m + 2)
  | [], _ => by simp
  | x :: xs, h => by
    have h1 := h x List.mem_cons_self
    have h2 := sz_map (f := f) (xs := xs) fun y hy => h y (List.mem_cons_of_mem _ hy)
    simp only [List.map_cons, sz_cons, List.length_cons, Nat.add_mul, Nat.one_mul] at *
    omega
theorem sm_map {α : Type} {f : α → D} : ∀ {xs : List α}, (∀ x ∈ xs, smD (f x) = true) → smAll (xs.map f) = true
  | [], _ => by simp
  | x :: xs, h => by
    rw [List.map_cons, sm_cons, h x List.mem_cons_self, sm_map fun y hy => h y (List.mem_cons_of_mem _ hy)]; rfl
theorem log_small {i : Int} {n : Nat} (h : i.natAbs < 2 ^ n) (hn : n ≤ 1920) (h0 : 0 < n) : i.natAbs.log2 < 1920 := by
  by_cases z : i.natAbs = 0
  · rw [z]; decide
  · have := (Nat.log2_lt z).mpr h
    omega
end RC

set_option linter.all false
set_option autoImplicit false
set_option maxRecDepth 100000
/-! Runs by what holds at their end: wp r Φ is Φ r, opened step by step. -/
namespace RCs
open RC
/-- keeps simp out of what follows -/
structure Kp {α : Type} (Φ : α → Prop) : Type where
def wp {α : Type} (r : Res α) (Φ : Res α → Prop) (_ : Kp Φ := ⟨⟩) : Prop := Φ r
def wo (o : Out) (Ψ : Out → Prop) (_ : Kp Ψ := ⟨⟩) : Prop := Ψ o
theorem wp_iff {α : Type} {r : Res α} {Φ : Res α → Prop} : wp r Φ ↔ Φ r := Iff.rfl
theorem wo_iff {o : Out} {Ψ : Out → Prop} : wo o Ψ ↔ Ψ o := Iff.rfl
theorem wp_mono {α : Type} {r : Res α} {Φ Φ' : Res α → Prop} (h : wp r Φ) (hm : ∀ x, Φ x → Φ' x) : wp r Φ' := hm _ h
theorem wo_mono {o : Out} {Φ Φ' : Out → Prop} (h : wo o Φ) (hm : ∀ x, Φ x → Φ' x) : wo o Φ' := hm _ h
/-- what follows a value -/
def kb {α β : Type} (f : α → Store → Res β) (Φ : Res β → Prop) : Res α → Prop
  | .ok a M => wp (f a M) Φ
  | .exc c v M => Φ (.exc c v M)
  | .stuck => Φ .stuck
/-- what follows a value in a command -/
def kt {α : Type} (ρ : Env) (f : α → Store → Out) (Ψ : Out → Prop) : Res α → Prop
  | .ok a M => wo (f a M) Ψ
  | .exc c v M => Ψ (.exc ρ c v M)
  | .stuck => Ψ .stuck
/-- what follows a command -/
def kc (f : Env → Store → Out) (Ψ : Out → Prop) : Out → Prop
  | .next ρ M => wo (f ρ M) Ψ
  | o => Ψ o
/-- a body's end -/
def ke (Φ : Res D → Prop) (o : Out) : Prop := Φ o.end_
def kq {α : Type} (Φ : Res α → Prop) (r : Res α) : Prop := Φ r.quiet
def kx (isa : Nat → Nat → Bool) (ks : List Nat) (i j : Nat) (Ψ : Out → Prop) (o : Out) : Prop := wo (ctch isa ks i j o) Ψ
def kl (ρ : Env) (body : D → Env → Store → Out) (Ψ : Out → Prop) : Res (List D) → Prop
  | .ok ds M => wo (forLoop body ds ρ M) Ψ
  | .exc c v M => Ψ (.exc ρ c v M)
  | .stuck => Ψ .stuck
section
variable {α β : Type} {Φ : Res α → Prop} {Ψ : Out → Prop} {Φb : Res β → Prop}
@[simp] theorem wp_ok {a : α} {M : Store} : wp (.ok a M) Φ = Φ (.ok a M) := rfl
@[simp] theorem wp_exc {c : Nat} {v : D} {M : Store} : wp (.exc c v M : Res α) Φ = Φ (.exc c v M) := rfl
@[simp] theorem wp_stuck : wp (.stuck : Res α) Φ = Φ .stuck := rfl
@[simp ↓] theorem wp_bind {r : Res α} {f : α → Store → Res β} : wp (r.bind f) Φb = wp r (kb f Φb) := by cases r <;> rfl
@[simp ↓] theorem wp_truth {r : Res D} {f : Bool → Store → Res α} : wp (truth r f) Φ = wp r (kb (fun d M => match d with | .bl b => f b M | _ => .stuck) Φ) := by
  unfold truth
  first
    | (rw [wp_bind]; done)
    | (rw [wp_bind]; rfl)
@[simp ↓] theorem kb_ok {a : α} {M : Store} {f : α → Store → Res β} : kb f Φb (.ok a M) = wp (f a M) Φb := rfl
@[simp ↓] theorem kb_exc {c : Nat} {v : D} {M : Store} {f : α → Store → Res β} : kb f Φb (.exc c v M) = Φb (.exc c v M) := rfl
@[simp ↓] theorem kb_stuck {f : α → Store → Res β} : kb f Φb .stuck = Φb .stuck := rfl
@[simp ↓] theorem kt_ok {ρ : Env} {a : α} {M : Store} {f : α → Store → Out} : kt ρ f Ψ (.ok a M) = wo (f a M) Ψ := rfl
@[simp ↓] theorem kt_exc {ρ : Env} {c : Nat} {v : D} {M : Store} {f : α → Store → Out} : kt ρ f Ψ (.exc c v M) = Ψ (.exc ρ c v M) := rfl
@[simp ↓] theorem kt_stuck {ρ : Env} {f : α → Store → Out} : kt ρ f Ψ .stuck = Ψ .stuck := rfl
@[simp ↓] theorem kl_ok {ρ : Env} {ds : List D} {M : Store} {f : D → Env → Store → Out} : kl ρ f Ψ (.ok ds M) = wo (forLoop f ds ρ M) Ψ := rfl
@[simp ↓] theorem kc_next {ρ : Env} {M : Store} {f : Env → Store → Out} : kc f Ψ (.next ρ M) = wo (f ρ M) Ψ := rfl
@[simp ↓] theorem kc_ret {d : D} {M : Store} {f : Env → Store → Out} : kc f Ψ (.ret d M) = Ψ (.ret d M) := rfl
@[simp ↓] theorem kc_exc {ρ : Env} {c : Nat} {v : D} {M : Store} {f : Env → Store → Out} : kc f Ψ (.exc ρ c v M) = Ψ (.exc ρ c v M) := rfl
@[simp ↓] theorem kc_brk {ρ : Env} {M : Store} {f : Env → Store → Out} : kc f Ψ (.brk ρ M) = Ψ (.brk ρ M) := rfl
@[simp ↓] theorem kc_cont {ρ : Env} {M : Store} {f : Env → Store → Out} : kc f Ψ (.cont ρ M) = Ψ (.cont ρ M) := rfl
@[simp ↓] theorem kc_stuck {f : Env → Store → Out} : kc f Ψ .stuck = Ψ .stuck := rfl
@[simp ↓] theorem ke_at {Φ : Res D → Prop} {o : Out} : ke Φ o = Φ o.end_ := rfl
@[simp ↓] theorem kq_at {r : Res α} : kq Φ r = Φ r.quiet := rfl
@[simp ↓] theorem kx_at {isa : Nat → Nat → Bool} {ks : List Nat} {i j : Nat} {o : Out} : kx isa ks i j Ψ o = wo (ctch isa ks i j o) Ψ := rfl
@[simp ↓] theorem wo_then {r : Res α} {ρ : Env} {f : α → Store → Out} : wo (r.then_ ρ f) Ψ = wp r (kt ρ f Ψ) := by cases r <;> rfl
@[simp ↓] theorem wo_cons {c : Cfg} {a : C} {r : Cs} {ρ : Env} {M : Store} : wo (exs c (.cons a r) ρ M) Ψ = wo (ex c a ρ M) (kc (fun ρ M => exs c r ρ M) Ψ) := by
  rw [xs_cons]
  cases ex c a ρ M <;> rfl
@[simp] theorem wo_next {ρ : Env} {M : Store} : wo (.next ρ M) Ψ = Ψ (.next ρ M) := rfl
@[simp] theorem wo_ret {d : D} {M : Store} : wo (.ret d M) Ψ = Ψ (.ret d M) := rfl
@[simp] theorem wo_brk {ρ : Env} {M : Store} : wo (.brk ρ M) Ψ = Ψ (.brk ρ M) := rfl
@[simp] theorem wo_cont {ρ : Env} {M : Store} : wo (.cont ρ M) Ψ = Ψ (.cont ρ M) := rfl
@[simp] theorem wo_exc {ρ : Env} {c : Nat} {v : D} {M : Store} : wo (.exc ρ c v M) Ψ = Ψ (.exc ρ c v M) := rfl
@[simp] theorem wo_stuck : wo .stuck Ψ = Ψ .stuck := rfl
@[simp ↓] theorem wp_end {o : Out} {Φ : Res D → Prop} : wp o.end_ Φ = wo o (ke Φ) := rfl
@[simp ↓] theorem wp_quiet {r : Res α} : wp r.quiet Φ = wp r (kq Φ) := rfl
@[simp] theorem wo_ctch {isa : Nat → Nat → Bool} {ks : List Nat} {i j : Nat} {o : Out} : wo (ctch isa ks i j o) Ψ = Ψ (ctch isa ks i j o) := rfl
@[simp] theorem wo_brn {b : Bool} {t u : Out} : wo (brn (.bl b) t u) Ψ = wo (if b = true then t else u) Ψ := by rw [brn_bl]
theorem wo_if {p : Prop} [Decidable p] {t u : Out} : wo (if p then t else u) Ψ = ((p → wo t Ψ) ∧ (¬ p → wo u Ψ)) := by
  by_cases h : p <;> simp [h]
theorem wp_if {p : Prop} [Decidable p] {t u : Res α} : wp (if p then t else u) Φ = ((p → wp t Φ) ∧ (¬ p → wp u Φ)) := by
  by_cases h : p <;> simp [h]
theorem fb_n {c : Cfg} {i : Nat} {b : Cs} {d : D} {ρ : Env} {M : Store} : forBody c (.n i) b d ρ M = exs c b (setV ρ i d) M := by simp only [forBody, b_n]
@[simp ↓] theorem wo_for {c : Cfg} {tg : Tg} {it : It} {b : Cs} {ρ : Env} {M : Store} : wo (ex c (.for_ tg it b) ρ M) Ψ = wp (evi c it ρ M) (kl ρ (forBody c tg b) Ψ) := by
  rw [ex_for, wo_then]
  unfold wp
  cases evi c it ρ M <;> rfl
@[simp ↓] theorem wo_try {c : Cfg} {b : Cs} {ks : List Nat} {i j : Nat} {ρ : Env} {M : Store} : wo (ex c (.try_ b ks i j) ρ M) Ψ = wo (exs c b ρ M) (kx c.isa ks i j Ψ) := by rw [x_try]; rfl
/-- a loop by its invariant -/
theorem wo_loop {body : D → Env → Store → Out} {ds : List D} {ρ : Env} {M : Store} (I : Nat → Env → Store → Prop) (h0 : I 0 ρ M)
    (hs : ∀ i d ρ M, ds[i]? = some d → I i ρ M → wo (body d ρ M) fun o => match o with | .next ρ' M' => I (i + 1) ρ' M' | .cont ρ' M' => I (i + 1) ρ' M' | .brk ρ' M' => Ψ (.next ρ' M') | .ret d M => Ψ (.ret d M) | .exc ρ c v M => Ψ (.exc ρ c v M) | .stuck => Ψ .stuck)
    (hd : ∀ ρ M, I ds.length ρ M → Ψ (.next ρ M)) : wo (forLoop body ds ρ M) Ψ := by
  induction ds generalizing I ρ M with
  | nil => exact hd ρ M h0
  | cons d ds ih =>
    have h1 := hs 0 d ρ M rfl h0
    rw [forLoop]
    cases e : body d ρ M with
    | next ρ1 M1 =>
      rw [e] at h1
      exact ih (fun i => I (i + 1)) h1 (fun i d ρ M hd hI => hs (i + 1) d ρ M (by simpa using hd) hI) hd
    | cont ρ1 M1 =>
      rw [e] at h1
      exact ih (fun i => I (i + 1)) h1 (fun i d ρ M hd hI => hs (i + 1) d ρ M (by simpa using hd) hI) hd
    | ret a M1 => rw [e] at h1; exact h1
    | brk ρ1 M1 => rw [e] at h1; exact h1
    | exc ρ1 k v M1 => rw [e] at h1; exact h1
    | stuck => rw [e] at h1; exact h1
/-- .. over a range -/
theorem wo_rng {c : Cfg} {tg : Tg} {b : Cs} {n : Nat} {ρ : Env} {M : Store} (I : Nat → Env → Store → Prop) (h0 : I 0 ρ M)
    (hs : ∀ i ρ M, i < n → I i ρ M → wo (forBody c tg b (.int (i : Int)) ρ M) fun o => match o with | .next ρ' M' => I (i + 1) ρ' M' | .cont ρ' M' => I (i + 1) ρ' M' | .brk ρ' M' => Ψ (.next ρ' M') | .ret d M => Ψ (.ret d M) | .exc ρ c v M => Ψ (.exc ρ c v M) | .stuck => Ψ .stuck)
    (hd : ∀ ρ M, I n ρ M → Ψ (.next ρ M)) : wo (forLoop (forBody c tg b) (rngD 0 n) ρ M) Ψ := by
  refine wo_loop I h0 (fun i d ρ M hd hI => ?_) (fun ρ M hI => hd ρ M (by rw [rng_len] at hI; exact hI))
  obtain ⟨hi, rfl⟩ := rng_get hd
  exact hs i ρ M hi hI
/-- .. over a list of images -/
theorem wo_map {α : Type} {f : α → D} {xs : List α} {c : Cfg} {tg : Tg} {b : Cs} {ρ : Env} {M : Store} (I : Nat → Env → Store → Prop) (h0 : I 0 ρ M)
    (hs : ∀ i x ρ M, xs[i]? = some x → I i ρ M → wo (forBody c tg b (f x) ρ M) fun o => match o with | .next ρ' M' => I (i + 1) ρ' M' | .cont ρ' M' => I (i + 1) ρ' M' | .brk ρ' M' => Ψ (.next ρ' M') | .ret d M => Ψ (.ret d M) | .exc ρ c v M => Ψ (.exc ρ c v M) | .stuck => Ψ .stuck)
    (hd : ∀ ρ M, I xs.length ρ M → Ψ (.next ρ M)) : wo (forLoop (forBody c tg b) (xs.map f) ρ M) Ψ := by
  refine wo_loop I h0 (fun i d ρ M hd hI => ?_) (fun ρ M hI => hd ρ M (by rw [List.length_map] at hI; exact hI))
  rw [List.getElem?_map] at hd
  cases e : xs[i]? with
  | none => rw [e] at hd; cases hd
  | some x =>
    rw [e] at hd
    cases hd
    exact hs i x ρ M e hI
/-- a loop with a measure -/
theorem wo_while {c : Cfg} {t : E} {b : Cs} (I : Nat → Env → Store → Prop) (hs : ∀ m ρ M, I m ρ M → wp (ev c t ρ M) fun r => match r with
      | .ok (.bl true) M1 => 0 < m ∧ wo (exs c b ρ M1) fun o => match o with | .next ρ' M' => I (m - 1) ρ' M' | .cont ρ' M' => I (m - 1) ρ' M' | .brk ρ' M' => Ψ (.next ρ' M') | .ret d M => Ψ (.ret d M) | .exc ρ c v M => Ψ (.exc ρ c v M) | .stuck => Ψ .stuck
      | .ok (.bl false) M1 => Ψ (.next ρ M1)
      | _ => False) : ∀ (m n : Nat) (ρ : Env) (M : Store), m < n → I m ρ M → wo (whileLoop (fun ρ M => ev c t ρ M) (fun ρ M => exs c b ρ M) n ρ M) Ψ := by
  intro m n
  induction n generalizing m with
  | zero => intro ρ M h; omega
  | succ n ih =>
    intro ρ M hm hI
    have h := hs m ρ M hI
    rw [whileLoop]
    cases e : ev c t ρ M with
    | exc k v M1 => rw [e] at h; exact h.elim
    | stuck => rw [e] at h; exact h.elim
    | ok d M1 =>
      rw [e] at h
      cases d with
      | bl bb =>
        cases bb with
        | false => exact h
        | true =>
          obtain ⟨h0, h1⟩ := h
          simp only [Res.then_ok]
          cases e2 : exs c b ρ M1 with
          | next ρ1 M2 => rw [e2] at h1; exact ih (m - 1) ρ1 M2 (by omega) h1
          | cont ρ1 M2 => rw [e2] at h1; exact ih (m - 1) ρ1 M2 (by omega) h1
          | ret a M2 => rw [e2] at h1; exact h1
          | brk ρ1 M2 => rw [e2] at h1; exact h1
          | exc ρ1 k v M2 => rw [e2] at h1; exact h1
          | stuck => rw [e2] at h1; exact h1
      | _ => exact h.elim
end
/-- a comprehension by its invariant: J i ys M behind i items -/
theorem wp_lc {step : D → Store → Res (Option D)} {Φ : Res (List D) → Prop} (J : Nat → List D → Store → Prop) : ∀ {ds : List D} {M : Store} (ys : List D) (i : Nat), J i ys M →
    (∀ k d ys M, ds[k]? = some d → J (i + k) ys M → wp (step d M) fun r => match r with | .ok (some y) M' => J (i + k + 1) (ys ++ [y]) M' | .ok none M' => J (i + k + 1) ys M' | _ => False) →
    (∀ zs M', J (i + ds.length) (ys ++ zs) M' → Φ (.ok zs M')) → wp (lcLoop step ds M) Φ
  | [], M, ys, i, h, _, hd => hd [] M (by simpa using h)
  | d :: ds, M, ys, i, h, hs, hd => by
    have h1 := hs 0 d ys M rfl (by simpa using h)
    rw [lcLoop]
    cases e : step d M with
    | stuck => rw [e] at h1; exact h1.elim
    | exc k v M1 => rw [e] at h1; exact h1.elim
    | ok o M1 =>
      rw [e] at h1
      rw [Res.bind_ok, wp_bind]
      cases o with
      | none =>
        refine wp_lc J (M := M1) ys (i + 1) h1 (fun k d ys M hk hJ => ?_) (fun zs M' hJ => ?_)
        · have := hs (k + 1) d ys M (by simpa using hk) (by rw [show i + (k + 1) = i + 1 + k by omega]; exact hJ)
          rw [show i + (k + 1) = i + 1 + k by omega] at this
          exact this
        · exact hd zs M' (by rw [List.length_cons, show i + (ds.length + 1) = i + 1 + ds.length by omega]; exact hJ)
      | some y =>
        refine wp_lc J (M := M1) (ys ++ [y]) (i + 1) h1 (fun k d ys M hk hJ => ?_) (fun zs M' hJ => ?_)
        · have := hs (k + 1) d ys M (by simpa using hk) (by rw [show i + (k + 1) = i + 1 + k by omega]; exact hJ)
          rw [show i + (k + 1) = i + 1 + k by omega] at this
          exact this
        · exact hd (y :: zs) M' (by rw [List.length_cons, show i + (ds.length + 1) = i + 1 + ds.length by omega]; simpa using hJ)
def kz (Φ : Res D → Prop) : Res (List D) → Prop
  | .ok zs M => Φ (.ok (.lst zs) M)
  | .exc _ _ _ => Φ .stuck
  | .stuck => Φ .stuck
@[simp ↓] theorem kz_ok {Φ : Res D → Prop} {zs : List D} {M : Store} : kz Φ (.ok zs M) = Φ (.ok (.lst zs) M) := rfl
def ki (c : Cfg) (tg : Tg) (cs : Es) (elt : E) (ρ : Env) (Φ : Res D → Prop) : Res (List D) → Prop
  | .ok ds M => ds.length ≤ 16777216 ∧ wp (lcLoop (lcStep c tg cs elt ρ) ds M) (kz Φ)
  | .exc k v M => Φ (.exc k v M)
  | .stuck => Φ .stuck
@[simp ↓] theorem ki_ok {c : Cfg} {tg : Tg} {cs : Es} {elt : E} {ρ : Env} {Φ : Res D → Prop} {ds : List D} {M : Store} : ki c tg cs elt ρ Φ (.ok ds M) = (ds.length ≤ 16777216 ∧ wp (lcLoop (lcStep c tg cs elt ρ) ds M) (kz Φ)) := rfl
theorem wp_lc_ev {c : Cfg} {tg : Tg} {it : It} {cs : Es} {elt : E} {ρ : Env} {M : Store} {Φ : Res D → Prop} (h : wp (evi c it ρ M) (ki c tg cs elt ρ Φ)) : wp (ev c (.lc tg it cs elt) ρ M) Φ := by
  rw [ev_lc_eq, wp_bind]
  unfold wp at *
  cases e : evi c it ρ M with
  | stuck => rw [e] at h; exact h
  | exc k v M1 => rw [e] at h; exact h
  | ok ds M1 =>
    rw [e] at h
    obtain ⟨h1, h2⟩ := h
    simp only [kb_ok]
    rw [if_pos (show ds.length ≤ SZ from h1)]
    unfold wp at *
    cases e2 : lcLoop (lcStep c tg cs elt ρ) ds M1 with
    | ok zs M2 => rw [e2] at h2; exact h2
    | exc k v M2 => rw [e2] at h2; exact h2
    | stuck => rw [e2] at h2; exact h2
end RCs

set_option Elab.async false
set_option linter.all false
set_option autoImplicit false
set_option maxRecDepth 100000
set_option maxHeartbeats 4000000
namespace RC
def Pf : List (Nat × Fn) := [(0, fn0), (1, fn1), (2, fn2), (3, fn3), (4, fn4), (5, fn5), (10, fn10), (11, fn11), (25, fn25), (26, fn26), (27, fn27), (28, fn28), (29, fn29), (35, fn35), (38, fn38), (39, fn39), (40, fn40), (42, fn42), (43, fn43), (44, fn44), (45, fn45), (50, fn50), (51, fn51), (52, fn52), (53, fn53), (54, fn54), (55, fn55), (56, fn56), (58, fn58), (59, fn59), (60, fn60), (70, fn70), (78, fn78), (117, fn117), (118, fn118), (119, fn119), (120, fn120), (121, fn121), (129, fn129), (130, fn130), (138, fn138), (139, fn139), (141, fn141), (152, fn152), (153, fn153), (154, fn154), (155, fn155), (156, fn156), (157, fn157), (158, fn158), (159, fn159), (160, fn160), (161, fn161), (162, fn162), (163, fn163)]
def Pg : List (Nat × D) := [(0, (.int 4)), (1, (.str [97, 65, 98, 66, 99, 67, 100, 68])), (2, (.int 100)), (3, (.str [97, 98, 99, 100])), (5, (.int 4)), (6, (.int 60))]
def P : Prg := ⟨fun i => RCs.fnAt i Pf, fun i => RCs.glAt i Pg, isaC, fldC, rpD, 100000⟩
theorem T0 : P.T 0 = some fn0 := rfl
theorem T1 : P.T 1 = some fn1 := rfl
theorem T2 : P.T 2 = some fn2 := rfl
theorem T3 : P.T 3 = some fn3 := rfl
theorem T4 : P.T 4 = some fn4 := rfl
theorem T5 : P.T 5 = some fn5 := rfl
theorem T10 : P.T 10 = some fn10 := rfl
theorem T11 : P.T 11 = some fn11 := rfl
theorem T25 : P.T 25 = some fn25 := rfl
theorem T26 : P.T 26 = some fn26 := rfl
theorem T27 : P.T 27 = some fn27 := rfl
theorem T28 : P.T 28 = some fn28 := rfl
theorem T29 : P.T 29 = some fn29 := rfl
theorem T35 : P.T 35 = some fn35 := rfl
theorem T38 : P.T 38 = some fn38 := rfl
theorem T39 : P.T 39 = some fn39 := rfl
theorem T40 : P.T 40 = some fn40 := rfl
theorem T42 : P.T 42 = some fn42 := rfl
theorem T43 : P.T 43 = some fn43 := rfl
theorem T44 : P.T 44 = some fn44 := rfl
theorem T45 : P.T 45 = some fn45 := rfl
theorem T50 : P.T 50 = some fn50 := rfl
theorem T51 : P.T 51 = some fn51 := rfl
theorem T52 : P.T 52 = some fn52 := rfl
theorem T53 : P.T 53 = some fn53 := rfl
theorem T54 : P.T 54 = some fn54 := rfl
theorem T55 : P.T 55 = some fn55 := rfl
theorem T56 : P.T 56 = some fn56 := rfl
theorem T58 : P.T 58 = some fn58 := rfl
theorem T59 : P.T 59 = some fn59 := rfl
theorem T60 : P.T 60 = some fn60 := rfl
theorem T70 : P.T 70 = some fn70 := rfl
theorem T78 : P.T 78 = some fn78 := rfl
theorem T117 : P.T 117 = some fn117 := rfl
theorem T118 : P.T 118 = some fn118 := rfl
theorem T119 : P.T 119 = some fn119 := rfl
theorem T120 : P.T 120 = some fn120 := rfl
theorem T121 : P.T 121 = some fn121 := rfl
theorem T129 : P.T 129 = some fn129 := rfl
theorem T130 : P.T 130 = some fn130 := rfl
theorem T138 : P.T 138 = some fn138 := rfl
theorem T139 : P.T 139 = some fn139 := rfl
theorem T141 : P.T 141 = some fn141 := rfl
theorem T152 : P.T 152 = some fn152 := rfl
theorem T153 : P.T 153 = some fn153 := rfl
theorem T154 : P.T 154 = some fn154 := rfl
theorem T155 : P.T 155 = some fn155 := rfl
theorem T156 : P.T 156 = some fn156 := rfl
theorem T157 : P.T 157 = some fn157 := rfl
theorem T158 : P.T 158 = some fn158 := rfl
theorem T159 : P.T 159 = some fn159 := rfl
theorem T160 : P.T 160 = some fn160 := rfl
theorem T161 : P.T 161 = some fn161 := rfl
theorem T162 : P.T 162 = some fn162 := rfl
theorem T163 : P.T 163 = some fn163 := rfl
theorem C0 {k : Nat} {a0 : D} {M : Store} (hk : 1 ≤ k) : callF P k 0 [a0] M = (exs (P.cfg (k - 1)) b0 [some (.v a0)] M).end_ := RCs.call_of T0 rfl hk
theorem C1 {k : Nat} {a0 : D} {M : Store} (hk : 1 ≤ k) : callF P k 1 [a0] M = (exs (P.cfg (k - 1)) b1 [some (.v a0)] M).end_ := RCs.call_of T1 rfl hk
theorem C2 {k : Nat} {a0 : D} {M : Store} (hk : 1 ≤ k) : callF P k 2 [a0] M = (exs (P.cfg (k - 1)) b2 [some (.v a0)] M).end_ := RCs.call_of T2 rfl hk
theorem C3 {k : Nat} {a0 : D} {M : Store} (hk : 1 ≤ k) : callF P k 3 [a0] M = (exs (P.cfg (k - 1)) b3 [some (.v a0)] M).end_ := RCs.call_of T3 rfl hk
theorem C4 {k : Nat} {a0 a1 : D} {M : Store} (hk : 1 ≤ k) : callF P k 4 [a0, a1] M = (exs (P.cfg (k - 1)) b4 [some (.v a0), some (.v a1), none] M).end_ := RCs.call_of T4 rfl hk
theorem C5 {k : Nat} {a0 a1 : D} {M : Store} (hk : 1 ≤ k) : callF P k 5 [a0, a1] M = (exs (P.cfg (k - 1)) b5 [some (.v a0), some (.v a1), none, none] M).end_ := RCs.call_of T5 rfl hk
theorem C10 {k : Nat} {a0 a1 : D} {M : Store} (hk : 1 ≤ k) : callF P k 10 [a0, a1] M = (exs (P.cfg (k - 1)) b10 [some (.v a0), some (.v a1), none, none] M).end_ := RCs.call_of T10 rfl hk
theorem C11 {k : Nat} {a0 a1 : D} {M : Store} (hk : 1 ≤ k) : callF P k 11 [a0, a1] M = (exs (P.cfg (k - 1)) b11 [some (.v a0), some (.v a1), none, none] M).end_ := RCs.call_of T11 rfl hk
theorem C25 {k : Nat} {a0 a1 : D} {M : Store} (hk : 1 ≤ k) : callF P k 25 [a0, a1] M = (exs (P.cfg (k - 1)) b25 [some (.v a0), some (.v a1), none] M).end_ := RCs.call_of T25 rfl hk
theorem C26 {k : Nat} {a0 a1 : D} {M : Store} (hk : 1 ≤ k) : callF P k 26 [a0, a1] M = (exs (P.cfg (k - 1)) b26 [some (.v a0), some (.v a1), none, none, none] M).end_ := RCs.call_of T26 rfl hk
theorem C27 {k : Nat} {a0 : D} {M : Store} (hk : 1 ≤ k) : callF P k 27 [a0] M = (exs (P.cfg (k - 1)) b27 [some (.v a0)] M).end_ := RCs.call_of T27 rfl hk
theorem C28 {k : Nat} {a0 : D} {M : Store} (hk : 1 ≤ k) : callF P k 28 [a0] M = (exs (P.cfg (k - 1)) b28 [some (.v a0)] M).end_ := RCs.call_of T28 rfl hk
theorem C29 {k : Nat} {a0 a1 a2 : D} {M : Store} (hk : 1 ≤ k) : callF P k 29 [a0, a1, a2] M = (exs (P.cfg (k - 1)) b29 [some (.v a0), some (.v a1), some (.v a2), none, none, none, none] M).end_ := RCs.call_of T29 rfl hk
theorem C35 {k : Nat} {a0 : D} {M : Store} (hk : 1 ≤ k) : callF P k 35 [a0] M = (exs (P.cfg (k - 1)) b35 [some (.v a0), none, none] M).end_ := RCs.call_of T35 rfl hk
theorem C38 {k : Nat} {a0 : D} {M : Store} (hk : 1 ≤ k) : callF P k 38 [a0] M = (exs (P.cfg (k - 1)) b38 [some (.v a0), none, none] M).end_ := RCs.call_of T38 rfl hk
theorem C39 {k : Nat} {a0 : D} {M : Store} (hk : 1 ≤ k) : callF P k 39 [a0] M = (exs (P.cfg (k - 1)) b39 [some (.v a0), none] M).end_ := RCs.call_of T39 rfl hk
theorem C40 {k : Nat} {a0 : D} {M : Store} (hk : 1 ≤ k) : callF P k 40 [a0] M = (exs (P.cfg (k - 1)) b40 [some (.v a0), none, none] M).end_ := RCs.call_of T40 rfl hk
theorem C42 {k : Nat} {a0 : D} {M : Store} (hk : 1 ≤ k) : callF P k 42 [a0] M = (exs (P.cfg (k - 1)) b42 [some (.v a0), none] M).end_ := RCs.call_of T42 rfl hk
theorem C43 {k : Nat} {a0 : D} {M : Store} (hk : 1 ≤ k) : callF P k 43 [a0] M = (exs (P.cfg (k - 1)) b43 [some (.v a0), none] M).end_ := RCs.call_of T43 rfl hk
theorem C44 {k : Nat} {a0 : D} {M : Store} (hk : 1 ≤ k) : callF P k 44 [a0] M = (exs (P.cfg (k - 1)) b44 [some (.v a0), none, none, none] M).end_ := RCs.call_of T44 rfl hk
theorem C45 {k : Nat} {a0 a1 : D} {M : Store} (hk : 1 ≤ k) : callF P k 45 [a0, a1] M = (exs (P.cfg (k - 1)) b45 [some (.v a0), some (.v a1)] M).end_ := RCs.call_of T45 rfl hk
theorem C50 {k : Nat} {a0 a1 : D} {M : Store} (hk : 1 ≤ k) : callF P k 50 [a0, a1] M = (exs (P.cfg (k - 1)) b50 [some (.v a0), some (.v a1)] M).end_ := RCs.call_of T50 rfl hk
theorem C51 {k : Nat} {a0 a1 : D} {M : Store} (hk : 1 ≤ k) : callF P k 51 [a0, a1] M = (exs (P.cfg (k - 1)) b51 [some (.v a0), some (.v a1)] M).end_ := RCs.call_of T51 rfl hk
theorem C52 {k : Nat} {a0 : D} {M : Store} (hk : 1 ≤ k) : callF P k 52 [a0] M = (exs (P.cfg (k - 1)) b52 [some (.v a0), none] M).end_ := RCs.call_of T52 rfl hk
theorem C53 {k : Nat} {a0 a1 : D} {M : Store} (hk : 1 ≤ k) : callF P k 53 [a0, a1] M = (exs (P.cfg (k - 1)) b53 [some (.v a0), some (.v a1), none] M).end_ := RCs.call_of T53 rfl hk
theorem C54 {k : Nat} {a0 a1 : D} {M : Store} (hk : 1 ≤ k) : callF P k 54 [a0, a1] M = (exs (P.cfg (k - 1)) b54 [some (.v a0), some (.v a1)] M).end_ := RCs.call_of T54 rfl hk
theorem C55 {k : Nat} {a0 : D} {M : Store} (hk : 1 ≤ k) : callF P k 55 [a0] M = (exs (P.cfg (k - 1)) b55 [some (.v a0), none, none, none, none, none] M).end_ := RCs.call_of T55 rfl hk
theorem C56 {k : Nat} {a0 a1 : D} {M : Store} (hk : 1 ≤ k) : callF P k 56 [a0, a1] M = (exs (P.cfg (k - 1)) b56 [some (.v a0), some (.v a1), none, none, none] M).end_ := RCs.call_of T56 rfl hk
theorem C58 {k : Nat} {a0 a1 a2 : D} {M : Store} (hk : 1 ≤ k) : callF P k 58 [a0, a1, a2] M = (exs (P.cfg (k - 1)) b58 [some (.v a0), some (.v a1), some (.v a2)] M).end_ := RCs.call_of T58 rfl hk
theorem C59 {k : Nat} {a0 a1 a2 a3 : D} {M : Store} (hk : 1 ≤ k) : callF P k 59 [a0, a1, a2, a3] M = (exs (P.cfg (k - 1)) b59 [some (.v a0), some (.v a1), some (.v a2), some (.v a3), none, none, none] M).end_ := RCs.call_of T59 rfl hk
theorem C60 {k : Nat} {a0 a1 a2 : D} {M : Store} (hk : 1 ≤ k) : callF P k 60 [a0, a1, a2] M = (exs (P.cfg (k - 1)) b60 [some (.v a0), some (.v a1), some (.v a2)] M).end_ := RCs.call_of T60 rfl hk
theorem C70 {k : Nat} {a0 : D} {M : Store} (hk : 1 ≤ k) : callF P k 70 [a0] M = (exs (P.cfg (k - 1)) b70 [some (.v a0), none] M).end_ := RCs.call_of T70 rfl hk
theorem C78 {k : Nat} {a0 a1 : D} {M : Store} (hk : 1 ≤ k) : callF P k 78 [a0, a1] M = (exs (P.cfg (k - 1)) b78 [some (.v a0), some (.v a1), none, none, none] M).end_ := RCs.call_of T78 rfl hk
theorem C117 {k : Nat} {a0 : D} {M : Store} (hk : 1 ≤ k) : callF P k 117 [a0] M = (exs (P.cfg (k - 1)) b117 [some (.v a0), none] M).end_ := RCs.call_of T117 rfl hk
theorem C118 {k : Nat} {a0 a1 : D} {M : Store} (hk : 1 ≤ k) : callF P k 118 [a0, a1] M = (exs (P.cfg (k - 1)) b118 [some (.v a0), some (.v a1), none] M).end_ := RCs.call_of T118 rfl hk
theorem C119 {k : Nat} {a0 a1 : D} {M : Store} (hk : 1 ≤ k) : callF P k 119 [a0, a1] M = (exs (P.cfg (k - 1)) b119 [some (.v a0), some (.v a1), none, none] M).end_ := RCs.call_of T119 rfl hk
theorem C120 {k : Nat} {a0 a1 : D} {M : Store} (hk : 1 ≤ k) : callF P k 120 [a0, a1] M = (exs (P.cfg (k - 1)) b120 [some (.v a0), some (.v a1), none, none] M).end_ := RCs.call_of T120 rfl hk
theorem C121 {k : Nat} {a0 a1 : D} {M : Store} (hk : 1 ≤ k) : callF P k 121 [a0, a1] M = (exs (P.cfg (k - 1)) b121 [some (.v a0), some (.v a1)] M).end_ := RCs.call_of T121 rfl hk
theorem C129 {k : Nat} {a0 a1 : D} {M : Store} (hk : 1 ≤ k) : callF P k 129 [a0, a1] M = (exs (P.cfg (k - 1)) b129 [some (.v a0), some (.v a1), none, none, none, none, none, none, none] M).end_ := RCs.call_of T129 rfl hk
theorem C130 {k : Nat} {a0 a1 : D} {M : Store} (hk : 1 ≤ k) : callF P k 130 [a0, a1] M = (exs (P.cfg (k - 1)) b130 [some (.v a0), some (.v a1), none] M).end_ := RCs.call_of T130 rfl hk
theorem C138 {k : Nat} {a0 a1 : D} {M : Store} (hk : 1 ≤ k) : callF P k 138 [a0, a1] M = (exs (P.cfg (k - 1)) b138 [some (.v a0), some (.v a1)] M).end_ := RCs.call_of T138 rfl hk
theorem C139 {k : Nat} {a0 a1 : D} {M : Store} (hk : 1 ≤ k) : callF P k 139 [a0, a1] M = (exs (P.cfg (k - 1)) b139 [some (.v a0), some (.v a1), none, none, none, none, none, none] M).end_ := RCs.call_of T139 rfl hk
theorem C141 {k : Nat} {a0 a1 : D} {M : Store} (hk : 1 ≤ k) : callF P k 141 [a0, a1] M = (exs (P.cfg (k - 1)) b141 [some (.v a0), some (.v a1), none, none] M).end_ := RCs.call_of T141 rfl hk
theorem C152 {k : Nat} {a0 a1 a2 : D} {M : Store} (hk : 1 ≤ k) : callF P k 152 [a0, a1, a2] M = (exs (P.cfg (k - 1)) b152 [some (.v a0), some (.v a1), some (.v a2), none, none] M).end_ := RCs.call_of T152 rfl hk
theorem C153 {k : Nat} {a0 : D} {M : Store} (hk : 1 ≤ k) : callF P k 153 [a0] M = (exs (P.cfg (k - 1)) b153 [some (.v a0)] M).end_ := RCs.call_of T153 rfl hk
theorem C154 {k : Nat} {a0 a1 a2 : D} {M : Store} (hk : 1 ≤ k) : callF P k 154 [a0, a1, a2] M = (exs (P.cfg (k - 1)) b154 [some (.v a0), some (.v a1), some (.v a2), none] M).end_ := RCs.call_of T154 rfl hk
theorem C155 {k : Nat} {a0 a1 : D} {M : Store} (hk : 1 ≤ k) : callF P k 155 [a0, a1] M = (exs (P.cfg (k - 1)) b155 [some (.v a0), some (.v a1), none, none, none] M).end_ := RCs.call_of T155 rfl hk
theorem C156 {k : Nat} {a0 a1 : D} {M : Store} (hk : 1 ≤ k) : callF P k 156 [a0, a1] M = (exs (P.cfg (k - 1)) b156 [some (.v a0), some (.v a1)] M).end_ := RCs.call_of T156 rfl hk
theorem C157 {k : Nat} {a0 a1 : D} {M : Store} (hk : 1 ≤ k) : callF P k 157 [a0, a1] M = (exs (P.cfg (k - 1)) b157 [some (.v a0), some (.v a1), none] M).end_ := RCs.call_of T157 rfl hk
theorem C158 {k : Nat} {a0 a1 a2 : D} {M : Store} (hk : 1 ≤ k) : callF P k 158 [a0, a1, a2] M = (exs (P.cfg (k - 1)) b158 [some (.v a0), some (.v a1), some (.v a2)] M).end_ := RCs.call_of T158 rfl hk
theorem C159 {k : Nat} {a0 a1 a2 : D} {M : Store} (hk : 1 ≤ k) : callF P k 159 [a0, a1, a2] M = (exs (P.cfg (k - 1)) b159 [some (.v a0), some (.v a1), some (.v a2)] M).end_ := RCs.call_of T159 rfl hk
theorem C160 {k : Nat} {a0 : D} {M : Store} (hk : 1 ≤ k) : callF P k 160 [a0] M = (exs (P.cfg (k - 1)) b160 [some (.v a0), none, none, none] M).end_ := RCs.call_of T160 rfl hk
theorem C161 {k : Nat} {a0 : D} {M : Store} (hk : 1 ≤ k) : callF P k 161 [a0] M = (exs (P.cfg (k - 1)) b161 [some (.v a0), none, none, none, none, none, none] M).end_ := RCs.call_of T161 rfl hk
theorem C162 {k : Nat} {a0 a1 a2 : D} {M : Store} (hk : 1 ≤ k) : callF P k 162 [a0, a1, a2] M = (exs (P.cfg (k - 1)) b162 [some (.v a0), some (.v a1), some (.v a2), none, none, none, none, none, none, none] M).end_ := RCs.call_of T162 rfl hk
theorem C163 {k : Nat} {a0 : D} {M : Store} (hk : 1 ≤ k) : callF P k 163 [a0] M = (exs (P.cfg (k - 1)) b163 [some (.v a0), none, none, none, none, none] M).end_ := RCs.call_of T163 rfl hk
theorem G0 : P.G 0 = some (.int 4) := rfl
theorem G1 : P.G 1 = some (.str [97, 65, 98, 66, 99, 67, 100, 68]) := rfl
theorem G2 : P.G 2 = some (.int 100) := rfl
theorem G3 : P.G 3 = some (.str [97, 98, 99, 100]) := rfl
theorem G5 : P.G 5 = some (.int 4) := rfl
theorem G6 : P.G 6 = some (.int 60) := rfl
theorem P_lf : P.lf = 100000 := rfl
theorem P_rp : P.rp = rpD := rfl
theorem P_isa : P.isa = isaC := rfl
@[simp] theorem P_fld : P.fld = fldC := rfl
end RC

set_option Elab.async false
set_option linter.all false
set_option autoImplicit false
set_option maxRecDepth 100000
set_option maxHeartbeats 2000000
namespace RC
open RCs
/-- ASCII letters of a rank -/
def alph (r : Nat) : List Nat := [97, 65, 98, 66, 99, 67, 100, 68].take (2 * r)
/-- _law_next's state: its count is at most n -/
def Sr (n : Nat) (ns : List Int) : Prop := ∃ a b c : Int, ns = [a, b, c] ∧ 0 ≤ b ∧ b ≤ n
theorem Sr.mono {n m : Nat} {ns : List Int} (h : Sr n ns) (hm : n ≤ m) : Sr m ns := by
  obtain ⟨a, b, c, e, h1, h2⟩ := h
  exact ⟨a, b, c, e, h1, by omega⟩
theorem next_ok {k n p : Nat} {ns : List Int} {m : Int} {M : Store} (hk : 1 ≤ k) (hp : M[p]? = some ns) (hs : Sr n ns) (hn : n < 1000000) (m0 : 0 < m) (m1 : m < 1000000) :
    ∃ v ns', callF P k 26 [.ref p, .int m] M = .ok (.int v) (M.set p ns') ∧ 0 ≤ v ∧ v < m ∧ Sr (n + 1) ns' := by
  obtain ⟨a, b, c, rfl, hb0, hb1⟩ := hs
  have hpl : p < M.length := (List.getElem?_eq_some_iff.mp hp).1
  rw [C26 hk]
  by_cases hc : 0 < c
  · refine ⟨c % m, [a, b, c / m], ?_, Int.emod_nonneg _ (by omega), Int.emod_lt_of_pos _ m0, a, b, c / m, rfl, hb0, by omega⟩
    have hm : m.natAbs < 18446744073709551616 := by omega
    simp [b26, hp, atF, ixN, hc, m0, hm]
  · obtain ⟨q, hq⟩ : ∃ q : Int, 0 < q ∧ q < 2147483648 ∧ atF ([D.int 2147483647, .int 2147483629, .int 2147483587, .int 2147483579, .int 2147483563, .int 2147483549, .int 2147483543, .int 2147483497, .int 2147483489, .int 2147483477, .int 2147483423]) ((b + 1) % 11) = some (.int q) := by
      have h1 : 0 ≤ (b + 1) % 11 := Int.emod_nonneg _ (by omega)
      have h2 : (b + 1) % 11 < 11 := Int.emod_lt_of_pos _ (by omega)
      generalize (b + 1) % 11 = z at h1 h2
      have : z = 0 ∨ z = 1 ∨ z = 2 ∨ z = 3 ∨ z = 4 ∨ z = 5 ∨ z = 6 ∨ z = 7 ∨ z = 8 ∨ z = 9 ∨ z = 10 := by omega
      rcases this with rfl | rfl | rfl | rfl | rfl | rfl | rfl | rfl | rfl | rfl | rfl <;> exact ⟨_, by decide, by decide, rfl⟩
    obtain ⟨hq0, hq1, hq2⟩ := hq
    have hx0 : 0 ≤ a % q := Int.emod_nonneg _ (by omega)
    have hx1 : a % q < q := Int.emod_lt_of_pos _ hq0
    refine ⟨(a % q + 7919 * (b + 1) + 1) ^ 5 % q / 13 % m, [a, b + 1, c], ?_, Int.emod_nonneg _ (by omega), Int.emod_lt_of_pos _ m0, a, b + 1, c, rfl, by omega, by omega⟩
    have e1 : (a % q + 7919 * (b + 1) + 1).natAbs < 18446744073709551616 := by omega
    have e2 : (b + 1).natAbs < 18446744073709551616 := by omega
    have hset : ∀ x : List Int, (M.set p x)[p]? = some x := fun x => List.getElem?_set_self hpl
    simp [b26, hp, hset, atF, ixN, hc, m0, powF, mulF, e1, e2, hq0] at hq2 ⊢
    rw [hq2]
    simp [hset, atF, ixN, m0, powF, mulF, e1, e2, hq0]
theorem plain_ints (n : Nat) (ns : List Int) : plainAll n (ns.map D.int) = true := pl_map fun i _ => pl_int
theorem source_ok {k : Nat} {ns : List Int} {j : Int} {M : Store} (hk : 1 ≤ k) (hj : 0 ≤ j) (hj2 : j < 1000000) :
    ∃ s, callF P k 25 [.lst (ns.map .int), .int j] M = .ok (.ref M.length) (M ++ [s]) ∧ Sr (3 * j.toNat) s := by
  rw [C25 hk]
  have hx : ∃ c : Int, ev (P.cfg (k - 1)) (.ife (.cmp .ne (.var 0) (.lst .nil)) (.sub (.var 0) (.bin .mod (.var 1) (.bi .len (.cons (.var 0) .nil)))) (.cst (.int 1))) [some (.v (.lst (ns.map .int))), some (.v (.int j)), none] M = .ok (.int c) M := by
    cases ns with
    | nil => exact ⟨1, by simp⟩
    | cons n ns =>
      obtain ⟨x, hx, hx2⟩ := atF_at (xs := (n :: ns).map D.int) (i := j % ((n :: ns).length : Int)) (Int.emod_nonneg _ (by simp <;> omega)) (by have := Int.emod_lt_of_pos j (b := ((n :: ns).length : Int)) (by simp <;> omega); simpa using this)
      rw [List.getElem?_map] at hx2
      cases z : (n :: ns)[(j % ((n :: ns).length : Int)).toNat]? with
      | none => rw [z] at hx2; cases hx2
      | some c =>
        rw [z] at hx2
        cases hx2
        refine ⟨c, ?_⟩
        have hp := plain_ints 39 ns
        have hl : 0 < ((n :: ns).length : Int) := by simp <;> omega
        have hl2 : 0 < (ns.length : Int) + 1 := by omega
        simp only [List.map_cons, List.length_cons, List.length_map] at hx hl
        simp [hp, hl2]
        have e : ((ns.length + 1 : Nat) : Int) = (ns.length : Int) + 1 := by omega
        rw [e] at hx
        rw [hx]; rfl
  obtain ⟨c, hc⟩ := hx
  refine ⟨[c, 3 * j, if c ≥ 10 ^ 18 then c / 10 ^ 18 else 0], ?_, _, _, _, rfl, by omega, by omega⟩
  rw [b25, xs_cons, x_set, hc]
  by_cases h : c ≥ 10 ^ 18
  · have h' : (1000000000000000000 : Int) ≤ c := by simpa using h
    simp [mulF, powF, allI, h']
  · have h' : ¬ (1000000000000000000 : Int) ≤ c := by simpa using h
    simp [mulF, powF, allI, h']
/-! ### letters -/
/-- a letter's other case -/
def oth (c : Nat) : Nat := if isLow c then upC c else loC c
theorem alphabet_ok {k r : Nat} {M : Store} (hk : 1 ≤ k) (hr : r ≤ 4) : callF P k 27 [.int r] M = .ok (.str (alph r)) M := by
  rw [C27 hk]
  have : r = 0 ∨ r = 1 ∨ r = 2 ∨ r = 3 ∨ r = 4 := by omega
  rcases this with rfl | rfl | rfl | rfl | rfl <;> simp [b27, mulF, slcL, cutL, clipO, clip, alph]
theorem alph_ascii {r c : Nat} (h : c ∈ alph r) : c < 128 := by
  have h1 := List.mem_of_mem_take h
  simp at h1
  omega
theorem other_ok {k c : Nat} {M : Store} (hk : 1 ≤ k) (hc : c < 128) : callF P k 28 [.str [c]] M = .ok (.str [oth c]) M := by
  rw [C28 hk]
  by_cases h : isLow c = true
  · have h2 : isUp c = false := by
      simp [isLow] at h
      simp [isUp]
      omega
    simp [b28, mtF, ascii, hc, h, h2, oth]
  · have h1 : isLow c = false := by simpa using h
    simp [b28, mtF, ascii, hc, h1, oth]
end RC

set_option Elab.async false
set_option linter.all false
set_option autoImplicit false
set_option maxRecDepth 100000
set_option maxHeartbeats 2000000
namespace RC
open RCs
/-- no letter behind its inverse -/
def Red : List Nat → Prop
  | [] => True
  | [_] => True
  | x :: y :: r => y ≠ oth x ∧ Red (y :: r)
def Wd (r : Nat) (w : List Nat) : Prop := (∀ c ∈ w, c ∈ alph r) ∧ Red w
theorem red_snoc : ∀ {w : List Nat} {c : Nat}, Red w → (∀ x, w.getLast? = some x → c ≠ oth x) → Red (w ++ [c])
  | [], c, _, _ => trivial
  | [x], c, _, h => ⟨h x rfl, trivial⟩
  | x :: y :: r, c, ⟨h1, h2⟩, h => ⟨h1, red_snoc (w := y :: r) h2 fun z hz => h z (by simpa using hz)⟩
/-- the letters that may stand behind w -/
def nexts (r : Nat) (w : List Nat) : List Nat := (alph r).filter fun c => decide (w = []) || (match w.getLast? with | some x => decide (c ≠ oth x) | none => true)
theorem nexts_ne {r : Nat} {w : List Nat} (hr : 2 ≤ r) : nexts r w ≠ [] := by
  have h1 : 97 ∈ alph r := by
    unfold alph
    obtain ⟨m, rfl⟩ : ∃ m, r = m + 1 := ⟨r - 1, by omega⟩
    simp [Nat.mul_add]
  have h2 : 65 ∈ alph r := by
    unfold alph
    obtain ⟨m, rfl⟩ : ∃ m, r = m + 1 := ⟨r - 1, by omega⟩
    simp [Nat.mul_add]
  intro e
  have n1 : 97 ∉ nexts r w := by rw [e]; simp
  have n2 : 65 ∉ nexts r w := by rw [e]; simp
  unfold nexts at n1 n2
  simp only [List.mem_filter, not_and, Bool.not_eq_true] at n1 n2
  have a1 := n1 h1
  have a2 := n2 h2
  cases z : w.getLast? with
  | none => rw [z] at a1; simp at a1
  | some x =>
    rw [z] at a1 a2
    simp at a1 a2
    omega
theorem nexts_len {r : Nat} {w : List Nat} : (nexts r w).length ≤ 8 := by
  have h1 : (nexts r w).length ≤ (alph r).length := List.length_filter_le _ _
  have h2 : (alph r).length ≤ 8 := by unfold alph; simp [List.length_take]; omega
  omega
theorem nexts_mem {r c : Nat} {w : List Nat} (h : c ∈ nexts r w) : c ∈ alph r ∧ ∀ x, w.getLast? = some x → c ≠ oth x := by
  unfold nexts at h
  obtain ⟨h1, h2⟩ := List.mem_filter.mp h
  refine ⟨h1, fun x hx => ?_⟩
  have hne : w ≠ [] := fun e => by rw [e] at hx; cases hx
  rw [hx] at h2
  simpa [hne] using h2
/-- the inverse of a text -/
def inv (w : List Nat) : List Nat := w.reverse.map swC
/-- w is a word of the rank, as the package tells it -/
def isW (r : Nat) (w : List Nat) : Bool := (w.all fun c => decide (c ∈ alph r)) && decide (w.length ≤ 100) && (w.zip (w.drop 1)).all fun p => !decide (p.1 = swC p.2)
theorem alph_cases {r c : Nat} (hr : r ≤ 4) (h : c ∈ alph r) : c = 97 ∨ c = 65 ∨ c = 98 ∨ c = 66 ∨ c = 99 ∨ c = 67 ∨ c = 100 ∨ c = 68 := by
  have h1 := List.mem_of_mem_take h
  simpa using h1
theorem sw_oth {r c : Nat} (hr : r ≤ 4) (h : c ∈ alph r) : swC c = oth c := by
  rcases alph_cases hr h with rfl | rfl | rfl | rfl | rfl | rfl | rfl | rfl <;> decide
theorem oth_oth {r c : Nat} (hr : r ≤ 4) (h : c ∈ alph r) : oth (oth c) = c := by
  rcases alph_cases hr h with rfl | rfl | rfl | rfl | rfl | rfl | rfl | rfl <;> decide
theorem oth_mem {r c : Nat} (hr : r ≤ 4) (h : c ∈ alph r) : oth c ∈ alph r := by
  have hc := alph_cases hr h
  have : r = 0 ∨ r = 1 ∨ r = 2 ∨ r = 3 ∨ r = 4 := by omega
  revert h
  rcases this with rfl | rfl | rfl | rfl | rfl <;> rcases hc with rfl | rfl | rfl | rfl | rfl | rfl | rfl | rfl <;> decide
theorem red_zip : ∀ {w : List Nat}, Red w ↔ ∀ p ∈ w.zip w.tail, p.2 ≠ oth p.1
  | [] => by simp [Red]
  | [x] => by simp [Red]
  | x :: y :: r => by
    have ih := red_zip (w := y :: r)
    simp only [Red, List.tail_cons, List.zip_cons_cons, List.mem_cons, forall_eq_or_imp]
    rw [ih]
    simp
theorem isW_iff {r : Nat} {w : List Nat} (hr : r ≤ 4) : isW r w = true ↔ Wd r w ∧ w.length ≤ 100 := by
  unfold isW Wd
  simp only [Bool.and_eq_true, List.all_eq_true, decide_eq_true_eq, List.drop_one, Bool.not_eq_true', decide_eq_false_iff_not]
  rw [red_zip]
  constructor
  · rintro ⟨⟨h1, h2⟩, h3⟩
    refine ⟨⟨h1, fun p hp e => h3 p hp ?_⟩, h2⟩
    have m1 := h1 p.1 (List.of_mem_zip hp).1
    rw [e, sw_oth hr (oth_mem hr m1), oth_oth hr m1]
  · rintro ⟨⟨h1, h3⟩, h2⟩
    refine ⟨⟨h1, h2⟩, fun p hp e => h3 p hp ?_⟩
    have m2 := h1 p.2 (List.mem_of_mem_tail (List.of_mem_zip hp).2)
    rw [e, sw_oth hr m2, oth_oth hr m2]
/-- how far two texts agree -/
def lcp : List Nat → List Nat → Nat
  | x :: xs, y :: ys => if x = y then lcp xs ys + 1 else 0
  | _, _ => 0
theorem lcp_le : ∀ (a b : List Nat), lcp a b ≤ a.length ∧ lcp a b ≤ b.length
  | [], _ => by simp [lcp]
  | _ :: _, [] => by simp [lcp]
  | x :: a, y :: b => by
    have := lcp_le a b
    rw [lcp]
    split <;> simp <;> omega
theorem lcp_take : ∀ (a b : List Nat), a.take (lcp a b) = b.take (lcp a b)
  | [], _ => by simp [lcp]
  | _ :: _, [] => by simp [lcp]
  | x :: a, y :: b => by
    rw [lcp]
    split
    · rename_i h
      subst h
      simp [lcp_take a b]
    · simp
theorem lcp_at : ∀ (a b : List Nat) (i : Nat), i < lcp a b → a[i]? = b[i]?
  | [], _, _, h => by simp [lcp] at h
  | _ :: _, [], _, h => by simp [lcp] at h
  | x :: a, y :: b, i, h => by
    rw [lcp] at h
    split at h
    · rename_i e
      subst e
      cases i with
      | zero => rfl
      | succ i => simpa using lcp_at a b i (by omega)
    · omega
theorem lcp_end : ∀ (a b : List Nat) (x y : Nat), a[lcp a b]? = some x → b[lcp a b]? = some y → x ≠ y
  | [], _, _, _, h, _ => by simp [lcp] at h
  | _ :: _, [], _, _, _, h => by simp [lcp] at h
  | u :: a, v :: b, x, y, h1, h2 => by
    rw [lcp] at h1 h2
    split at h1
    · rename_i e
      rw [if_pos e] at h2
      exact lcp_end a b x y (by simpa using h1) (by simpa using h2)
    · rename_i e
      rw [if_neg e] at h2
      simp at h1 h2
      subst h1 h2
      exact e
/-- the reduced product of two reduced texts -/
def jn (a b : List Nat) : List Nat := a.take (a.length - lcp (inv a) b) ++ b.drop (lcp (inv a) b)
theorem inv_len (w : List Nat) : (inv w).length = w.length := by simp [inv]
theorem swC_lt {c : Nat} (h : c < 128) : swC c < 128 := by
  unfold swC
  split
  · omega
  · split
    · rename_i h1
      simp [isUp] at h1
      omega
    · omega
theorem inv_ascii {w : List Nat} (h : ∀ c ∈ w, c < 128) : ∀ c ∈ inv w, c < 128 := by
  intro c hc
  unfold inv at hc
  obtain ⟨x, hx, rfl⟩ := List.mem_map.mp hc
  exact swC_lt (h x (List.mem_reverse.mp hx))
theorem jn_mem {a b : List Nat} {c : Nat} (h : c ∈ jn a b) : c ∈ a ∨ c ∈ b := by
  unfold jn at h
  rcases List.mem_append.mp h with q | q
  · exact .inl (List.mem_of_mem_take q)
  · exact .inr (List.mem_of_mem_drop q)
theorem jn_len (a b : List Nat) : (jn a b).length ≤ a.length + b.length := by
  unfold jn
  simp [List.length_take, List.length_drop]
  omega
theorem red_take : ∀ {w : List Nat} (n : Nat), Red w → Red (w.take n)
  | [], _, _ => by simp [Red]
  | [x], n, _ => by cases n <;> simp [Red]
  | x :: y :: r, 0, _ => trivial
  | x :: y :: r, 1, _ => trivial
  | x :: y :: r, n + 2, ⟨h1, h2⟩ => ⟨h1, by simpa using red_take (w := y :: r) (n + 1) h2⟩
theorem red_tail : ∀ {x : Nat} {w : List Nat}, Red (x :: w) → Red w
  | _, [], _ => trivial
  | _, _ :: _, h => h.2
theorem red_drop : ∀ {w : List Nat} (n : Nat), Red w → Red (w.drop n)
  | w, 0, h => h
  | [], n + 1, _ => by simp [Red]
  | x :: w, n + 1, h => by simpa using red_drop n (red_tail h)
theorem red_app : ∀ {a b : List Nat}, Red a → Red b → (∀ x y, a.getLast? = some x → b.head? = some y → y ≠ oth x) → Red (a ++ b)
  | [], b, _, hb, _ => hb
  | [x], [], _, _, _ => trivial
  | [x], y :: b, _, hb, h => ⟨h x y rfl rfl, hb⟩
  | x :: y :: a, b, ha, hb, h => ⟨ha.1, red_app (a := y :: a) ha.2 hb fun u v hu hv => h u v (by simpa using hu) hv⟩
theorem take_last {a : List Nat} {n x : Nat} (hn : n ≤ a.length) (h : (a.take n).getLast? = some x) : 0 < n ∧ a[n - 1]? = some x := by
  rw [List.getLast?_eq_getElem?] at h
  have hl : (a.take n).length = n := by simp [List.length_take]; omega
  rw [hl] at h
  have h0 : 0 < n := by
    rcases Nat.eq_zero_or_pos n with z | z
    · subst z; simp at h
    · exact z
  refine ⟨h0, ?_⟩
  rw [List.getElem?_take] at h
  split at h
  · exact h
  · cases h
theorem jn_red {r : Nat} {a b : List Nat} (hr : r ≤ 4) (ha : Wd r a) (hb : Wd r b) : Wd r (jn a b) := by
  refine ⟨fun c hc => (jn_mem hc).elim (ha.1 c) (hb.1 c), ?_⟩
  have hle := lcp_le (inv a) b
  rw [inv_len] at hle
  unfold jn
  refine red_app (red_take _ ha.2) (red_drop _ hb.2) fun x y hx hy e => ?_
  obtain ⟨h0, hx'⟩ := take_last (by omega) hx
  have hy' : b[lcp (inv a) b]? = some y := by
    rw [List.head?_drop] at hy
    exact hy
  have hs : lcp (inv a) b < a.length := by omega
  have hi : (inv a)[lcp (inv a) b]? = some (swC x) := by
    have e1 : (inv a)[lcp (inv a) b]? = (a.reverse[lcp (inv a) b]?).map swC := by
      unfold inv
      rw [List.getElem?_map]
    rw [e1, List.getElem?_reverse hs]
    have e2 : a.length - 1 - lcp (inv a) b = a.length - lcp (inv a) b - 1 := by omega
    rw [e2, hx']; rfl
  have hne := lcp_end (inv a) b _ _ hi hy'
  have hxm := ha.1 x (List.mem_of_getElem? hx')
  rw [sw_oth hr hxm] at hne
  exact hne e.symm
/-- a table of four numbers -/
structure Mat where
  p : Int
  q : Int
  u : Int
  v : Int
def Mat.mul (a b : Mat) : Mat := ⟨a.p * b.p + a.q * b.u, a.p * b.q + a.q * b.v, a.u * b.p + a.v * b.u, a.u * b.q + a.v * b.v⟩
def Mat.one : Mat := ⟨1, 0, 0, 1⟩
def Mat.inv (a : Mat) : Mat := ⟨a.v, 0 - a.q, 0 - a.u, a.p⟩
def Mat.det (a : Mat) : Int := a.p * a.v - a.q * a.u
def mD (m : Mat) : D := .tup [.tup [.int m.p, .int m.q], .tup [.int m.u, .int m.v]]
theorem Mat.ext' {a b : Mat} (h1 : a.p = b.p) (h2 : a.q = b.q) (h3 : a.u = b.u) (h4 : a.v = b.v) : a = b := by
  cases a; cases b; simp_all
theorem Mat.mul_assoc (a b c : Mat) : (a.mul b).mul c = a.mul (b.mul c) := by
  apply Mat.ext' <;> simp only [Mat.mul] <;> simp only [Int.add_mul, Int.mul_add, Int.mul_assoc] <;> omega
theorem Mat.one_mul (a : Mat) : Mat.one.mul a = a := by apply Mat.ext' <;> simp [Mat.mul, Mat.one]
theorem Mat.mul_one (a : Mat) : a.mul Mat.one = a := by apply Mat.ext' <;> simp [Mat.mul, Mat.one]
theorem Mat.inv_inv (a : Mat) : a.inv.inv = a := by apply Mat.ext' <;> simp [Mat.inv]
theorem Mat.mul_inv {a : Mat} (h : a.det = 1) : a.mul a.inv = Mat.one := by
  unfold Mat.det at h
  have e : a.q * a.u = a.u * a.q := Int.mul_comm _ _
  have e2 : a.p * a.q = a.q * a.p := Int.mul_comm _ _
  have e3 : a.u * a.v = a.v * a.u := Int.mul_comm _ _
  have e4 : a.v * a.p = a.p * a.v := Int.mul_comm _ _
  apply Mat.ext' <;> simp only [Mat.mul, Mat.inv, Mat.one, Int.mul_sub, Int.mul_zero] <;> omega
theorem Mat.det_mul (a b : Mat) : (a.mul b).det = a.det * b.det := by
  simp only [Mat.mul, Mat.det]
  grind
theorem Mat.det_inv (a : Mat) : a.inv.det = a.det := by
  simp only [Mat.inv, Mat.det]
  have e1 : a.v * a.p = a.p * a.v := Int.mul_comm _ _
  have e2 : (0 - a.q) * (0 - a.u) = a.q * a.u := by simp [Int.neg_mul_neg]
  omega
/-- the number of a letter -/
def ix (c : Nat) : Nat := loC c - 97
/-- a letter's table -/
def tbl (T : List Mat) (c : Nat) : Mat := if isLow c then T.getD (ix c) Mat.one else (T.getD (ix c) Mat.one).inv
def val (T : List Mat) (w : List Nat) : Mat := w.foldl (fun m c => m.mul (tbl T c)) Mat.one
theorem fold_mul (T : List Mat) : ∀ (w : List Nat) (m : Mat), w.foldl (fun m c => m.mul (tbl T c)) m = m.mul (val T w)
  | [], m => by simp [val, Mat.mul_one]
  | c :: w, m => by
    unfold val
    rw [List.foldl_cons, List.foldl_cons, fold_mul T w, fold_mul T w (Mat.one.mul (tbl T c)), Mat.one_mul, Mat.mul_assoc]
theorem val_app (T : List Mat) (a b : List Nat) : val T (a ++ b) = (val T a).mul (val T b) := by
  rw [val, List.foldl_append, fold_mul]; rfl
theorem val_cons (T : List Mat) (c : Nat) (w : List Nat) : val T (c :: w) = (tbl T c).mul (val T w) := by
  rw [val, List.foldl_cons, fold_mul, Mat.one_mul]
theorem tbl_oth {r c : Nat} {T : List Mat} (hr : r ≤ 4) (h : c ∈ alph r) : tbl T (oth c) = (tbl T c).inv := by
  rcases alph_cases hr h with rfl | rfl | rfl | rfl | rfl | rfl | rfl | rfl <;> simp [tbl, oth, isLow, isUp, upC, loC, ix, Mat.inv_inv]
theorem det_tbl {T : List Mat} {c : Nat} (hT : ∀ m ∈ T, m.det = 1) : (tbl T c).det = 1 := by
  have h : (T.getD (ix c) Mat.one).det = 1 := by
    rw [List.getD_eq_getElem?_getD]
    cases z : T[ix c]? with
    | none => rfl
    | some m => exact hT m (List.mem_of_getElem? z)
  unfold tbl
  split
  · exact h
  · rw [Mat.det_inv]; exact h
theorem val_inv {r : Nat} {T : List Mat} (hr : r ≤ 4) (hT : ∀ m ∈ T, m.det = 1) : ∀ {w : List Nat}, (∀ c ∈ w, c ∈ alph r) → (val T w).mul (val T (inv w)) = Mat.one
  | [], _ => by simp [val, inv, Mat.one_mul]
  | c :: w, h => by
    have hc := h c List.mem_cons_self
    have e : inv (c :: w) = inv w ++ [swC c] := by simp [inv]
    have e2 : val T [swC c] = (tbl T c).inv := by
      rw [val_cons, sw_oth hr hc, tbl_oth hr hc]
      simp [val, Mat.mul_one]
    rw [e, val_app, e2, val_cons, Mat.mul_assoc, ← Mat.mul_assoc (val T w), val_inv hr hT (fun x hx => h x (List.mem_cons_of_mem _ hx)), Mat.one_mul, Mat.mul_inv (det_tbl hT)]
/-- cancelling changes no value -/
theorem val_jn {r : Nat} {T : List Mat} {a b : List Nat} (hr : r ≤ 4) (hT : ∀ m ∈ T, m.det = 1) (ha : ∀ c ∈ a, c ∈ alph r) : val T (jn a b) = (val T a).mul (val T b) := by
  have hle := lcp_le (inv a) b
  rw [inv_len] at hle
  obtain ⟨s, es⟩ : ∃ s, s = lcp (inv a) b := ⟨_, rfl⟩
  have h1 : a = a.take (a.length - s) ++ a.drop (a.length - s) := (List.take_append_drop _ _).symm
  have h2 : b = inv (a.drop (a.length - s)) ++ b.drop s := by
    have : inv (a.drop (a.length - s)) = b.take s := by
      have e := lcp_take (inv a) b
      rw [← es] at e
      rw [← e]
      unfold inv
      rw [← List.map_take, List.take_reverse]
    rw [this, List.take_append_drop]
  have hd : ∀ c ∈ a.drop (a.length - s), c ∈ alph r := fun c hc => ha c (List.mem_of_mem_drop hc)
  have e3 : (val T a).mul (val T b) = ((val T (a.take (a.length - s))).mul (val T (a.drop (a.length - s)))).mul ((val T (inv (a.drop (a.length - s)))).mul (val T (b.drop s))) := by
    have v1 : val T a = (val T (a.take (a.length - s))).mul (val T (a.drop (a.length - s))) := by rw [← val_app, ← h1]
    have v2 : val T b = (val T (inv (a.drop (a.length - s)))).mul (val T (b.drop s)) := by rw [← val_app, ← h2]
    rw [← v1, ← v2]
  rw [e3, Mat.mul_assoc, ← Mat.mul_assoc (val T (a.drop _)), val_inv hr hT hd, Mat.one_mul, ← val_app]
  unfold jn
  rw [← es]
/-- the image of a letter, of a text -/
def img1 (I : List (List Nat)) (c : Nat) : List Nat := if isLow c then I.getD (ix c) [] else inv (I.getD (ix c) [])
def img (I : List (List Nat)) (w : List Nat) : List Nat := w.foldl (fun f c => jn f (img1 I c)) []
theorem inv_mem {r : Nat} {w : List Nat} (hr : r ≤ 4) (h : ∀ c ∈ w, c ∈ alph r) : ∀ c ∈ inv w, c ∈ alph r := by
  intro c hc
  unfold inv at hc
  obtain ⟨x, hx, rfl⟩ := List.mem_map.mp hc
  have hm := h x (List.mem_reverse.mp hx)
  rw [sw_oth hr hm]
  exact oth_mem hr hm
theorem red_inv {r : Nat} (hr : r ≤ 4) : ∀ {w : List Nat}, (∀ c ∈ w, c ∈ alph r) → Red w → Red (inv w)
  | [], _, _ => trivial
  | c :: w, h, hR => by
    have e : inv (c :: w) = inv w ++ [swC c] := by simp [inv]
    have hw : ∀ x ∈ w, x ∈ alph r := fun x hx => h x (List.mem_cons_of_mem _ hx)
    rw [e]
    refine red_snoc (red_inv hr hw (red_tail hR)) fun x hx => ?_
    cases w with
    | nil => simp [inv] at hx
    | cons y w =>
      have hy := hw y List.mem_cons_self
      have hx' : x = swC y := by
        simp [inv] at hx
        exact hx.symm
      subst hx'
      rw [sw_oth hr hy, oth_oth hr hy, sw_oth hr (h c List.mem_cons_self)]
      exact fun q => hR.1 q.symm
theorem wd_inv {r : Nat} {w : List Nat} (hr : r ≤ 4) (h : Wd r w) : Wd r (inv w) := ⟨inv_mem hr h.1, red_inv hr h.1 h.2⟩
theorem getD_all {α : Type} {I : List α} {d : α} {p : α → Prop} (h : ∀ w ∈ I, p w) (hd : p d) (i : Nat) : p (I.getD i d) := by
  rw [List.getD_eq_getElem?_getD]
  cases z : I[i]? with
  | none => exact hd
  | some w => exact h w (List.mem_of_getElem? z)
theorem wd_nil (r : Nat) : Wd r [] := ⟨by simp, trivial⟩
theorem wd_img1 {r c : Nat} {I : List (List Nat)} (hr : r ≤ 4) (hI : ∀ w ∈ I, Wd r w) : Wd r (img1 I c) := by
  unfold img1
  split
  · exact getD_all hI (wd_nil r) _
  · exact wd_inv hr (getD_all hI (wd_nil r) _)
theorem len_img1 {c m : Nat} {I : List (List Nat)} (hI : ∀ w ∈ I, w.length ≤ m) : (img1 I c).length ≤ m := by
  unfold img1
  split
  · exact getD_all (p := fun w : List Nat => w.length ≤ m) hI (Nat.zero_le _) _
  · rw [inv_len]
    exact getD_all (p := fun w : List Nat => w.length ≤ m) hI (Nat.zero_le _) _
theorem img_facts {r m : Nat} {I : List (List Nat)} (hr : r ≤ 4) (hI : ∀ w ∈ I, Wd r w) (hm : ∀ w ∈ I, List.length w ≤ m) : ∀ (w : List Nat) (f : List Nat), Wd r f → Wd r (w.foldl (fun f c => jn f (img1 I c)) f) ∧ (w.foldl (fun f c => jn f (img1 I c)) f).length ≤ f.length + w.length * m
  | [], f, hf => ⟨hf, by simp⟩
  | c :: w, f, hf => by
    obtain ⟨h1, h2⟩ := img_facts hr hI hm w (jn f (img1 I c)) (jn_red hr hf (wd_img1 hr hI))
    refine ⟨h1, Nat.le_trans h2 ?_⟩
    have := jn_len f (img1 I c)
    have := len_img1 (c := c) hm
    simp only [List.length_cons, Nat.add_mul, Nat.one_mul]
    omega
/-- the value of an image is the value under the images' values -/
theorem val_img {r : Nat} {T : List Mat} {I : List (List Nat)} (hr : r ≤ 4) (hT : ∀ m ∈ T, m.det = 1) (hI : ∀ w ∈ I, Wd r w) (hIr : I.length = r) : ∀ (w : List Nat) (f : List Nat), (∀ c ∈ w, c ∈ alph r) → Wd r f → val T (w.foldl (fun f c => jn f (img1 I c)) f) = (val T f).mul (val (I.map (val T)) w)
  | [], f, _, _ => by simp [val, Mat.mul_one]
  | c :: w, f, hw, hf => by
    rw [List.foldl_cons, val_img hr hT hI hIr w _ (fun x hx => hw x (List.mem_cons_of_mem _ hx)) (jn_red hr hf (wd_img1 hr hI)), val_jn hr hT hf.1, val_cons, Mat.mul_assoc]
    have hc := hw c List.mem_cons_self
    have hix : (I.map (val T)).getD (ix c) Mat.one = val T (I.getD (ix c) []) := by
      rw [List.getD_eq_getElem?_getD, List.getD_eq_getElem?_getD, List.getElem?_map]
      cases I[ix c]? with
      | none => rfl
      | some w => rfl
    have e : val T (img1 I c) = tbl (I.map (val T)) c := by
      unfold img1 tbl
      split
      · rw [hix]
      · rw [hix]
        have hwd : Wd r (I.getD (ix c) []) := getD_all hI (wd_nil r) _
        have h1 := val_inv hr hT hwd.1
        have hdet : ∀ u : List Nat, (val T u).det = 1 := fun u => by
          induction u with
          | nil => rfl
          | cons x u ih => rw [val_cons, Mat.det_mul, ih, det_tbl hT]; rfl
        have h2 := Mat.mul_inv (hdet (I.getD (ix c) []))
        -- both are inverses on the right
        have h3 := Mat.mul_inv (a := (val T (I.getD (ix c) [])).inv) (by rw [Mat.det_inv]; exact hdet _)
        rw [Mat.inv_inv] at h3
        calc val T (inv (I.getD (ix c) [])) = Mat.one.mul (val T (inv (I.getD (ix c) []))) := (Mat.one_mul _).symm
          _ = ((val T (I.getD (ix c) [])).inv.mul (val T (I.getD (ix c) []))).mul (val T (inv (I.getD (ix c) []))) := by rw [h3]
          _ = (val T (I.getD (ix c) [])).inv.mul ((val T (I.getD (ix c) [])).mul (val T (inv (I.getD (ix c) [])))) := Mat.mul_assoc _ _ _
          _ = (val T (I.getD (ix c) [])).inv := by rw [h1, Mat.mul_one]
    rw [e]
end RC

set_option Elab.async false
set_option linter.all false
set_option autoImplicit false
set_option maxRecDepth 100000
set_option maxHeartbeats 2000000
namespace RC
open RCs
theorem oth_lt {c : Nat} (h : c < 128) : oth c < 128 := by
  unfold oth upC loC
  split <;> (try split) <;> simp_all [isLow, isUp] <;> omega
theorem alph_len (r : Nat) : (alph r).length ≤ 8 := by unfold alph; simp [List.length_take]; omega
theorem L29_ok {k r : Nat} {w : List Nat} {M : Store} {a c d e f : Option Sl} (hk : 1 ≤ k) (hr : r ≤ 4) (hw : ∀ c ∈ w, c ∈ alph r) (hl : w.length ≤ 16777216) :
    ev (P.cfg k) L29_0 [a, some (.v (.int r)), c, some (.v (.str w)), d, e, f] M = .ok (.lst ((nexts r w).map fun c => .str [c])) M := by
  have hal := alph_len r
  refine ev_lcif (xs := alph r) (fun c => .str [c]) (fun c => .str [c]) _ (by simp [alphabet_ok hk hr]) (by omega) fun z hz => ⟨_, rfl, ?_, fun _ => by simp⟩
  have hz2 := alph_ascii hz
  by_cases hw0 : w = []
  · subst hw0
    simp
  · obtain ⟨x, hx⟩ : ∃ x, w.getLast? = some x := by
      cases q : w.getLast? with
      | none => exact absurd (List.getLast?_eq_none_iff.mp q) hw0
      | some x => exact ⟨x, rfl⟩
    have hxm := alph_ascii (hw x (List.mem_of_getLast? hx))
    have hbe : (w == ([] : List Nat)) = false := by simpa using hw0
    simp [hbe, hw0, hl, at_last hx, other_ok hk hxm, hx]
    rfl
theorem text_ok {k n p r s : Nat} {ns : List Int} {M : Store} (hk : 2 ≤ k) (hp : M[p]? = some ns) (hs : Sr n ns) (hn : n + s < 1000000) (h2 : 2 ≤ r) (h4 : r ≤ 4) (hs2 : s ≤ 1000) :
    ∃ w ns', callF P k 29 [.ref p, .int r, .int s] M = .ok (.str w) (M.set p ns') ∧ Wd r w ∧ w.length = s ∧ Sr (n + s) ns' := by
  have hpl : p < M.length := (List.getElem?_eq_some_iff.mp hp).1
  rw [C29 (by omega)]
  let I : Nat → Env → Store → Prop := fun i ρ M' => ∃ w ns' a b, ρ = [some (.v (.ref p)), some (.v (.int r)), some (.v (.int s)), some (.v (.str w)), a, b, none] ∧ M' = M.set p ns' ∧ Sr (n + i) ns' ∧ Wd r w ∧ w.length = i
  obtain ⟨ρ', M', hf, w, ns', a, b, eρ, eM, hs', hw, hwl⟩ := for_inv (ds := rngD 0 s) (body := forBody (P.cfg (k - 1)) (.n 4) F29_0) I (fun i d hd ρ M' hI => by
      obtain ⟨hi, rfl⟩ := rng_get hd
      obtain ⟨w, ns', a, b, rfl, rfl, hs', hw, hwl⟩ := hI
      have hlen : 0 < (nexts r w).length := List.length_pos_iff.mpr (nexts_ne h2)
      have hl8 := nexts_len (r := r) (w := w)
      obtain ⟨v, ns2, hv, v0, v1, hs2'⟩ := next_ok (k := k - 1) (m := ((nexts r w).length : Int)) (M := M.set p ns') (by omega) (List.getElem?_set_self hpl) hs' (by omega) (by omega) (by omega)
      obtain ⟨x, hx1, hx2⟩ := atF_at (xs := (nexts r w).map fun c => D.str [c]) v0 (by simpa using v1)
      rw [List.getElem?_map] at hx2
      cases z : (nexts r w)[v.toNat]? with
      | none => rw [z] at hx2; cases hx2
      | some c =>
        rw [z] at hx2
        cases hx2
        obtain ⟨c1, c2⟩ := nexts_mem (List.mem_of_getElem? z)
        refine ⟨_, _, ?_, w ++ [c], ns2, some (.v (.int i)), some (.v (.lst ((nexts r w).map fun c => .str [c]))), rfl, rfl, hs2', ⟨fun y hy => ?_, red_snoc hw.2 c2⟩, by simp [hwl]⟩
        · have hsz : w.length + 1 ≤ 16777216 := by omega
          simp [forBody, F29_0, L29_ok (show 1 ≤ k - 1 by omega) h4 hw.1 (by omega : w.length ≤ 16777216), hv, hx1, hsz, List.set_set]
        · rcases List.mem_append.mp hy with q | q
          · exact hw.1 y q
          · have : y = c := by simpa using q
            rw [this]; exact c1) (ρ := [some (.v (.ref p)), some (.v (.int r)), some (.v (.int s)), some (.v (.str [])), none, none, none]) (M := M) ⟨[], ns, none, none, rfl, by
        have := List.getElem?_eq_some_iff.mp hp
        rw [← this.2]; simp, by simpa using hs, ⟨by simp, trivial⟩, rfl⟩
  rw [rng_len] at hs' hwl
  refine ⟨w, ns', ?_, hw, hwl, hs'⟩
  have hs3 : -1000000 ≤ (s : Int) ∧ (s : Int) ≤ 1000000 := by omega
  subst eρ eM
  simp [b29, ex_for, hs3, hf]
/-! ### words.py -/
theorem isint_ok {k : Nat} {n : Int} {M : Store} (hk : 1 ≤ k) : callF P k 0 [.int n] M = .ok (.bl true) M := by
  rw [C0 hk]
  simp [b0, isiF, tyI]
theorem need_rank_ok {k r : Nat} {M : Store} (hk : 2 ≤ k) (h2 : 2 ≤ r) (h4 : r ≤ 4) : callF P k 1 [.int r] M = .ok .non M := by
  rw [C1 (by omega)]
  have e1 : (2 : Int) ≤ r := by omega
  have e2 : (r : Int) ≤ 4 := by omega
  simp [b1, isint_ok (show 1 ≤ k - 1 by omega), G0, e1, e2]
theorem letters_ok {k r : Nat} {M : Store} (hk : 1 ≤ k) (hr : r ≤ 4) : callF P k 2 [.int r] M = .ok (.str (alph r)) M := by
  rw [C2 hk]
  have : r = 0 ∨ r = 1 ∨ r = 2 ∨ r = 3 ∨ r = 4 := by omega
  rcases this with rfl | rfl | rfl | rfl | rfl <;> simp [b2, G1, mulF, slcL, cutL, clipO, clip, alph]
theorem inverse_ok {k : Nat} {w : List Nat} {M : Store} (hk : 1 ≤ k) (hw : ∀ c ∈ w, c < 128) (hl : w.length ≤ 5000000) : callF P k 3 [.str w] M = .ok (.str (inv w)) M := by
  rw [C3 hk]
  have ha : ascii w.reverse = true := by
    unfold ascii
    exact List.all_eq_true.mpr fun c hc => decide_eq_true (hw c (List.mem_reverse.mp hc))
  have hs : w.length ≤ 16777216 := by omega
  simp [b3, hs, mtF, ha, hl, inv]
theorem is_text_ok {k r : Nat} {w : List Nat} {M : Store} (hk : 2 ≤ k) (hr : r ≤ 4) (hl : w.length ≤ 16777216) : callF P k 4 [.int r, .str w] M = .ok (.bl (w.all fun c => decide (c ∈ alph r))) M := by
  have h1 : ev (P.cfg (k - 1)) L4_0 [some (.v (.int r)), some (.v (.str w)), none] M = .ok (.lst (w.map fun c => .bl (decide (c ∈ alph r)))) M :=
    ev_lc (xs := w) (fun c => .str [c]) _ (by simp) hl fun c hc => ⟨_, rfl, by simp [letters_ok (show 1 ≤ k - 1 by omega) hr]⟩
  rw [C4 (by omega)]
  simp [b4, isiF, tyS, h1, all_bl]
theorem zip_items : ∀ (a b : List Nat), zipD (a.map fun c => D.str [c]) (b.map fun c => D.str [c]) = (a.zip b).map fun p => D.tup [.str [p.1], .str [p.2]]
  | [], _ => by simp [zipD]
  | _ :: _, [] => by simp [zipD]
  | x :: a, y :: b => by simp [zipD, zip_items a b]
theorem is_word_ok {k r : Nat} {w : List Nat} {M : Store} (hk : 3 ≤ k) (hr : r ≤ 4) (hl : w.length ≤ 16777216) : callF P k 5 [.int r, .str w] M = .ok (.bl (isW r w)) M := by
  rw [C5 (by omega)]
  by_cases ha : (w.all fun c => decide (c ∈ alph r)) = true
  · by_cases h1 : w.length ≤ 100
    · have hm : ∀ c ∈ w, c < 128 := fun c hc => alph_ascii (of_decide_eq_true (List.all_eq_true.mp ha c hc))
      have h2 : ev (P.cfg (k - 1)) L5_0 [some (.v (.int r)), some (.v (.str w)), none, none] M = .ok (.lst ((w.zip (w.drop 1)).map fun p => .bl (!decide (p.1 = swC p.2)))) M :=
        ev_lc (xs := w.zip (w.drop 1)) (fun p => .tup [.str [p.1], .str [p.2]]) _ (by
          have e : slcL w (some 1) none = w.drop 1 := slc_from (i := 1)
          simp [hl, e]
          rw [← List.map_tail, zip_items]) (by simp; omega) fun p hp => by
          obtain ⟨x, y⟩ := p
          have hy := hm y (List.mem_of_mem_drop (List.of_mem_zip hp).2)
          refine ⟨_, rfl, ?_⟩
          simp [mtF, ascii, hy]
          rfl
      have hw : isW r w = (w.zip (w.drop 1)).all fun p => !decide (p.1 = swC p.2) := by simp only [isW, ha, h1, decide_true, Bool.true_and]
      have hi : ¬ (100 : Int) < (w.length : Int) := by omega
      simp only [List.drop_one] at h2
      simp [b5, is_text_ok (show 2 ≤ k - 1 by omega) hr hl, ha, hl, G2, hi, hw, h2, all_bl]
    · have hi : (100 : Int) < (w.length : Int) := by omega
      have hw : isW r w = false := by simp [isW, h1]
      simp [b5, is_text_ok (show 2 ≤ k - 1 by omega) hr hl, ha, hl, G2, hi, hw]
  · have ha' : (w.all fun c => decide (c ∈ alph r)) = false := by simpa using ha
    have hw : isW r w = false := by simp only [isW, ha', Bool.false_and]
    simp [b5, is_text_ok (show 2 ≤ k - 1 by omega) hr hl, ha', hw]
theorem wd_lt {r : Nat} {w : List Nat} (h : ∀ c ∈ w, c ∈ alph r) : ∀ c ∈ w, c < 128 := fun c hc => alph_ascii (h c hc)
theorem is_word_wd {k r : Nat} {w : List Nat} {M : Store} (hk : 3 ≤ k) (hr : r ≤ 4) (hw : Wd r w) (hl : w.length ≤ 100) : callF P k 5 [.int r, .str w] M = .ok (.bl true) M := by
  rw [is_word_ok hk hr (by omega), (isW_iff hr).mpr ⟨hw, hl⟩]
/-! ### substitutions.py -/
theorem joined_ok {k : Nat} {a b : List Nat} {M : Store} (hk : 2 ≤ k) (ha : ∀ c ∈ a, c < 128) (hb : ∀ c ∈ b, c < 128) (la : a.length ≤ 10000) (lb : b.length ≤ 10000) : callF P k 10 [.str a, .str b] M = .ok (.str (jn a b)) M := by
  rw [C10 (by omega)]
  have s1 : a.length ≤ 16777216 := by omega
  have s2 : b.length ≤ 16777216 := by omega
  have s3 : (inv a).length ≤ 16777216 := by rw [inv_len]; omega
  have hle := lcp_le (inv a) b
  rw [inv_len] at hle
  let I : Nat → Env := fun i => [some (.v (.str a)), some (.v (.str b)), some (.v (.str (inv a))), some (.v (.int i))]
  have hw := while_up (c := P.cfg (k - 1)) (t := T10_0) (b := W10_0) (M := M) I (lcp (inv a) b) 100000 (by omega) (fun i hi => by
    have i1 : i < (inv a).length := by rw [inv_len]; omega
    have e := lcp_at (inv a) b i hi
    have c1 : (i : Int) < (a.length : Int) := by omega
    have c2 : (i : Int) < (b.length : Int) := by omega
    obtain ⟨x, hx⟩ : ∃ x, (inv a)[i]? = some x := ⟨_, List.getElem?_eq_getElem i1⟩
    have hx2 : b[i]? = some x := by rw [← e]; exact hx
    constructor
    · simp [I, T10_0, s2, inv_len, s1, c1, c2, atF_nat, hx, hx2]
    · simp [I, W10_0, augF]) (by
    by_cases c1 : lcp (inv a) b < a.length
    · by_cases c2 : lcp (inv a) b < b.length
      · obtain ⟨x, hx⟩ : ∃ x, (inv a)[lcp (inv a) b]? = some x := ⟨_, List.getElem?_eq_getElem (by rw [inv_len]; exact c1)⟩
        obtain ⟨y, hy⟩ : ∃ y, b[lcp (inv a) b]? = some y := ⟨_, List.getElem?_eq_getElem c2⟩
        have hne := lcp_end (inv a) b x y hx hy
        have c1' : ((lcp (inv a) b : Nat) : Int) < (a.length : Int) := by omega
        have c2' : ((lcp (inv a) b : Nat) : Int) < (b.length : Int) := by omega
        simp [I, T10_0, s2, inv_len, s1, c1', c2', atF_nat, hx, hy, hne]
      · have c1' : ((lcp (inv a) b : Nat) : Int) < (a.length : Int) := by omega
        have c2' : ¬ ((lcp (inv a) b : Nat) : Int) < (b.length : Int) := by omega
        simp [I, T10_0, s2, inv_len, s1, c1', c2']
    · have c1' : ¬ ((lcp (inv a) b : Nat) : Int) < (a.length : Int) := by omega
      simp [I, T10_0, inv_len, s1, c1'])
  have t1 : slcL a none (some ((a.length : Int) - (lcp (inv a) b : Int))) = a.take (a.length - lcp (inv a) b) := by
    rw [show (a.length : Int) - (lcp (inv a) b : Int) = ((a.length - lcp (inv a) b : Nat) : Int) by omega, slc_to]
  have t2 : slcL b (some (lcp (inv a) b : Int)) none = b.drop (lcp (inv a) b) := slc_from
  have t3 : (a.length - lcp (inv a) b) + (b.length - lcp (inv a) b) ≤ 16777216 := by omega
  have e0 : ([some (.v (.str a)), some (.v (.str b)), some (.v (.str (inv a))), some (.v (.int 0))] : Env) = I 0 := rfl
  simp [b10, inverse_ok (show 1 ≤ k - 1 by omega) ha (by omega), ex_while, P_lf]
  rw [e0, hw]
  simp [I, s1, s2, t1, t2, t3, List.length_take, List.length_drop, jn]
theorem base_ix {r c : Nat} (hr : r ≤ 4) (h : c ∈ alph r) : ix c < r ∧ ((isLow c = true ∧ c ∈ [97, 98, 99, 100] ∧ findC c [97, 98, 99, 100] 0 = some (ix c)) ∨ (isLow c = false ∧ c ∉ [97, 98, 99, 100] ∧ findC (swC c) [97, 98, 99, 100] 0 = some (ix c))) := by
  have hc := alph_cases hr h
  have : r = 0 ∨ r = 1 ∨ r = 2 ∨ r = 3 ∨ r = 4 := by omega
  revert h
  rcases this with rfl | rfl | rfl | rfl | rfl <;> rcases hc with rfl | rfl | rfl | rfl | rfl | rfl | rfl | rfl <;> decide
theorem inv_one (c : Nat) : inv [c] = [swC c] := rfl
theorem image_of_ok {k r m : Nat} {I : List (List Nat)} {w : List Nat} {M : Store} (hk : 3 ≤ k) (hr : r ≤ 4) (hI : I.length = r) (hw : ∀ u ∈ I, Wd r u) (hm : ∀ u ∈ I, List.length u ≤ m) (hwr : ∀ c ∈ w, c ∈ alph r) (hl : w.length * m ≤ 10000) (hm2 : m ≤ 10000) :
    callF P k 11 [.tup (I.map .str), .str w] M = .ok (.str (img I w)) M := by
  rw [C11 (by omega)]
  obtain ⟨⟨s, hf⟩, hfin⟩ := for_fold (c := P.cfg (k - 1)) (tg := .n 3) (body := F11_0) (M := M) (f := fun c => D.str [c]) (E := fun (b : List Nat) (s : Option Sl) => [some (.v (.tup (I.map .str))), some (.v (.str w)), some (.v (.str b)), s]) (step := fun f c => jn f (img1 I c)) w (fun i b => Wd r b ∧ b.length ≤ i * m)
    (fun i x b s hx hb => by
      have hxm := hwr x (List.mem_of_getElem? hx)
      have hi : i < w.length := (List.getElem?_eq_some_iff.mp hx).1
      have hxa := alph_ascii hxm
      obtain ⟨hix, hc⟩ := base_ix hr hxm
      have hwd := wd_img1 (c := x) hr hw
      have hl1 := len_img1 (c := x) hm
      have hmul : (i + 1) * m ≤ w.length * m := Nat.mul_le_mul_right _ hi
      rw [Nat.add_mul, Nat.one_mul] at hmul
      have hj := joined_ok (k := k - 1) (a := b) (b := img1 I x) (M := M) (by omega) (wd_lt hb.1.1) (wd_lt hwd.1) (by omega) (by omega)
      obtain ⟨u, hu⟩ : ∃ u, I[ix x]? = some u := ⟨_, List.getElem?_eq_getElem (by omega)⟩
      have hum := List.mem_of_getElem? hu
      have hat : atF (I.map D.str) ((ix x : Nat) : Int) = some (.str u) := by rw [atF_nat, List.getElem?_map, hu]; rfl
      refine ⟨⟨some (.v (.str [x])), ?_⟩, jn_red hr hb.1 hwd, ?_⟩
      · rcases hc with ⟨h1, h2, h3⟩ | ⟨h1, h2, h3⟩
        · have e1 : img1 I x = u := by simp [img1, h1, List.getD_eq_getElem?_getD, hu]
          rw [e1] at hj
          simp [forBody, F11_0, G3, h2, mtF, h3, hat, hj, e1]
        · have e1 : img1 I x = inv u := by simp [img1, h1, List.getD_eq_getElem?_getD, hu]
          rw [e1] at hj
          have hinv := inverse_ok (k := k - 1) (w := [x]) (M := M) (by omega) (by simp [hxa]) (by simp)
          have hinv2 := inverse_ok (k := k - 1) (w := u) (M := M) (by omega) (wd_lt (hw u hum).1) (by have := hm u hum; omega)
          rw [inv_one] at hinv
          simp [forBody, F11_0, G3, h2, mtF, h3, hat, hj, e1, hinv, hinv2]
      · have := jn_len b (img1 I x)
        rw [Nat.add_mul, Nat.one_mul]
        omega) [] none ⟨wd_nil r, by simp⟩
  simp [b11, ex_for, hf]
  rfl
end RC

set_option Elab.async false
set_option linter.all false
set_option autoImplicit false
set_option maxRecDepth 100000
set_option maxHeartbeats 2000000
namespace RC
open RCs
theorem wd_img {r m : Nat} {I : List (List Nat)} {w : List Nat} (hr : r ≤ 4) (hI : ∀ w ∈ I, Wd r w) (hm : ∀ w ∈ I, List.length w ≤ m) : Wd r (img I w) ∧ (img I w).length ≤ w.length * m := by
  have := img_facts hr hI hm w [] (wd_nil r)
  exact ⟨this.1, by simpa [img] using this.2⟩
theorem for_skip {c : Cfg} {tg : Tg} {body : Cs} {M : Store} {α γ : Type} {f : α → D} {E : γ → Env} (xs : List α) (h : ∀ x ∈ xs, ∀ s, ∃ s', forBody c tg body (f x) (E s) M = .next (E s') M) (s : γ) : ∃ s', forLoop (forBody c tg body) (xs.map f) (E s) M = .next (E s') M := by
  induction xs generalizing s with
  | nil => exact ⟨s, rfl⟩
  | cons x xs ih =>
    obtain ⟨s1, e1⟩ := h x List.mem_cons_self s
    obtain ⟨s2, e2⟩ := ih (fun y hy => h y (List.mem_cons_of_mem _ hy)) s1
    exact ⟨s2, by rw [List.map_cons, forLoop, e1]; exact e2⟩
/-! ### shadows.py -/
/-- a table whose numbers are small -/
def Sm (m : Mat) : Prop := m.p.natAbs < 18446744073709551616 ∧ m.q.natAbs < 18446744073709551616 ∧ m.u.natAbs < 18446744073709551616 ∧ m.v.natAbs < 18446744073709551616
theorem sm_inv {m : Mat} (h : Sm m) : Sm m.inv := by
  unfold Sm Mat.inv at *
  simp only
  omega
theorem sm_tbl {T : List Mat} {c : Nat} (h : ∀ m ∈ T, Sm m) : Sm (tbl T c) := by
  have h1 : Sm (T.getD (ix c) Mat.one) := getD_all h ⟨by decide, by decide, by decide, by decide⟩ _
  unfold tbl
  split
  · exact h1
  · exact sm_inv h1
theorem lo_ix {r c : Nat} (hr : r ≤ 4) (h : c ∈ alph r) : findC (loC c) [97, 98, 99, 100] 0 = some (ix c) := by
  rcases alph_cases hr h with rfl | rfl | rfl | rfl | rfl | rfl | rfl | rfl <;> decide
end RC

set_option Elab.async false
set_option linter.all false
set_option autoImplicit false
set_option maxRecDepth 100000
set_option maxHeartbeats 2000000
/-! Free reduction. -/
namespace RC
open RCs
/-- letters -/
abbrev Lts (w : List Nat) : Prop := ∀ c ∈ w, c ∈ alph 4
theorem alph_sub {r c : Nat} (hr : r ≤ 4) (h : c ∈ alph r) : c ∈ alph 4 := by
  unfold alph at *
  exact List.mem_of_mem_take (i := 2 * r) (by rwa [List.take_take, Nat.min_eq_left (by omega)])
theorem oo {c : Nat} (h : c ∈ alph 4) : oth (oth c) = c := oth_oth (by omega) h
theorem om {c : Nat} (h : c ∈ alph 4) : oth c ∈ alph 4 := oth_mem (by omega) h
theorem sw {c : Nat} (h : c ∈ alph 4) : swC c = oth c := sw_oth (r := 4) (by omega) h
theorem o_ne {c : Nat} (h : c ∈ alph 4) : oth c ≠ c := by
  rcases alph_cases (r := 4) (by omega) h with rfl | rfl | rfl | rfl | rfl | rfl | rfl | rfl <;> decide
theorem o_inj {c d : Nat} (hc : c ∈ alph 4) (hd : d ∈ alph 4) (h : oth c = oth d) : c = d := by rw [← oo hc, ← oo hd, h]
theorem Lts.nil : Lts [] := fun c h => by cases h
theorem Lts.app {a b : List Nat} (ha : Lts a) (hb : Lts b) : Lts (a ++ b) := fun c hc => (List.mem_append.mp hc).elim (ha c) (hb c)
theorem Lts.left {a b : List Nat} (h : Lts (a ++ b)) : Lts a := fun c hc => h c (List.mem_append_left _ hc)
theorem Lts.right {a b : List Nat} (h : Lts (a ++ b)) : Lts b := fun c hc => h c (List.mem_append_right _ hc)
theorem Lts.tail {c : Nat} {w : List Nat} (h : Lts (c :: w)) : Lts w := fun d hd => h d (List.mem_cons_of_mem _ hd)
theorem Lts.inv {w : List Nat} (h : Lts w) : Lts (inv w) := inv_mem (by omega) h
/-- a letter times a reduced word -/
def act (c : Nat) (w : List Nat) : List Nat := if w.head? = some (oth c) then w.tail else c :: w
/-- the reduced word -/
def rd (w : List Nat) : List Nat := w.foldr act []
theorem act_mem {c d : Nat} {w : List Nat} (h : d ∈ act c w) : d = c ∨ d ∈ w := by
  unfold act at h
  split at h
  · exact .inr (List.mem_of_mem_tail h)
  · exact List.mem_cons.mp h
theorem rd_mem {d : Nat} : ∀ {w : List Nat}, d ∈ rd w → d ∈ w
  | [], h => h
  | c :: w, h => by
    rcases act_mem (show d ∈ act c (rd w) from h) with e | e
    · rw [e]; exact List.mem_cons_self
    · exact List.mem_cons_of_mem _ (rd_mem e)
theorem Lts.rd {w : List Nat} (h : Lts w) : Lts (rd w) := fun c hc => h c (rd_mem hc)
theorem act_red {c : Nat} {w : List Nat} (h : Red w) : Red (act c w) := by
  unfold act
  split
  · cases w with
    | nil => trivial
    | cons x w => exact red_tail h
  · rename_i hn
    cases w with
    | nil => trivial
    | cons x w => exact ⟨fun e => hn (by rw [e]; rfl), h⟩
theorem rd_red : ∀ w : List Nat, Red (rd w)
  | [] => trivial
  | c :: w => act_red (rd_red w)
theorem rd_id : ∀ {w : List Nat}, Red w → rd w = w
  | [], _ => rfl
  | [c], _ => by simp [rd, act]
  | c :: d :: w, h => by
    have e := rd_id (w := d :: w) h.2
    show act c (rd (d :: w)) = _
    rw [e]
    unfold act
    rw [if_neg (by simpa using h.1)]
theorem rd_rd (w : List Nat) : rd (rd w) = rd w := rd_id (rd_red w)
theorem act_cancel {c : Nat} {w : List Nat} (hc : c ∈ alph 4) (h : Red w) : act c (act (oth c) w) = w := by
  unfold act
  by_cases h1 : w.head? = some (oth (oth c))
  · rw [if_pos h1]
    rw [oo hc] at h1
    cases w with
    | nil => cases h1
    | cons x w =>
      have : x = c := by simpa using h1
      subst this
      rw [if_neg]
      · rfl
      · intro e
        cases w with
        | nil => cases e
        | cons y w =>
          have : y = oth x := by simpa using e
          exact h.1 this
  · rw [if_neg h1, if_pos (show (oth c :: w).head? = some (oth c) from rfl)]; rfl
theorem foldr_red {z : List Nat} (hz : Red z) : ∀ w : List Nat, Red (w.foldr act z)
  | [] => hz
  | c :: w => act_red (foldr_red hz w)
theorem rd_app (a b : List Nat) : rd (a ++ b) = a.foldr act (rd b) := by unfold rd; rw [List.foldr_append]
theorem fold_rd : ∀ {x z : List Nat}, Lts x → Red z → (rd x).foldr act z = x.foldr act z
  | [], _, _, _ => rfl
  | c :: x, z, hx, hz => by
    have hc := hx c List.mem_cons_self
    have ih := fold_rd (x := x) (z := z) hx.tail hz
    show (act c (rd x)).foldr act z = act c (x.foldr act z)
    rw [← ih]
    unfold act
    split
    · rename_i h
      cases e : rd x with
      | nil => rw [e] at h; cases h
      | cons y t =>
        rw [e] at h
        have : y = oth c := by simpa using h
        subst this
        show t.foldr act z = act c (act (oth c) (t.foldr act z))
        rw [act_cancel hc (foldr_red hz t)]
    · rfl
theorem rd_left {x y : List Nat} (hx : Lts x) : rd (rd x ++ y) = rd (x ++ y) := by rw [rd_app, rd_app, fold_rd hx (rd_red y)]
theorem rd_right {x y : List Nat} : rd (x ++ rd y) = rd (x ++ y) := by rw [rd_app, rd_app, rd_rd]
theorem rd_mid {x y z : List Nat} (hy : Lts y) : rd (x ++ rd y ++ z) = rd (x ++ y ++ z) := by
  rw [List.append_assoc, List.append_assoc, rd_app, rd_left hy, ← rd_app]
theorem rd_pair {a b : List Nat} {c : Nat} (hc : c ∈ alph 4) : rd (a ++ c :: oth c :: b) = rd (a ++ b) := by
  rw [rd_app, rd_app]
  show a.foldr act (act c (act (oth c) (rd b))) = _
  rw [act_cancel hc (rd_red b)]
theorem inv_cons (c : Nat) (w : List Nat) : inv (c :: w) = inv w ++ [swC c] := by simp [inv]
theorem inv_app (a b : List Nat) : inv (a ++ b) = inv b ++ inv a := by simp [inv]
theorem inv_inv {w : List Nat} (h : Lts w) : inv (inv w) = w := by
  unfold inv
  rw [← List.map_reverse, List.map_map, List.reverse_reverse]
  have : ∀ c ∈ w, (swC ∘ swC) c = c := fun c hc => by
    show swC (swC c) = c
    rw [sw (h c hc), sw (om (h c hc)), oo (h c hc)]
  rw [List.map_congr_left this]
  simp
theorem rd_inv_right : ∀ {w x : List Nat}, Lts w → rd (w ++ inv w ++ x) = rd x
  | [], x, _ => rfl
  | c :: w, x, h => by
    have hc := h c List.mem_cons_self
    rw [inv_cons, sw hc]
    have e : c :: w ++ (inv w ++ [oth c]) ++ x = [c] ++ (w ++ inv w ++ (oth c :: x)) := by simp
    rw [e, rd_app, rd_inv_right h.tail, ← rd_app]
    exact rd_pair (a := []) hc
theorem rd_inv_left {w x : List Nat} (h : Lts w) : rd (inv w ++ w ++ x) = rd x := by
  have := rd_inv_right (w := inv w) (x := x) h.inv
  rwa [inv_inv h] at this
/-! ### the stack -/
def stp (k : List Nat) (c : Nat) : List Nat := if k.getLast? = some (oth c) then k.dropLast else k ++ [c]
theorem stp_mem {k : List Nat} {c d : Nat} (h : d ∈ stp k c) : d ∈ k ∨ d = c := by
  unfold stp at h
  split at h
  · exact .inl ((List.dropLast_sublist k).subset h)
  · simpa using h
theorem stp_red {k : List Nat} {c : Nat} (hc : c ∈ alph 4) (hk : Lts k) (h : Red k) : Red (stp k c) := by
  unfold stp
  split
  · rw [List.dropLast_eq_take]; exact red_take _ h
  · rename_i hn
    exact red_snoc h fun x hx e => hn (by rw [hx, e, oo (hk x (List.mem_of_getLast? hx))])
theorem stp_rd {k : List Nat} {c : Nat} (x : List Nat) (hc : c ∈ alph 4) (hk : Lts k) : rd (stp k c ++ x) = rd (k ++ c :: x) := by
  unfold stp
  split
  · rename_i h
    obtain ⟨k', rfl⟩ : ∃ k', k = k' ++ [oth c] := by
      rcases List.eq_nil_or_concat k with rfl | ⟨k', d, rfl⟩
      · cases h
      · have : d = oth c := by simpa using h
        exact ⟨k', by rw [this]; simp⟩
    rw [List.dropLast_concat]
    have e : k' ++ [oth c] ++ c :: x = k' ++ oth c :: oth (oth c) :: x := by rw [oo hc]; simp
    rw [e, rd_pair (om hc)]
  · simp
theorem stack_rd : ∀ {w k : List Nat}, Lts w → Lts k → Red k → w.foldl stp k = rd (k ++ w)
  | [], k, _, _, h => by simp [rd_id h]
  | c :: w, k, hw, hk, h => by
    have hc := hw c List.mem_cons_self
    have hl : Lts (stp k c) := fun d hd => (stp_mem hd).elim (hk d) fun e => e ▸ hc
    rw [List.foldl_cons, stack_rd hw.tail hl (stp_red hc hk h), stp_rd w hc hk]
theorem stack_len : ∀ (w k : List Nat), (w.foldl stp k).length ≤ k.length + w.length
  | [], k => by simp
  | c :: w, k => by
    have := stack_len w (stp k c)
    have h2 : (stp k c).length ≤ k.length + 1 := by
      unfold stp
      split <;> simp <;> omega
    simp only [List.foldl_cons, List.length_cons]
    omega
theorem rd_len : ∀ w : List Nat, (rd w).length ≤ w.length
  | [] => by simp [rd]
  | c :: w => by
    have := rd_len w
    show (act c (rd w)).length ≤ _
    unfold act
    split <;> simp <;> omega
theorem rd_wd {r : Nat} {w : List Nat} (h : ∀ c ∈ w, c ∈ alph r) : Wd r (rd w) := ⟨fun c hc => h c (rd_mem hc), rd_red w⟩
end RC

set_option Elab.async false
set_option linter.all false
set_option autoImplicit false
set_option maxRecDepth 100000
set_option maxHeartbeats 2000000
namespace RC
open RCs
/-! ### words.py: reduced, inverse, product; the law's _law_short -/
theorem join_strs : ∀ (k : List Nat), allS (k.map fun c => D.str [c]) = some (k.map fun c => [c])
  | [] => rfl
  | c :: k => by simp [allS, join_strs k]
theorem joinS_one : ∀ (k : List Nat), joinS [] (k.map fun c => [c]) = k
  | [] => rfl
  | [c] => rfl
  | c :: d :: k => by
    have := joinS_one (d :: k)
    simp only [List.map_cons] at this ⊢
    rw [joinS, this]
    rfl
theorem sum_ones : ∀ k : List Nat, ((k.map fun c => [c]).map List.length).sum = k.length
  | [] => rfl
  | c :: k => by
    have := sum_ones k
    simp only [List.map_cons, List.sum_cons, List.length_cons, List.length_nil] at *
    omega
theorem join_ok {k : List Nat} (h : k.length ≤ 16777216) : mtF .join (.str []) [.lst (k.map fun c => .str [c])] = some (.str k) := by
  have e1 : (k.map (List.length ∘ fun c => [c])).sum = k.length := by
    have := sum_ones k
    rwa [List.map_map] at this
  simp [mtF, seqOf, join_strs, joinS_one, e1, SZ, h]
theorem plain_letters {n : Nat} {k : List Nat} (h : ∀ c ∈ k, c < 128) : plainAll n (k.map fun c => D.str [c]) = true := pl_map fun c hc => pl_str (by have := h c hc; simp; omega)
theorem getLast_map (k : List Nat) : (k.map fun c => D.str [c]).getLast? = (k.getLast?).map fun c => D.str [c] := by rw [List.getLast?_map]
theorem reduced_ok {k : Nat} {w : List Nat} {M : Store} (hk : 1 ≤ k) (hw : Lts w) (hl : w.length ≤ 1000000) : callF P k 35 [.str w] M = .ok (.str (rd w)) M := by
  rw [C35 hk]
  obtain ⟨⟨s, hf⟩, hfin⟩ := for_fold (c := P.cfg (k - 1)) (tg := .n 2) (body := F35_0) (M := M) (f := fun c => D.str [c]) (E := fun (b : List Nat) (s : Option Sl) => [some (.v (.str w)), some (.o (b.map fun c => D.str [c])), s]) (step := stp) w (fun i b => Lts b ∧ b.length ≤ i)
    (fun i x b s hx hb => by
      have hxm := hw x (List.mem_of_getElem? hx)
      have hxa := alph_ascii hxm
      have hi : i < w.length := (List.getElem?_eq_some_iff.mp hx).1
      have hbl : ∀ c ∈ b, c < 128 := fun c hc => alph_ascii (hb.1 c hc)
      refine ⟨⟨some (.v (.str [x])), ?_⟩, fun d hd => (stp_mem hd).elim (hb.1 d) fun e => e ▸ hxm, ?_⟩
      · cases hlast : b.getLast? with
        | none =>
          have e : b = [] := List.getLast?_eq_none_iff.mp hlast
          subst e
          have hz : (0 : Nat) < SZ := by decide
          simp [forBody, F35_0, stp, hz]
        | some y =>
          have hne : b ≠ [] := fun e => by rw [e] at hlast; cases hlast
          have hat : atF (b.map fun c => D.str [c]) (-1) = some (.str [y]) := at_last (by rw [getLast_map, hlast]; rfl)
          have hp := plain_letters (n := 39) hbl
          have hne2 : eqAll (b.map fun c => D.str [c]) [] = false := by
            cases b with
            | nil => exact absurd rfl hne
            | cons c b => simp
          have hsz : b.length < SZ := by show b.length < 16777216; omega
          by_cases hy : y = oth x
          · have hs : stp b x = b.dropLast := by unfold stp; rw [if_pos (by rw [hlast, hy])]
            have hyx : y = swC x := by rw [sw hxm]; exact hy
            rw [hs]
            simp [forBody, F35_0, hp, hne2, hat, mtF, ascii, hxa, hyx, hlast, getLast_map, List.map_dropLast]
          · have hs : stp b x = b ++ [x] := by unfold stp; rw [if_neg (by rw [hlast]; simpa using hy)]
            have hyx : ¬ y = swC x := by rw [sw hxm]; exact hy
            rw [hs]
            simp [forBody, F35_0, hp, hne2, hat, mtF, ascii, hxa, hyx, hsz]
      · have := stack_len [x] b
        simp at this
        omega) [] none ⟨Lts.nil, by simp⟩
  have e := stack_rd (k := []) hw Lts.nil trivial
  rw [List.nil_append] at e
  rw [e] at hf hfin
  simp only [List.map_nil] at hf
  have hlen : (rd w).length ≤ 16777216 := by have := hfin.2; omega
  simp [b35, ex_for, hf, join_ok hlen]
theorem short_ok {k : Nat} {w : List Nat} {M : Store} (hk : 2 ≤ k) (hw : Lts w) (hl : w.length ≤ 1000000) : callF P k 38 [.str w] M = .ok (.str (rd w)) M := by
  rw [C38 (by omega)]
  obtain ⟨⟨s, hf⟩, hfin⟩ := for_fold (c := P.cfg (k - 1)) (tg := .n 2) (body := F38_0) (M := M) (f := fun c => D.str [c]) (E := fun (b : List Nat) (s : Option Sl) => [some (.v (.str w)), some (.o (b.map fun c => D.str [c])), s]) (step := stp) w (fun i b => Lts b ∧ b.length ≤ i)
    (fun i x b s hx hb => by
      have hxm := hw x (List.mem_of_getElem? hx)
      have hxa := alph_ascii hxm
      have hi : i < w.length := (List.getElem?_eq_some_iff.mp hx).1
      have hbl : ∀ c ∈ b, c < 128 := fun c hc => alph_ascii (hb.1 c hc)
      have ho := other_ok (k := k - 1) (c := x) (M := M) (by omega) hxa
      refine ⟨⟨some (.v (.str [x])), ?_⟩, fun d hd => (stp_mem hd).elim (hb.1 d) fun e => e ▸ hxm, ?_⟩
      · cases hlast : b.getLast? with
        | none =>
          have e : b = [] := List.getLast?_eq_none_iff.mp hlast
          subst e
          have hz : (0 : Nat) < SZ := by decide
          simp [forBody, F38_0, stp, hz]
        | some y =>
          have hne : b ≠ [] := fun e => by rw [e] at hlast; cases hlast
          have hat : atF (b.map fun c => D.str [c]) (-1) = some (.str [y]) := at_last (by rw [getLast_map, hlast]; rfl)
          have hp := plain_letters (n := 39) hbl
          have hne2 : eqAll (b.map fun c => D.str [c]) [] = false := by
            cases b with
            | nil => exact absurd rfl hne
            | cons c b => simp
          have hsz : b.length < SZ := by show b.length < 16777216; omega
          by_cases hy : y = oth x
          · have hs : stp b x = b.dropLast := by unfold stp; rw [if_pos (by rw [hlast, hy])]
            rw [hs]
            simp [forBody, F38_0, hp, hne2, hat, ho, hy, hlast, getLast_map, List.map_dropLast]
          · have hs : stp b x = b ++ [x] := by unfold stp; rw [if_neg (by rw [hlast]; simpa using hy)]
            rw [hs]
            simp [forBody, F38_0, hp, hne2, hat, ho, hy, hsz]
      · have := stack_len [x] b
        simp at this
        omega) [] none ⟨Lts.nil, by simp⟩
  have e := stack_rd (k := []) hw Lts.nil trivial
  rw [List.nil_append] at e
  rw [e] at hf hfin
  simp only [List.map_nil] at hf
  have hlen : (rd w).length ≤ 16777216 := by have := hfin.2; omega
  simp [b38, ex_for, hf, join_ok hlen]
theorem wd_lts {r : Nat} {w : List Nat} (hr : r ≤ 4) (h : ∀ c ∈ w, c ∈ alph r) : Lts w := fun c hc => alph_sub hr (h c hc)
end RC

set_option Elab.async false
set_option linter.all false
set_option autoImplicit false
set_option maxRecDepth 100000
set_option maxHeartbeats 2000000
/-! Rotations and the first of them; cyclic reduction. -/
namespace RC
open RCs
/-- a letter's place -/
def li (c : Nat) : Nat := (findC c [97, 65, 98, 66, 99, 67, 100, 68] 0).getD 0
theorem li_find {c : Nat} (h : c ∈ alph 4) : findC c [97, 65, 98, 66, 99, 67, 100, 68] 0 = some (li c) := by
  rcases alph_cases (r := 4) (by omega) h with rfl | rfl | rfl | rfl | rfl | rfl | rfl | rfl <;> decide
theorem li_inj {c d : Nat} (hc : c ∈ alph 4) (hd : d ∈ alph 4) (h : li c = li d) : c = d := by
  revert h
  rcases alph_cases (r := 4) (by omega) hc with rfl | rfl | rfl | rfl | rfl | rfl | rfl | rfl <;> rcases alph_cases (r := 4) (by omega) hd with rfl | rfl | rfl | rfl | rfl | rfl | rfl | rfl <;> decide
/-- the order of lists of places -/
def ltL : List Nat → List Nat → Bool
  | [], [] => false
  | [], _ :: _ => true
  | _ :: _, [] => false
  | x :: r, y :: t => decide (x < y) || (!decide (y < x) && ltL r t)
theorem ltL_irr : ∀ x : List Nat, ltL x x = false
  | [] => rfl
  | x :: r => by simp [ltL, ltL_irr r]
theorem ltL_trans : ∀ {x y z : List Nat}, ltL x y = true → ltL y z = true → ltL x z = true
  | [], [], _, h, _ => by simp [ltL] at h
  | [], _ :: _, [], _, h => by simp [ltL] at h
  | [], _ :: _, _ :: _, _, _ => rfl
  | _ :: _, [], _, h, _ => by simp [ltL] at h
  | _ :: _, _ :: _, [], _, h => by simp [ltL] at h
  | a :: x, b :: y, c :: z, h1, h2 => by
    simp only [ltL, Bool.or_eq_true, decide_eq_true_eq, Bool.and_eq_true, Bool.not_eq_true', decide_eq_false_iff_not] at *
    rcases h1 with h1 | ⟨h1, h1'⟩ <;> rcases h2 with h2 | ⟨h2, h2'⟩
    · exact .inl (by omega)
    · exact .inl (by omega)
    · exact .inl (by omega)
    · exact .inr ⟨by omega, ltL_trans h1' h2'⟩
theorem ltL_tot : ∀ {x y : List Nat}, ltL x y = false → ltL y x = false → x = y
  | [], [], _, _ => rfl
  | [], _ :: _, h, _ => by simp [ltL] at h
  | _ :: _, [], _, h => by simp [ltL] at h
  | a :: x, b :: y, h1, h2 => by
    simp only [ltL, Bool.or_eq_false_iff, decide_eq_false_iff_not, Bool.and_eq_false_imp, Bool.not_eq_true', decide_eq_false_iff_not] at *
    have e : a = b := by omega
    subst e
    rw [ltL_tot (h1.2 (by omega)) (h2.2 (by omega))]
/-- keys as data -/
def kd (w : List Nat) : D := .lst (w.map fun c => .int (li c : Nat))
theorem toks_lt : ∀ (x y : List Nat), ltT (ktoksAll (x.map fun c => .int (li c : Nat))) (ktoksAll (y.map fun c => .int (li c : Nat))) = ltL (x.map li) (y.map li)
  | [], [] => by simp [ktoksAll, ltT, ltK, ltL]
  | [], b :: y => by simp [ktoksAll, ltT, ltK, ltL]
  | a :: x, [] => by simp [ktoksAll, ltT, ltK, ltL]
  | a :: x, b :: y => by
    have ih := toks_lt x y
    simp only [List.map_cons, ktoksAll, ktoks, List.cons_append, List.nil_append, ltT, ltK, ltL, ih]
    simp
theorem kd_lt (x y : List Nat) : ltT (ktoks (kd x)) (ktoks (kd y)) = ltL (x.map li) (y.map li) := by
  unfold kd
  rw [ktoks, ktoks, toks_lt]
theorem toks_lt0 : ∀ (x y : List Nat), ltT (ktoksAll (x.map fun c => .int (li c : Nat)) ++ [.inl 0]) (ktoksAll (y.map fun c => .int (li c : Nat)) ++ [.inl 0]) = ltL (x.map li) (y.map li)
  | [], [] => by simp [ktoksAll, ltT, ltK, ltL]
  | [], b :: y => by simp [ktoksAll, ltT, ltK, ltL]
  | a :: x, [] => by simp [ktoksAll, ltT, ltK, ltL]
  | a :: x, b :: y => by
    have ih := toks_lt0 x y
    simp only [List.map_cons, ktoksAll, ktoks, List.cons_append, List.nil_append, ltT, ltK, ltL, ih]
    simp
/-- word_key -/
def kt (w : List Nat) : D := .tup [.int (w.length : Nat), kd w]
theorem kt_lt {x y : List Nat} (h : x.length = y.length) : ltT (ktoks (kt x)) (ktoks (kt y)) = ltL (x.map li) (y.map li) := by
  unfold kt kd
  have := toks_lt0 x y
  simp only [ktoks, ktoksAll, List.cons_append, List.nil_append, ltT, ltK, h, this]
  simp
theorem kd_alk (x y : List Nat) : alk (kd x) (kd y) = true := by
  unfold kd
  rw [alk]
  induction x generalizing y with
  | nil => cases y <;> simp [alkAll]
  | cons a x ih =>
    cases y with
    | nil => simp [alkAll]
    | cons b y =>
      simp only [List.map_cons, alkAll, ih y, Bool.and_true]
      rw [alk]
theorem kt_alk (x y : List Nat) : alk (kt x) (kt y) = true := by
  unfold kt
  rw [alk, alkAll, alkAll, kd_alk]
  simp [alk, alkAll]
theorem kd_plain {n : Nat} (x : List Nat) : plain (n + 1) (kd x) = true := by
  unfold kd
  rw [pl_lst]
  exact pl_map fun _ _ => pl_int
theorem kt_plain {n : Nat} (x : List Nat) : plain (n + 2) (kt x) = true := by
  unfold kt
  rw [pl_tup, pl_cons, pl_cons, pl_nil, pl_int, kd_plain]; rfl
/-! ### rotations -/
def rot (w : List Nat) (k : Nat) : List Nat := w.drop k ++ w.take k
def rots (w : List Nat) : List (List Nat) := (List.range w.length).map (rot w)
def best : List Nat → List (List Nat) → List Nat
  | b, [] => b
  | b, x :: r => if ltL (x.map li) (b.map li) then best x r else best b r
def lrot (w : List Nat) : List Nat := match rots w with
  | [] => []
  | x :: r => best x r
theorem best_mem : ∀ (r : List (List Nat)) (b : List Nat), best b r ∈ b :: r
  | [], b => List.mem_cons_self
  | x :: r, b => by
    rw [best]
    split
    · exact List.mem_cons_of_mem _ (best_mem r x)
    · rcases List.mem_cons.mp (best_mem r b) with e | e
      · rw [e]; exact List.mem_cons_self
      · exact List.mem_cons_of_mem _ (List.mem_cons_of_mem _ e)
theorem best_min : ∀ (r : List (List Nat)) (b : List Nat) (S : List Nat → Prop), (∀ s, S s → ltL (s.map li) (b.map li) = false) → S b → ∀ s, (S s ∨ s ∈ r) → ltL (s.map li) ((best b r).map li) = false
  | [], b, S, h, hb, s, hs => by
    rcases hs with hs | hs
    · exact h s hs
    · cases hs
  | x :: r, b, S, h, hb, s, hs => by
    rw [best]
    split
    · rename_i hx
      refine best_min r x (fun s => S s ∨ s = x) (fun s hs => ?_) (.inr rfl) s ?_
      · rcases hs with hs | rfl
        · cases z : ltL (s.map li) (x.map li) with
          | false => rfl
          | true => exact absurd (ltL_trans z hx) (by rw [h s hs]; simp)
        · exact ltL_irr _
      · rcases hs with hs | hs
        · exact .inl (.inl hs)
        · rcases List.mem_cons.mp hs with rfl | hs
          · exact .inl (.inr rfl)
          · exact .inr hs
    · rename_i hx
      have hx' : ltL (x.map li) (b.map li) = false := by simpa using hx
      refine best_min r b (fun s => S s ∨ s = x) (fun s hs => ?_) (.inl hb) s ?_
      · rcases hs with hs | rfl
        · exact h s hs
        · exact hx'
      · rcases hs with hs | hs
        · exact .inl (.inl hs)
        · rcases List.mem_cons.mp hs with rfl | hs
          · exact .inl (.inr rfl)
          · exact .inr hs
theorem lrot_nil : lrot [] = [] := rfl
theorem rots_ne {w : List Nat} (h : w ≠ []) : rots w ≠ [] := by
  unfold rots
  intro e
  have := List.length_pos_iff.mpr h
  simp at e
  exact h e
theorem lrot_mem {w : List Nat} (h : w ≠ []) : lrot w ∈ rots w := by
  unfold lrot
  split
  · rename_i e
    exact absurd e (rots_ne h)
  · rename_i x r e
    rw [e]; exact best_mem r x
theorem lrot_rot {w : List Nat} : ∃ k, k ≤ w.length ∧ lrot w = rot w k := by
  by_cases h : w = []
  · subst h
    exact ⟨0, by simp, rfl⟩
  · obtain ⟨k, hk, e⟩ := List.mem_map.mp (lrot_mem h)
    have : k < w.length := by simpa using hk
    exact ⟨k, by omega, e.symm⟩
theorem lrot_min {w x : List Nat} (hx : x ∈ rots w) : ltL (x.map li) ((lrot w).map li) = false := by
  unfold lrot
  split
  · rename_i e
    rw [e] at hx
    cases hx
  · rename_i y r e
    rw [e] at hx
    refine best_min r y (· = y) (fun s hs => by rw [hs]; exact ltL_irr _) rfl x ?_
    rcases List.mem_cons.mp hx with z | z
    · exact .inl z
    · exact .inr z
theorem rot_len (w : List Nat) (k : Nat) : (rot w k).length = w.length := by
  unfold rot
  simp
  omega
theorem rot_mem {w : List Nat} {k c : Nat} (h : c ∈ rot w k) : c ∈ w := by
  unfold rot at h
  rcases List.mem_append.mp h with z | z
  · exact List.mem_of_mem_drop z
  · exact List.mem_of_mem_take z
end RC

set_option Elab.async false
set_option linter.all false
set_option autoImplicit false
set_option maxRecDepth 100000
set_option maxHeartbeats 2000000
namespace RC
open RCs
/-! ### while -/
def run {α : Type} (nx : α → Option α) : Nat → α → α
  | 0, a => a
  | n + 1, a => match nx a with
    | none => a
    | some b => run nx n b
theorem run_ind {α : Type} {nx : α → Option α} (P : α → Prop) (h : ∀ a b, P a → nx a = some b → P b) : ∀ (n : Nat) (a : α), P a → P (run nx n a)
  | 0, _, ha => ha
  | n + 1, a, ha => by
    rw [run]
    split
    · exact ha
    · rename_i b e
      exact run_ind P h n b (h a b ha e)
theorem run_end {α : Type} {nx : α → Option α} (μ : α → Nat) (h : ∀ a b, nx a = some b → μ b < μ a) : ∀ (n : Nat) (a : α), μ a < n → nx (run nx n a) = none
  | 0, _, ha => absurd ha (Nat.not_lt_zero _)
  | n + 1, a, ha => by
    rw [run]
    split
    · assumption
    · rename_i b e
      exact run_end μ h n b (by have := h a b e; omega)
theorem run_none {α : Type} {nx : α → Option α} {a : α} (h : nx a = none) : ∀ n, run nx n a = a
  | 0 => rfl
  | n + 1 => by rw [run, h]
theorem while_run {α : Type} {c : Cfg} {t : E} {b : Cs} {M : Store} {E : α → Env} {nx : α → Option α} (P : α → Prop) (μ : α → Nat) (h0 : ∀ a, P a → nx a = none → ev c t (E a) M = .ok (.bl false) M)
    (h1 : ∀ a a', P a → nx a = some a' → ev c t (E a) M = .ok (.bl true) M ∧ exs c b (E a) M = .next (E a') M ∧ P a' ∧ μ a' < μ a) :
    ∀ (n : Nat) (a : α), P a → μ a < n → whileLoop (fun ρ M => ev c t ρ M) (fun ρ M => exs c b ρ M) n (E a) M = .next (E (run nx n a)) M
  | 0, _, _, h => absurd h (Nat.not_lt_zero _)
  | n + 1, a, hP, hm => by
    rw [whileLoop, run]
    cases z : nx a with
    | none => rw [h0 a hP z]; rfl
    | some a' =>
      obtain ⟨q1, q2, q3, q4⟩ := h1 a a' hP z
      rw [q1]
      show (match exs c b (E a) M with
        | .next ρ1 M2 => whileLoop (fun ρ M => ev c t ρ M) (fun ρ M => exs c b ρ M) n ρ1 M2
        | .cont ρ1 M2 => whileLoop (fun ρ M => ev c t ρ M) (fun ρ M => exs c b ρ M) n ρ1 M2
        | .brk ρ1 M2 => .next ρ1 M2
        | o => o) = _
      rw [q2]
      exact while_run P μ h0 h1 n a' q3 (by omega)
/-! ### cyclic reduction -/
def strip (w : List Nat) : List Nat := (w.drop 1).dropLast
def cnx (w : List Nat) : Option (List Nat) := if 1 < w.length ∧ w.head? = w.getLast?.map oth then some (strip w) else none
def cyc (w : List Nat) : List Nat := run cnx 100000 w
theorem strip_len (w : List Nat) : (strip w).length = w.length - 1 - 1 := by simp [strip]
theorem cnx_lt {a b : List Nat} (h : cnx a = some b) : b.length < a.length := by
  unfold cnx at h
  split at h
  · rename_i z
    cases h
    rw [strip_len]; omega
  · cases h
theorem strip_mem {w : List Nat} {c : Nat} (h : c ∈ strip w) : c ∈ w := List.mem_of_mem_drop ((List.dropLast_sublist _).subset h)
theorem cyc_mem {w : List Nat} {c : Nat} (h : c ∈ cyc w) : c ∈ w :=
  run_ind (nx := cnx) (fun x => ∀ c ∈ x, c ∈ w) (fun a b ha e c hc => by
    unfold cnx at e
    split at e
    · cases e; exact ha c (strip_mem hc)
    · cases e) 100000 w (fun _ h => h) c h
theorem cyc_len (w : List Nat) : (cyc w).length ≤ w.length :=
  run_ind (nx := cnx) (fun x => x.length ≤ w.length) (fun a b ha e => Nat.le_trans (Nat.le_of_lt (cnx_lt e)) ha) 100000 w (Nat.le_refl _)
theorem cnx_shape {w x : List Nat} (hw : Lts w) (h : cnx w = some x) : ∃ c, c ∈ alph 4 ∧ w = c :: x ++ [oth c] := by
  unfold cnx at h
  split at h
  · rename_i z
    cases h
    obtain ⟨h1, h2⟩ := z
    match w, h1, h2 with
    | a :: b :: t, _, h2 =>
      rcases List.eq_nil_or_concat (b :: t) with e | ⟨y, d, e⟩
      · cases e
      · have e' : b :: t = y ++ [d] := by simpa using e
        rw [e'] at h2 ⊢
        have hd : d ∈ alph 4 := hw d (by rw [e']; simp)
        have ha : a = oth d := by
          have hgl : (a :: (y ++ [d])).getLast? = some d := (List.getLast?_concat : ((a :: y) ++ [d]).getLast? = some d)
          rw [hgl] at h2
          simpa using h2
        refine ⟨a, hw a List.mem_cons_self, ?_⟩
        rw [ha, oo hd]
        simp [strip]
  · cases h
theorem cyc_conj {w : List Nat} (hw : Lts w) : ∃ u, Lts u ∧ w = u ++ cyc w ++ inv u := by
  have := run_ind (nx := cnx) (fun x => Lts x ∧ ∃ u, Lts u ∧ w = u ++ x ++ inv u) (fun a b ha e => by
    obtain ⟨h1, u, h2, h3⟩ := ha
    obtain ⟨c, hc, e2⟩ := cnx_shape h1 e
    refine ⟨fun d hd => h1 d (by rw [e2]; simp [hd]), u ++ [c], h2.app (fun d hd => by rw [(by simpa using hd : d = c)]; exact hc), ?_⟩
    rw [h3, e2, inv_app]
    have : inv [c] = [oth c] := by rw [show inv [c] = [swC c] from rfl, sw hc]
    rw [this]
    simp) 100000 w ⟨hw, [], Lts.nil, by simp [inv]⟩
  exact this.2
theorem strip_slc {w : List Nat} (h : 1 < w.length) : slcL w (some 1) (some (-1)) = strip w := by
  have c1 : clip w.length 1 = 1 := by
    unfold clip
    rw [if_neg (by omega)]
    show min 1 w.length = 1
    omega
  have c2 : clip w.length (-1) = w.length - 1 := by
    unfold clip
    rw [if_pos (by omega)]
    omega
  simp only [slcL, cutL, clipO, c1, c2]
  unfold strip
  rw [List.dropLast_eq_take]
  simp
/-! ### the law's round -/
theorem lkey_ok {k : Nat} {w : List Nat} {M : Store} (hk : 1 ≤ k) (hw : Lts w) (hl : w.length ≤ 16777216) : callF P k 39 [.str w] M = .ok (kd w) M := by
  have h1 : ev (P.cfg (k - 1)) L39_0 [some (.v (.str w)), none] M = .ok (.lst (w.map fun c => .int (li c : Nat))) M :=
    ev_lc (xs := w) (fun c => .str [c]) _ (by simp) hl fun c hc => ⟨_, rfl, by simp [mtF, li_find (hw c hc)]⟩
  rw [C39 hk]
  simp [b39, h1, kd]
theorem minF_rots {c : Cfg} {f : Nat} {kf : List Nat → D} : ∀ {xs : List (List Nat)}, (∀ x ∈ xs, keyOf c f (.str x) = some (kf x)) → (∀ x y, alk (kf x) (kf y) = true) → (∀ x ∈ xs, ∀ y ∈ xs, ltT (ktoks (kf x)) (ktoks (kf y)) = ltL (x.map li) (y.map li)) →
    minF (keyOf c f) (.lst (xs.map .str)) = match xs with | [] => none | x :: r => some (.str (best x r))
  | xs, hk, ha, hl => by
    have e1 : ∀ {ys : List (List Nat)}, (∀ x ∈ ys, keyOf c f (.str x) = some (kf x)) → keyAll (keyOf c f) (ys.map .str) = some (ys.map fun x => (kf x, .str x)) := by
      intro ys
      induction ys with
      | nil => intro _; rfl
      | cons y ys ih =>
        intro h
        rw [List.map_cons, keyAll, h y List.mem_cons_self, ih fun x hx => h x (List.mem_cons_of_mem _ hx)]
        rfl
    have e2 : ∀ (r : List (List Nat)) (b : List Nat), (∀ x ∈ b :: r, ∀ y ∈ b :: r, ltT (ktoks (kf x)) (ktoks (kf y)) = ltL (x.map li) (y.map li)) → bestK (kf b) (.str b) (r.map fun x => (kf x, .str x)) = .str (best b r) := by
      intro r
      induction r with
      | nil => intro b _; rfl
      | cons x r ih =>
        intro b h
        rw [List.map_cons, bestK, best, h x (by simp) b (by simp)]
        split
        · exact ih x fun p hp q hq => h p (List.mem_cons_of_mem _ hp) q (List.mem_cons_of_mem _ hq)
        · exact ih b fun p hp q hq => h p (by
            rcases List.mem_cons.mp hp with e | e
            · rw [e]; simp
            · simp [e]) q (by
            rcases List.mem_cons.mp hq with e | e
            · rw [e]; simp
            · simp [e])
    cases xs with
    | nil => rfl
    | cons x r =>
      unfold minF
      simp only
      rw [e1 hk]
      simp only [List.map_cons]
      rw [if_pos, e2 r x hl]
      unfold alkEach
      rw [List.all_eq_true]
      intro p hp
      rw [List.all_eq_true]
      intro q hq
      have hp' : p ∈ (x :: r).map fun x => (kf x, D.str x) := hp
      have hq' : q ∈ (x :: r).map fun x => (kf x, D.str x) := hq
      obtain ⟨a, _, rfl⟩ := List.mem_map.mp hp'
      obtain ⟨b, _, rfl⟩ := List.mem_map.mp hq'
      exact ha a b
theorem turns_ev {c : Cfg} {ρ : Env} {M : Store} {i j : Nat} {w : List Nat} (hl : w.length ≤ 100000) (hi : getV ρ i = some (.str w)) (hij : i ≠ j) (hj : j < ρ.length) :
    ev c (.lc (.n j) (.rng (.bi .len (.cons (.var i) .nil))) .nil (.bin .add (.slcL (.var i) (.var j)) (.slcU (.var i) (.var j)))) ρ M = .ok (.lst ((rots w).map .str)) M := by
  have hl2 : w.length ≤ 16777216 := by omega
  have hb : -1000000 ≤ (w.length : Int) ∧ (w.length : Int) ≤ 1000000 := by omega
  have h := ev_lc (c := c) (tg := .n j) (it := .rng (.bi .len (.cons (.var i) .nil))) (elt := .bin .add (.slcL (.var i) (.var j)) (.slcU (.var i) (.var j))) (ρ := ρ) (M := M) (xs := List.range w.length) (fun k => .int (k : Nat)) (fun k => .str (rot w k)) (by simp [hi, hl2, hb, rng0_map]) (by simp; omega) (fun k hk => by
    have hk' : k < w.length := by simpa using hk
    refine ⟨_, rfl, ?_⟩
    have g1 : getV (setV (wipeE ρ (tgSlots (.n j))) j (.int (k : Nat))) i = some (.str w) := by
      simp only [ts_n, w_cons, w_nil, setV, getV]
      unfold getV at hi
      rw [List.getElem?_set_ne (by omega), List.getElem?_set_ne (by omega)]
      exact hi
    have g2 : getV (setV (wipeE ρ (tgSlots (.n j))) j (.int (k : Nat))) j = some (.int (k : Nat)) := by
      simp only [ts_n, w_cons, w_nil, setV, getV]
      rw [List.getElem?_set_self (by simpa using hj)]
    have hsz : (w.drop k).length + (w.take k).length ≤ 16777216 := by simp; omega
    simp only [s_bin, s_slcL, s_slcU, s_var, g1, g2, Res.of_some, Res.bind_ok, sl_str hl2, slc_from, slc_to, bf_add, add_str hsz]
    rfl)
  rw [h]
  unfold rots
  rw [List.map_map]
  rfl
theorem round_ok {k : Nat} {w : List Nat} {M : Store} (hk : 3 ≤ k) (hw : Lts w) (hl : w.length ≤ 1000) : callF P k 40 [.str w] M = .ok (.str (lrot (cyc (rd w)))) M := by
  rw [C40 (by omega)]
  have hrl := rd_len w
  have hlp := while_run (c := P.cfg (k - 1)) (t := T40_0) (b := W40_0) (M := M) (E := fun x : List Nat => [some (.v (.str x)), none, none]) (nx := cnx) (fun x => Lts x ∧ x.length ≤ 1000) List.length (fun x hx hn => by
      have h1 : x.length ≤ 16777216 := by have := hx.2; omega
      by_cases hlen : 1 < x.length
      · have hlen' : (1 : Int) < (x.length : Int) := by omega
        obtain ⟨a, ha⟩ : ∃ a, x.head? = some a := by cases x with | nil => simp at hlen | cons a x => exact ⟨a, rfl⟩
        obtain ⟨z, hz⟩ : ∃ z, x.getLast? = some z := by
          cases q : x.getLast? with
          | none => rw [List.getLast?_eq_none_iff] at q; rw [q] at hlen; simp at hlen
          | some z => exact ⟨z, rfl⟩
        have hne : ¬ a = oth z := fun e => by
          unfold cnx at hn
          rw [if_pos ⟨hlen, by rw [ha, hz, e]; rfl⟩] at hn
          cases hn
        have h0 : atF x 0 = some a := by
          rw [show (0 : Int) = ((0 : Nat) : Int) from rfl, atF_nat, ← List.head?_eq_getElem?]; exact ha
        have hza := alph_ascii (hx.1 z (List.mem_of_getLast? hz))
        simp [T40_0, h1, hlen', h0, at_last hz, other_ok (show 1 ≤ k - 1 by omega) hza, hne]
      · have hlen' : ¬ (1 : Int) < (x.length : Int) := by omega
        simp [T40_0, h1, hlen']) (fun x y hx hn => by
      have h1 : x.length ≤ 16777216 := by have := hx.2; omega
      have hlt := cnx_lt hn
      obtain ⟨c, hc, e⟩ := cnx_shape hx.1 hn
      have ha : x.head? = some c := by rw [e]; rfl
      have hz2 : x.getLast? = some (oth c) := by rw [e]; exact (List.getLast?_concat : ((c :: y) ++ [oth c]).getLast? = some (oth c))
      have hn2 := hn
      unfold cnx at hn2
      split at hn2
      · rename_i hz
        cases hn2
        have hlen' : (1 : Int) < (x.length : Int) := by omega
        have h0 : atF x 0 = some c := by
          rw [show (0 : Int) = ((0 : Nat) : Int) from rfl, atF_nat, ← List.head?_eq_getElem?]; exact ha
        have hza := alph_ascii (om hc)
        refine ⟨?_, ?_, ⟨fun d hd => hx.1 d (strip_mem hd), by have := hx.2; omega⟩, hlt⟩
        · simp [T40_0, h1, hlen', h0, at_last hz2, other_ok (show 1 ≤ k - 1 by omega) hza, oo hc]
        · simp [W40_0, h1, strip_slc hz.1]
      · cases hn2) 100000 (rd w) ⟨hw.rd, by omega⟩ (by omega)
  have hcl := cyc_len (rd w)
  have hcm : Lts (cyc (rd w)) := fun c hc => hw.rd c (cyc_mem hc)
  have ht : ev (P.cfg (k - 1)) L40_0 [some (.v (.str (cyc (rd w)))), none, none] M = .ok (.lst ((rots (cyc (rd w))).map .str)) M :=
    turns_ev (i := 0) (j := 2) (by omega) rfl (by omega) (by simp)
  have hm := minF_rots (c := P.cfg (k - 1)) (f := 39) (kf := kd) (xs := rots (cyc (rd w))) (fun x hx => by
    obtain ⟨j, _, rfl⟩ := List.mem_map.mp hx
    have hlx : Lts (rot (cyc (rd w)) j) := fun c hc => hcm c (rot_mem hc)
    have hll : (rot (cyc (rd w)) j).length ≤ 16777216 := by rw [rot_len]; omega
    unfold keyOf
    simp only [cfg_call, lkey_ok (show 1 ≤ k - 1 by omega) hlx hll]
    rw [if_pos (show isPlain (kd _) = true from kd_plain _)]) kd_alk (fun x _ y _ => kd_lt x y)
  simp only [b40, xs_cons, x_set, s_call, ss_cons, ss_nil, s_var, g_some, Res.of_some, Res.bind_ok, cfg_call, short_ok (show 2 ≤ k - 1 by omega) hw (show w.length ≤ 1000000 by omega), Res.then_ok, p_zero, ex_while, cfg_lf, P_lf]
  rw [hlp]
  simp only [show run cnx 100000 (rd w) = cyc (rd w) from rfl, ht, Res.then_ok, p_succ, p_zero]
  have hpl : plainAll 39 ((rots (cyc (rd w))).map .str) = true := pl_map fun x hx => by
    obtain ⟨j, _, rfl⟩ := List.mem_map.mp hx
    exact pl_str fun c hc => by have := alph_ascii (hcm c (rot_mem hc)); omega
  unfold lrot
  cases hro : rots (cyc (rd w)) with
  | nil => simp
  | cons x r =>
    rw [hro] at hm hpl
    simp only [List.map_cons, pl_cons, Bool.and_eq_true] at hm hpl
    have hmev : ev (P.cfg (k - 1)) (.minK 39 (.var 1)) [some (.v (.str (cyc (rd w)))), some (.v (.lst (.str x :: r.map .str))), none] M = .ok (.str (best x r)) M := by
      rw [ev]
      simp [hm]
    simp [hpl.1, hpl.2, hmev]
end RC

set_option Elab.async false
set_option linter.all false
set_option autoImplicit false
set_option maxRecDepth 100000
set_option maxHeartbeats 2000000
/-! Values and traces of reduced, inverted, rotated words. -/
namespace RC
open RCs
def Mat.tr (m : Mat) : Int := m.p + m.v
theorem tr_mul (a b : Mat) : (a.mul b).tr = (b.mul a).tr := by
  simp only [Mat.tr, Mat.mul]
  grind
theorem val_act {T : List Mat} {c : Nat} {w : List Nat} (hT : ∀ m ∈ T, m.det = 1) (hc : c ∈ alph 4) : val T (act c w) = (tbl T c).mul (val T w) := by
  unfold act
  split
  · rename_i h
    cases w with
    | nil => cases h
    | cons x w =>
      have : x = oth c := by simpa using h
      subst this
      rw [val_cons, tbl_oth (r := 4) (by omega) hc, ← Mat.mul_assoc, Mat.mul_inv (det_tbl hT), Mat.one_mul]
      rfl
  · exact val_cons T c w
theorem val_rd {T : List Mat} (hT : ∀ m ∈ T, m.det = 1) : ∀ {w : List Nat}, Lts w → val T (rd w) = val T w
  | [], _ => rfl
  | c :: w, h => by
    show val T (act c (rd w)) = _
    rw [val_act hT (h c List.mem_cons_self), val_rd hT h.tail, val_cons]
theorem inv_of_mul {a b : Mat} (ha : a.det = 1) (h : a.mul b = Mat.one) : b = a.inv := by
  have h3 := Mat.mul_inv (a := a.inv) (by rw [Mat.det_inv]; exact ha)
  rw [Mat.inv_inv] at h3
  calc b = Mat.one.mul b := (Mat.one_mul _).symm
    _ = (a.inv.mul a).mul b := by rw [h3]
    _ = a.inv.mul (a.mul b) := Mat.mul_assoc _ _ _
    _ = a.inv := by rw [h, Mat.mul_one]
theorem det_val' {T : List Mat} (hT : ∀ m ∈ T, Mat.det m = 1) : ∀ u : List Nat, (val T u).det = 1
  | [] => rfl
  | x :: u => by rw [val_cons, Mat.det_mul, det_val' hT u, det_tbl hT]; rfl
theorem val_inv' {T : List Mat} {w : List Nat} (hT : ∀ m ∈ T, m.det = 1) (h : Lts w) : val T (inv w) = (val T w).inv :=
  inv_of_mul (det_val' hT w) (val_inv (r := 4) (by omega) hT h)
theorem tr_rot {T : List Mat} {w : List Nat} {k : Nat} : (val T (rot w k)).tr = (val T w).tr := by
  unfold rot
  rw [val_app, tr_mul, ← val_app, List.take_append_drop]
theorem tr_conj {T : List Mat} {u x : List Nat} (hT : ∀ m ∈ T, m.det = 1) (hu : Lts u) : (val T (u ++ x ++ inv u)).tr = (val T x).tr := by
  rw [val_app, val_app, tr_mul, ← Mat.mul_assoc]
  have h := Mat.mul_inv (a := (val T u).inv) (by rw [Mat.det_inv]; exact det_val' hT u)
  rw [Mat.inv_inv] at h
  rw [val_inv' hT hu, h, Mat.one_mul]
theorem tr_round {T : List Mat} {w : List Nat} (hT : ∀ m ∈ T, m.det = 1) (hw : Lts w) : (val T (lrot (cyc (rd w)))).tr = (val T w).tr := by
  obtain ⟨k, _, e⟩ := lrot_rot (w := cyc (rd w))
  obtain ⟨u, hu, e2⟩ := cyc_conj hw.rd
  rw [e, tr_rot, ← tr_conj hT hu, ← e2, val_rd hT hw]
/-! ### rotations of cyclically reduced words -/
/-- the ends are no inverses -/
def Cy (w : List Nat) : Prop := Red w ∧ ∀ x y, w.getLast? = some x → w.head? = some y → y ≠ oth x ∨ w.length ≤ 1
theorem cyc_red {w : List Nat} (h : Red w) : Red (cyc w) :=
  run_ind (nx := cnx) Red (fun a b ha e => by
    unfold cnx at e
    split at e
    · cases e
      unfold strip
      rw [List.dropLast_eq_take]
      exact red_take _ (red_drop _ ha)
    · cases e) 100000 w h
theorem cyc_cy {w : List Nat} (h : Red w) (hl : w.length < 100000) : Cy (cyc w) := by
  refine ⟨cyc_red h, fun x y hx hy => ?_⟩
  have := run_end (nx := cnx) List.length (fun a b e => cnx_lt e) 100000 w hl
  have e : cnx (cyc w) = none := this
  unfold cnx at e
  split at e
  · cases e
  · rename_i hn
    by_cases hlen : 1 < (cyc w).length
    · exact .inl fun z => hn ⟨hlen, by rw [hx, hy, z]; rfl⟩
    · exact .inr (by omega)
theorem rot_red {w : List Nat} {k : Nat} (h : Cy w) : Red (rot w k) := by
  unfold rot
  by_cases hk : k < w.length
  · by_cases h0 : k = 0
    · subst h0; simpa using h.1
    · refine red_app (red_drop _ h.1) (red_take _ h.1) fun x y hx hy => ?_
      have hx' : w.getLast? = some x := by
        rw [List.getLast?_drop] at hx
        split at hx
        · cases hx
        · exact hx
      have hy' : w.head? = some y := by
        cases w with
        | nil => simp at hk
        | cons c w =>
          obtain ⟨j, rfl⟩ : ∃ j, k = j + 1 := ⟨k - 1, by omega⟩
          simpa using hy
      rcases h.2 x y hx' hy' with z | z
      · exact z
      · omega
  · have e1 : w.drop k = [] := List.drop_of_length_le (by omega)
    have e2 : w.take k = w := List.take_of_length_le (by omega)
    rw [e1, e2]; exact h.1
theorem round_wd {r : Nat} {w : List Nat} (hw : ∀ c ∈ w, c ∈ alph r) (hl : w.length < 100000) : Wd r (lrot (cyc (rd w))) ∧ (lrot (cyc (rd w))).length ≤ w.length := by
  obtain ⟨k, _, e⟩ := lrot_rot (w := cyc (rd w))
  have h1 := rd_len w
  have h2 := cyc_len (rd w)
  rw [e]
  refine ⟨⟨fun c hc => hw c (rd_mem (cyc_mem (rot_mem hc))), rot_red (cyc_cy (rd_red w) (by omega))⟩, by rw [rot_len]; omega⟩
end RC

set_option Elab.async false
set_option linter.all false
set_option autoImplicit false
set_option maxRecDepth 100000
set_option maxHeartbeats 2000000
/-! The ring of a word does not change under conjugation. -/
namespace RC
open RCs
theorem run_fuel {α : Type} {nx : α → Option α} (μ : α → Nat) (h : ∀ a b, nx a = some b → μ b < μ a) : ∀ (n m : Nat) (a : α), μ a < n → μ a < m → run nx n a = run nx m a
  | 0, _, _, h1, _ => absurd h1 (Nat.not_lt_zero _)
  | _, 0, _, _, h2 => absurd h2 (Nat.not_lt_zero _)
  | n + 1, m + 1, a, h1, h2 => by
    rw [run, run]
    cases z : nx a with
    | none => rfl
    | some b =>
      have := h a b z
      exact run_fuel μ h n m b (by omega) (by omega)
theorem cyc_step {w x : List Nat} (h : cnx w = some x) (hl : w.length < 99999) : cyc w = cyc x := by
  unfold cyc
  rw [show (100000 : Nat) = 99999 + 1 from rfl, run, h]
  have := cnx_lt h
  exact run_fuel List.length (fun a b e => cnx_lt e) 99999 (99999 + 1) x (by omega) (by omega)
theorem cyc_stop {w : List Nat} (h : cnx w = none) : cyc w = w := run_none h _
theorem cnx_some {c : Nat} {x : List Nat} (hc : c ∈ alph 4) : cnx (c :: x ++ [oth c]) = some x := by
  unfold cnx
  have h1 : (c :: x ++ [oth c]).getLast? = some (oth c) := List.getLast?_concat
  rw [if_pos ⟨by simp, by rw [h1]; simp [oo hc]⟩]
  simp [strip]
theorem cnx_none {w : List Nat} (h : ∀ x y, w.getLast? = some x → w.head? = some y → y ≠ oth x) : cnx w = none := by
  unfold cnx
  rw [if_neg]
  rintro ⟨h1, h2⟩
  obtain ⟨x, hx⟩ : ∃ x, w.getLast? = some x := by
    cases q : w.getLast? with
    | none => rw [List.getLast?_eq_none_iff] at q; rw [q] at h1; simp at h1
    | some x => exact ⟨x, rfl⟩
  rw [hx] at h2
  exact h x (oth x) hx h2 rfl
theorem cnx_one {c : Nat} : cnx [c] = none := by
  unfold cnx
  rw [if_neg (by simp)]
/-! ### rotations -/
theorem map_li : ∀ {x y : List Nat}, Lts x → Lts y → x.map li = y.map li → x = y
  | [], [], _, _, _ => rfl
  | [], _ :: _, _, _, h => by simp at h
  | _ :: _, [], _, _, h => by simp at h
  | a :: x, b :: y, hx, hy, h => by
    simp only [List.map_cons, List.cons.injEq] at h
    rw [li_inj (hx a List.mem_cons_self) (hy b List.mem_cons_self) h.1, map_li hx.tail hy.tail h.2]
theorem rots_lts {w x : List Nat} (hw : Lts w) (h : x ∈ rots w) : Lts x := by
  obtain ⟨k, _, rfl⟩ := List.mem_map.mp h
  exact fun c hc => hw c (rot_mem hc)
theorem lrot_lts {w : List Nat} (hw : Lts w) : Lts (lrot w) := by
  obtain ⟨k, _, e⟩ := lrot_rot (w := w)
  rw [e]
  exact fun c hc => hw c (rot_mem hc)
theorem lrot_unique {w x : List Nat} (hw : Lts w) (hx : x ∈ rots w) (h : ∀ y ∈ rots w, ltL (y.map li) (x.map li) = false) : x = lrot w := by
  have hne : w ≠ [] := fun e => by rw [e] at hx; cases hx
  exact map_li (rots_lts hw hx) (lrot_lts hw) (ltL_tot (lrot_min hx) (h _ (lrot_mem hne)))
theorem rot_cons {a j : Nat} {t : List Nat} (hj : j ≤ t.length) : rot (t ++ [a]) j = rot (a :: t) (j + 1) := by
  unfold rot
  rw [List.drop_append_of_le_length hj, List.take_append_of_le_length hj]
  simp
theorem rot_all (w : List Nat) : rot w w.length = w := by simp [rot]
theorem rot_zero (w : List Nat) : rot w 0 = w := by simp [rot]
theorem rots_step {a : Nat} {t x : List Nat} : x ∈ rots (t ++ [a]) ↔ x ∈ rots (a :: t) := by
  unfold rots
  simp only [List.mem_map, List.mem_range, List.length_append, List.length_cons, List.length_nil]
  constructor
  · rintro ⟨j, hj, rfl⟩
    rw [rot_cons (by omega)]
    by_cases h : j + 1 < t.length + 1
    · exact ⟨j + 1, h, rfl⟩
    · refine ⟨0, by omega, ?_⟩
      have e : j + 1 = (a :: t).length := by simp; omega
      rw [rot_zero, e, rot_all]
  · rintro ⟨j, hj, rfl⟩
    cases j with
    | zero =>
      refine ⟨t.length, by omega, ?_⟩
      rw [rot_cons (Nat.le_refl _), show t.length + 1 = (a :: t).length from rfl, rot_all, rot_zero]
    | succ j => exact ⟨j, by omega, rot_cons (by omega)⟩
theorem lrot_step {a : Nat} {t : List Nat} (h : Lts (a :: t)) : lrot (t ++ [a]) = lrot (a :: t) := by
  have h1 : Lts (t ++ [a]) := fun c hc => h c (by simp at hc ⊢; exact hc.symm)
  refine lrot_unique h (rots_step.mp (lrot_mem (by simp))) fun y hy => lrot_min (rots_step.mpr hy)
theorem lrot_rot_eq {w : List Nat} (hw : Lts w) : ∀ k, lrot (rot w k) = lrot w
  | 0 => by rw [rot_zero]
  | k + 1 => by
    by_cases hk : k < w.length
    · have ih := lrot_rot_eq hw k
      cases e : w.drop k with
      | nil => rw [List.drop_eq_nil_iff] at e; omega
      | cons a t =>
        have e1 : rot w k = a :: (t ++ w.take k) := by unfold rot; rw [e]; rfl
        have e2 : rot w (k + 1) = (t ++ w.take k) ++ [a] := by
          unfold rot
          have h1 : w.drop (k + 1) = t := by rw [← List.drop_drop, e]; rfl
          have h2 : w.take (k + 1) = w.take k ++ [a] := by
            rw [List.take_add_one]
            have : w[k]? = some a := by
              have := congrArg (·[0]?) e
              simpa using this
            rw [this]; rfl
          rw [h1, h2]; simp
        have hl : Lts (a :: (t ++ w.take k)) := by rw [← e1]; exact fun c hc => hw c (rot_mem hc)
        rw [e2, lrot_step hl, ← e1, ih]
    · have e1 : rot w (k + 1) = w := by
        unfold rot
        rw [List.drop_of_length_le (by omega), List.take_of_length_le (by omega)]; rfl
      rw [e1]
theorem lrot_idem {w : List Nat} (hw : Lts w) : lrot (lrot w) = lrot w := by
  obtain ⟨k, _, e⟩ := lrot_rot (w := w)
  rw [e, lrot_rot_eq hw, e]
/-! ### conjugation -/
/-- the ring of a text -/
def ring (w : List Nat) : List Nat := lrot (cyc (rd w))
theorem ring_rd (w : List Nat) : ring (rd w) = ring w := by unfold ring; rw [rd_rd]
theorem cy_cyc {w : List Nat} (h : ∀ x y, w.getLast? = some x → w.head? = some y → y ≠ oth x) : cyc w = w := cyc_stop (cnx_none h)
theorem last_cons {a : Nat} {t : List Nat} (h : t ≠ []) : (a :: t).getLast? = t.getLast? := by
  cases t with
  | nil => exact absurd rfl h
  | cons b t => simp [List.getLast?_cons_cons]
theorem last_some {t : List Nat} (h : t ≠ []) : ∃ t' d, t = t' ++ [d] := by
  rcases List.eq_nil_or_concat t with e | ⟨t', d, e⟩
  · exact absurd e h
  · exact ⟨t', d, by simpa using e⟩
theorem ring_conj1 {c : Nat} {w : List Nat} (hc : c ∈ alph 4) (hw : Lts w) (hr : Red w) (hl : w.length < 99990) : ring (c :: w ++ [oth c]) = ring w := by
  unfold ring
  rw [rd_id hr]
  by_cases hA : w.head? = some (oth c)
  · cases w with
    | nil => cases hA
    | cons x t =>
      have hx : x = oth c := by simpa using hA
      subst hx
      have e1 : rd (c :: oth c :: t ++ [oth c]) = rd (t ++ [oth c]) := rd_pair (a := []) (b := t ++ [oth c]) hc
      rw [e1]
      by_cases ht : t = []
      · subst ht
        rfl
      · obtain ⟨t', d, rfl⟩ := last_some ht
        by_cases hd : d = c
        · subst hd
          have e2 : rd (t' ++ [d] ++ [oth d]) = t' := by
            rw [show t' ++ [d] ++ [oth d] = t' ++ d :: oth d :: [] by simp, rd_pair hc, List.append_nil]
            exact rd_id (by simpa using red_take t'.length (red_tail hr))
          rw [e2]
          have e3 : cnx (oth d :: t' ++ [oth (oth d)]) = some t' := cnx_some (om hc)
          rw [oo hc] at e3
          rw [show oth d :: (t' ++ [d]) = oth d :: t' ++ [d] from rfl, cyc_step e3 (by simpa using Nat.lt_of_lt_of_le hl (by omega))]
        · have hred : Red (t' ++ [d] ++ [oth c]) := red_snoc (red_tail hr) fun y hy e => by
            have : y = d := by
              have := hy
              rw [List.getLast?_concat] at this
              exact (Option.some.inj this).symm
            subst this
            exact hd (o_inj hc (hw y (by simp)) e).symm
          rw [rd_id hred]
          have k1 : cyc (t' ++ [d] ++ [oth c]) = t' ++ [d] ++ [oth c] := cy_cyc fun x y hx hy e => by
            rw [List.getLast?_concat] at hx
            cases hx
            rw [oo hc] at e
            have hh : (t' ++ [d]).head? = some y := by
              cases t' with
              | nil => simpa using hy
              | cons z t' => simpa using hy
            subst e
            cases q : t' ++ [d] with
            | nil => simp at q
            | cons z q' =>
              rw [q] at hh hr
              have : z = y := by simpa using hh
              exact hr.1 (by rw [this, oo hc])
          have k2 : cyc (oth c :: (t' ++ [d])) = oth c :: (t' ++ [d]) := cy_cyc fun x y hx hy e => by
            rw [last_cons (by simp), List.getLast?_concat] at hx
            cases hx
            have : y = oth c := by simpa using hy.symm
            rw [this] at e
            exact hd (o_inj hc (hw d (by simp)) e).symm
          rw [k1, k2]
          exact lrot_step hw
  · have hcw : Red (c :: w) := by
      cases w with
      | nil => trivial
      | cons x w => exact ⟨fun e => hA (by rw [e]; rfl), hr⟩
    by_cases hw0 : w = []
    · subst hw0
      have : rd ([c] ++ [oth c]) = [] := by
        have := rd_pair (a := []) (b := []) hc
        simpa [rd] using this
      show lrot (cyc (rd ([c] ++ [oth c]))) = _
      rw [this]
    · obtain ⟨t, d, rfl⟩ := last_some hw0
      by_cases hd : d = c
      · subst hd
        have e2 : rd (d :: (t ++ [d]) ++ [oth d]) = d :: t := by
          rw [show d :: (t ++ [d]) ++ [oth d] = (d :: t) ++ d :: oth d :: [] by simp, rd_pair hc, List.append_nil]
          have := red_take (t.length + 1) hcw
          exact rd_id (by simpa using this)
        rw [e2]
        have k2 : cyc (t ++ [d]) = t ++ [d] := cy_cyc fun x y hx hy e => by
          rw [List.getLast?_concat] at hx
          cases hx
          exact hA (by rw [hy, e])
        have k1 : cyc (d :: t) = d :: t := by
          by_cases ht : t = []
          · subst ht; exact cyc_stop cnx_one
          · refine cy_cyc fun x y hx hy e => ?_
            rw [last_cons ht] at hx
            have : y = d := by simpa using hy.symm
            subst this
            obtain ⟨t', z, rfl⟩ := last_some ht
            rw [List.getLast?_concat] at hx
            cases hx
            have hq : Red ([x, y]) := by
              have := red_drop t'.length hr
              simpa using this
            exact hq.1 e
        rw [k1, k2]
        exact (lrot_step (fun c' h' => hw c' (by simp at h' ⊢; exact h'.symm))).symm
      · have hred : Red (c :: (t ++ [d]) ++ [oth c]) := red_snoc hcw fun y hy e => by
          rw [last_cons (by simp), List.getLast?_concat] at hy
          cases hy
          exact hd (o_inj hc (hw d (by simp)) e).symm
        rw [rd_id hred, cyc_step (cnx_some hc) (by simp at hl ⊢; omega)]
theorem ring_conj : ∀ {u w : List Nat}, Lts u → Lts w → 2 * u.length + w.length < 99000 → ring (u ++ w ++ inv u) = ring w
  | [], w, _, _, _ => by simp [inv]
  | c :: u, w, hu, hw, hl => by
    have hc := hu c List.mem_cons_self
    have hlu : Lts (u ++ w ++ inv u) := (hu.tail.app hw).app hu.tail.inv
    have e : c :: u ++ w ++ inv (c :: u) = [c] ++ (u ++ w ++ inv u) ++ [oth c] := by rw [inv_cons, sw hc]; simp
    rw [e, ← ring_rd, ← rd_mid hlu, ring_rd]
    have h1 := ring_conj (u := u) (w := w) hu.tail hw (by simp at hl ⊢; omega)
    by_cases hb : (rd (u ++ w ++ inv u)).length < 99990
    · have := ring_conj1 hc hlu.rd (rd_red _) hb
      rw [show [c] ++ rd (u ++ w ++ inv u) ++ [oth c] = c :: rd (u ++ w ++ inv u) ++ [oth c] from rfl, this, ring_rd, h1]
    · exfalso
      have := rd_len (u ++ w ++ inv u)
      rw [List.length_append, List.length_append, inv_len] at this
      simp only [List.length_cons] at hl
      omega
theorem rot_conj {w : List Nat} {k : Nat} (hw : Lts w) (hl : w.length < 9000) : ring (rot w k) = ring w := by
  have h1 : Lts (w.take k) := fun c hc => hw c (List.mem_of_mem_take hc)
  have h2 : Lts (rot w k) := fun c hc => hw c (rot_mem hc)
  have h3 := ring_conj (u := w.take k) (w := rot w k) h1 h2 (by rw [rot_len]; simp; omega)
  rw [← h3]
  have e : w.take k ++ rot w k ++ inv (w.take k) = w ++ (w.take k ++ inv (w.take k)) := by
    unfold rot
    rw [← List.append_assoc (w.take k), List.take_append_drop]
    simp
  rw [e, ← ring_rd, rd_app]
  have e2 := rd_inv_right (w := w.take k) (x := []) h1
  rw [List.append_nil] at e2
  rw [e2, ← rd_app, List.append_nil, ring_rd]
theorem ring_shape {w : List Nat} (hw : Lts w) : ∃ v, Lts v ∧ ∃ k, ring w = rot (cyc (rd w)) k ∧ rd w = v ++ cyc (rd w) ++ inv v := by
  obtain ⟨k, _, e⟩ := lrot_rot (w := cyc (rd w))
  obtain ⟨v, hv, e2⟩ := cyc_conj hw.rd
  exact ⟨v, hv, k, e, e2⟩
theorem ring_lts {w : List Nat} (hw : Lts w) : Lts (ring w) := lrot_lts fun c hc => hw.rd c (cyc_mem hc)
theorem ring_len (w : List Nat) : (ring w).length ≤ w.length := by
  obtain ⟨k, _, e⟩ := lrot_rot (w := cyc (rd w))
  unfold ring
  rw [e, rot_len]
  exact Nat.le_trans (cyc_len _) (rd_len w)
theorem cy_rot {w : List Nat} {k : Nat} (h : Cy w) : cyc (rot w k) = rot w k := by
  by_cases hl : w.length ≤ 1
  · match w, hl with
    | [], _ => simp [rot, cyc_stop (show cnx [] = none from by unfold cnx; rw [if_neg (by simp)])]
    | [c], _ =>
      have : rot [c] k = [c] := by cases k <;> simp [rot]
      rw [this]; exact cyc_stop cnx_one
  · by_cases hk : k < w.length
    · by_cases h0 : k = 0
      · subst h0
        rw [rot_zero]
        refine cy_cyc fun x y hx hy => ?_
        rcases h.2 x y hx hy with z | z
        · exact z
        · omega
      · obtain ⟨j, rfl⟩ : ∃ j, k = j + 1 := ⟨k - 1, by omega⟩
        refine cy_cyc fun x y hx hy e => ?_
        unfold rot at hx hy
        have hx1 : w[j]? = some x := by
          have ht : (w.take (j + 1)).getLast? = some x := by
            rw [List.getLast?_append] at hx
            cases q : (w.take (j + 1)).getLast? with
            | none =>
              rw [List.getLast?_eq_none_iff] at q
              have : (w.take (j + 1)).length = 0 := by rw [q]; rfl
              rw [List.length_take] at this
              omega
            | some z => rw [q] at hx; simpa using hx
          have := take_last (by omega) ht
          simpa using this.2
        have hy1 : w[j + 1]? = some y := by
          rw [List.head?_append, List.head?_drop, List.getElem?_eq_getElem (by omega)] at hy
          rw [List.getElem?_eq_getElem (by omega)]
          simpa using hy
        have hred := red_drop j h.1
        have e3 : w.drop j = x :: y :: w.drop (j + 2) := by
          rw [List.drop_eq_getElem_cons (by omega), List.drop_eq_getElem_cons (by omega)]
          rw [List.getElem?_eq_getElem (by omega)] at hx1 hy1
          rw [Option.some.inj hx1, Option.some.inj hy1]
        rw [e3] at hred
        exact hred.1 e
    · have e1 : rot w k = w := by
        unfold rot
        rw [List.drop_of_length_le (by omega), List.take_of_length_le (by omega)]; rfl
      rw [e1]
      refine cy_cyc fun x y hx hy => ?_
      rcases h.2 x y hx hy with z | z
      · exact z
      · omega
theorem ring_cy {w : List Nat} (hl : w.length < 9000) : Red (ring w) ∧ cyc (ring w) = ring w := by
  have h1 := rd_len w
  have hcy := cyc_cy (rd_red w) (by omega)
  obtain ⟨k, _, e⟩ := lrot_rot (w := cyc (rd w))
  unfold ring
  rw [e]
  exact ⟨rot_red hcy, cy_rot hcy⟩
theorem ring_ring {w : List Nat} (hw : Lts w) (hl : w.length < 9000) : ring (ring w) = ring w := by
  obtain ⟨h1, h2⟩ := ring_cy hl
  have : ring (ring w) = lrot (ring w) := by
    show lrot (cyc (rd (ring w))) = _
    rw [rd_id h1, h2]
  rw [this]
  exact lrot_idem fun c hc => hw.rd c (cyc_mem hc)
theorem ring_nil {w : List Nat} (hw : Lts w) : ring w = [] ↔ rd w = [] := by
  obtain ⟨v, hv, k, e1, e2⟩ := ring_shape hw
  constructor
  · intro h
    have hc : cyc (rd w) = [] := by
      have := congrArg List.length (e1.symm.trans h)
      rw [rot_len] at this
      exact List.eq_nil_of_length_eq_zero this
    rw [hc, List.append_nil] at e2
    have e3 := rd_inv_right (w := v) (x := []) hv
    rw [List.append_nil, ← e2, rd_rd] at e3
    exact e3
  · intro h
    unfold ring
    rw [h]; rfl
theorem ring_inv {w : List Nat} (hw : Lts w) (hl : w.length < 4000) : ring (inv (ring w)) = ring (inv w) := by
  obtain ⟨v, hv, k, e1, e2⟩ := ring_shape hw
  have hcl : Lts (cyc (rd w)) := fun c hc => hw.rd c (cyc_mem hc)
  have h1 := rd_len w
  have h2 := cyc_len (rd w)
  have hvl : v.length ≤ (rd w).length := by
    have := congrArg List.length e2
    rw [List.length_append, List.length_append, inv_len] at this
    omega
  -- inv w = v inv(cyc) inv v
  have a1 : ring (inv (rd w)) = ring (inv (cyc (rd w))) := by
    have : inv (rd w) = v ++ inv (cyc (rd w)) ++ inv v := by
      conv => lhs; rw [e2]
      rw [inv_app, inv_app, inv_inv hv]
      simp
    rw [this]
    exact ring_conj hv hcl.inv (by rw [inv_len]; omega)
  have a2 : ring (inv w) = ring (inv (rd w)) := by
    -- rd (inv w) = rd (inv (rd w))
    rw [← ring_rd (inv w), ← ring_rd (inv (rd w))]
    congr 1
    have b1 : rd (inv (rd w) ++ rd w ++ inv w) = rd (inv w) := rd_inv_left hw.rd
    have b2 : rd (inv (rd w) ++ rd w ++ inv w) = rd (inv (rd w)) := by
      rw [List.append_assoc, rd_app, rd_left hw]
      have := rd_inv_right (w := w) (x := []) hw
      rw [List.append_nil] at this
      rw [this, ← rd_app, List.append_nil]
    rw [← b1, b2]
  rw [a2, a1, e1]
  unfold rot
  rw [inv_app]
  have e4 : inv (cyc (rd w)) = inv ((cyc (rd w)).drop k) ++ inv ((cyc (rd w)).take k) := by rw [← inv_app, List.take_append_drop]
  have e5 : inv ((cyc (rd w)).take k) ++ inv ((cyc (rd w)).drop k) = rot (inv (cyc (rd w))) (inv ((cyc (rd w)).drop k)).length := by
    unfold rot
    rw [e4]
    simp
  rw [e5, rot_conj hcl.inv (by rw [inv_len]; omega)]
end RC

set_option Elab.async false
set_option linter.all false
set_option autoImplicit false
set_option maxRecDepth 100000
set_option maxHeartbeats 2000000
namespace RC
open RCs
/-! ### rings.py -/
theorem wkey_ok {k : Nat} {w : List Nat} {M : Store} (hk : 1 ≤ k) (hw : Lts w) (hl : w.length ≤ 16777216) : callF P k 42 [.str w] M = .ok (kt w) M := by
  have h1 : ev (P.cfg (k - 1)) L42_0 [some (.v (.str w)), none] M = .ok (.lst (w.map fun c => .int (li c : Nat))) M :=
    ev_lc (xs := w) (fun c => .str [c]) _ (by simp) hl fun c hc => ⟨_, rfl, by simp [G1, mtF, li_find (hw c hc)]⟩
  rw [C42 hk]
  simp [b42, h1, hl, kt, kd]
theorem least_turn_ok {k : Nat} {w : List Nat} {M : Store} (hk : 2 ≤ k) (hw : Lts w) (hl : w.length ≤ 100000) : callF P k 43 [.str w] M = .ok (.str (lrot w)) M := by
  rw [C43 (by omega)]
  have ht : ev (P.cfg (k - 1)) L43_0 [some (.v (.str w)), none] M = .ok (.lst ((rots w).map .str)) M := turns_ev (i := 0) (j := 1) hl rfl (by omega) (by simp)
  have hm := minF_rots (c := P.cfg (k - 1)) (f := 42) (kf := kt) (xs := rots w) (fun x hx => by
    have hlx : Lts x := rots_lts hw hx
    obtain ⟨j, _, rfl⟩ := List.mem_map.mp hx
    have hll : (rot w j).length ≤ 16777216 := by rw [rot_len]; omega
    unfold keyOf
    simp only [cfg_call, wkey_ok (show 1 ≤ k - 1 by omega) hlx hll]
    rw [if_pos (show isPlain (kt _) = true from kt_plain _)]) kt_alk (fun x hx y hy => by
    obtain ⟨i, _, rfl⟩ := List.mem_map.mp hx
    obtain ⟨j, _, rfl⟩ := List.mem_map.mp hy
    exact kt_lt (by rw [rot_len, rot_len]))
  have hmev : ev (P.cfg (k - 1)) (.minKD 42 L43_0 (.cst (.str []))) [some (.v (.str w)), none] M = .ok (.str (lrot w)) M := by
    rw [ev, ht]
    simp only [Res.bind_ok, s_cst]
    unfold lrot
    cases hro : rots w with
    | nil => rfl
    | cons x r =>
      rw [hro] at hm
      simp only [List.map_cons] at hm ⊢
      show Res.of M (minF (keyOf (P.cfg (k - 1)) 42) (.lst (.str x :: r.map .str))) = _
      rw [hm]; rfl
  simp [b43, hmev]
/-- the next pair of places -/
def pnx (w : List Nat) (p : Nat × Nat) : Option (Nat × Nat) := if 1 < p.2 - p.1 ∧ w[p.1]? = (w[p.2 - 1]?).map oth then some (p.1 + 1, p.2 - 1) else none
theorem run_map {α β : Type} {nx : α → Option α} {ny : β → Option β} (g : α → β) (P : α → Prop) (h : ∀ a, P a → ny (g a) = (nx a).map g) (hp : ∀ a b, P a → nx a = some b → P b) : ∀ (n : Nat) (a : α), P a → g (run nx n a) = run ny n (g a)
  | 0, _, _ => rfl
  | n + 1, a, ha => by
    rw [run, run, h a ha]
    cases z : nx a with
    | none => rfl
    | some b => exact run_map g P h hp n b (hp a b ha z)
theorem pnx_cnx {w : List Nat} {p : Nat × Nat} (h1 : p.1 ≤ p.2) (h2 : p.2 ≤ w.length) : cnx ((w.take p.2).drop p.1) = (pnx w p).map fun q => (w.take q.2).drop q.1 := by
  obtain ⟨f, l⟩ := p
  simp only at h1 h2 ⊢
  have hlen : ((w.take l).drop f).length = l - f := by simp; omega
  unfold cnx pnx
  rw [hlen]
  by_cases h : 1 < l - f
  · have hh : ((w.take l).drop f).head? = w[f]? := by
      rw [List.head?_drop, List.getElem?_take]
      rw [if_pos (by omega)]
    have hg : ((w.take l).drop f).getLast? = w[l - 1]? := by
      rw [List.getLast?_eq_getElem?, hlen, List.getElem?_drop, List.getElem?_take]
      rw [if_pos (by omega), show f + (l - f - 1) = l - 1 by omega]
    rw [hh, hg]
    by_cases hc : w[f]? = (w[l - 1]?).map oth
    · rw [if_pos ⟨h, hc⟩, if_pos ⟨h, hc⟩]
      simp only [Option.map_some, Option.some.injEq]
      unfold strip
      rw [List.drop_drop, List.dropLast_eq_take]
      simp only [List.length_drop, List.length_take]
      rw [show min l w.length - (f + 1) - 1 = (l - 1) - (f + 1) by omega, ← List.drop_take, List.take_take, show min (l - 1) l = l - 1 by omega]
    · rw [if_neg fun z => hc z.2, if_neg fun z => hc z.2]; rfl
  · rw [if_neg fun z => h z.1, if_neg fun z => h z.1]; rfl
theorem pnx_keep {w : List Nat} {p q : Nat × Nat} (h1 : p.1 ≤ p.2) (h2 : p.2 ≤ w.length) (h : pnx w p = some q) : q.1 ≤ q.2 ∧ q.2 ≤ w.length ∧ q.2 - q.1 < p.2 - p.1 := by
  unfold pnx at h
  split at h
  · cases h
    simp only
    omega
  · cases h
theorem ring_text_ok {k : Nat} {w : List Nat} {M : Store} (hk : 3 ≤ k) (hw : Lts w) (hl : w.length ≤ 50000) : callF P k 44 [.str w] M = .ok (.str (ring w)) M := by
  rw [C44 (by omega)]
  have hrl := rd_len w
  have hr16 : (rd w).length ≤ 16777216 := by omega
  have hlp := while_run (c := P.cfg (k - 1)) (t := T44_0) (b := W44_0) (M := M) (E := fun p : Nat × Nat => [some (.v (.str w)), some (.v (.str (rd w))), some (.v (.int (p.1 : Nat))), some (.v (.int (p.2 : Nat)))]) (nx := pnx (rd w)) (fun p => p.1 ≤ p.2 ∧ p.2 ≤ (rd w).length) (fun p => p.2 - p.1) (fun p hp hn => by
      obtain ⟨f, l⟩ := p
      simp only at hp ⊢
      by_cases h : 1 < l - f
      · have h' : (1 : Int) < (l : Int) - (f : Int) := by omega
        obtain ⟨a, ha⟩ : ∃ a, (rd w)[f]? = some a := ⟨_, List.getElem?_eq_getElem (by omega)⟩
        obtain ⟨b, hb⟩ : ∃ b, (rd w)[l - 1]? = some b := ⟨_, List.getElem?_eq_getElem (by omega)⟩
        have hb4 := hw.rd b (List.mem_of_getElem? hb)
        have hba := alph_ascii hb4
        have e1 : (l : Int) - 1 = ((l - 1 : Nat) : Int) := by omega
        have hne : ¬ a = swC b := fun e => by
          unfold pnx at hn
          rw [if_pos ⟨h, by rw [ha, hb, e, sw hb4]; rfl⟩] at hn
          cases hn
        simp [T44_0, h', hr16, e1, atF_nat, ha, hb, mtF, ascii, hba, hne]
      · have h' : ¬ (1 : Int) < (l : Int) - (f : Int) := by omega
        simp [T44_0, h']) (fun p q hp hn => by
      have hk2 := pnx_keep hp.1 hp.2 hn
      obtain ⟨f, l⟩ := p
      have hn2 := hn
      unfold pnx at hn2
      split at hn2
      · rename_i z
        cases hn2
        simp only at hp z hk2 ⊢
        have h' : (1 : Int) < (l : Int) - (f : Int) := by omega
        obtain ⟨a, ha⟩ : ∃ a, (rd w)[f]? = some a := ⟨_, List.getElem?_eq_getElem (by omega)⟩
        obtain ⟨b, hb⟩ : ∃ b, (rd w)[l - 1]? = some b := ⟨_, List.getElem?_eq_getElem (by omega)⟩
        have hb4 := hw.rd b (List.mem_of_getElem? hb)
        have hba := alph_ascii hb4
        have e1 : (l : Int) - 1 = ((l - 1 : Nat) : Int) := by omega
        have heq : a = swC b := by
          have := z.2
          rw [ha, hb] at this
          rw [sw hb4]
          simpa using this
        refine ⟨?_, ?_, ⟨hk2.1, hk2.2.1⟩, hk2.2.2⟩
        · simp [T44_0, h', hr16, e1, atF_nat, ha, hb, mtF, ascii, hba, heq]
        · simp [W44_0, e1]
      · cases hn2) 100000 (0, (rd w).length) ⟨by simp, by simp⟩ (by simp; omega)
  obtain ⟨q, hq⟩ : ∃ q, q = run (pnx (rd w)) 100000 (0, (rd w).length) := ⟨_, rfl⟩
  have hmap := run_map (nx := pnx (rd w)) (ny := cnx) (fun p : Nat × Nat => ((rd w).take p.2).drop p.1) (fun p => p.1 ≤ p.2 ∧ p.2 ≤ (rd w).length) (fun p hp => pnx_cnx hp.1 hp.2) (fun p q hp hn => ⟨(pnx_keep hp.1 hp.2 hn).1, (pnx_keep hp.1 hp.2 hn).2.1⟩) 100000 (0, (rd w).length) ⟨by simp, by simp⟩
  simp only [List.take_length, List.drop_zero] at hmap
  have hcyc : ((rd w).take q.2).drop q.1 = cyc (rd w) := by rw [hq]; exact hmap
  rw [← hq] at hlp
  have hcl := cyc_len (rd w)
  have hcm : Lts (cyc (rd w)) := fun c hc => hw.rd c (cyc_mem hc)
  have e0 : ([some (.v (.str w)), some (.v (.str (rd w))), some (.v (.int 0)), some (.v (.int ((rd w).length : Nat)))] : Env) = (fun p : Nat × Nat => [some (.v (.str w)), some (.v (.str (rd w))), some (.v (.int (p.1 : Nat))), some (.v (.int (p.2 : Nat)))]) (0, (rd w).length) := rfl
  have hsl : slcF (.str (rd w)) (some (q.1 : Int)) (some (q.2 : Int)) = some (.str (cyc (rd w))) := by rw [sl_str hr16, slc_both, hcyc]
  simp [b44, reduced_ok (show 1 ≤ k - 1 by omega) hw (show w.length ≤ 1000000 by omega), hr16, ex_while, P_lf]
  rw [e0, hlp]
  simp [hsl, least_turn_ok (show 2 ≤ k - 1 by omega) hcm (by omega), ring]
/-- what is_ring_of tells of a text -/
def isR (r : Nat) (w : List Nat) : Bool := isW r w && !(w == []) && !(decide (1 < w.length) && (w.head? == w.getLast?.map oth)) && (w == lrot w)
theorem isW_wd {r : Nat} {w : List Nat} (hr : r ≤ 4) (h : isW r w = true) : Wd r w ∧ w.length ≤ 100 := (isW_iff hr).mp h
theorem is_ring_of_ok {k r : Nat} {w : List Nat} {M : Store} (hk : 4 ≤ k) (hr : r ≤ 4) (hl : w.length ≤ 16777216) : callF P k 45 [.int r, .str w] M = .ok (.bl (isR r w)) M := by
  rw [C45 (by omega)]
  have e1 := is_word_ok (k := k - 1) (r := r) (w := w) (M := M) (by omega) hr hl
  cases hW : isW r w with
  | false => simp [b45, e1, hW, isR]
  | true =>
    rw [hW] at e1
    obtain ⟨hwd, hl100⟩ := isW_wd hr hW
    have hwl := wd_lts hr hwd.1
    by_cases h0 : w = []
    · subst h0
      simp [b45, e1, isR, hW]
    · have h0' : (w == []) = false := by simpa using h0
      have e2 := least_turn_ok (k := k - 1) (w := w) (M := M) (by omega) hwl (by omega)
      by_cases h1 : 1 < w.length
      · have h1' : (1 : Int) < (w.length : Int) := by omega
        obtain ⟨a, ha⟩ : ∃ a, w.head? = some a := by cases w with | nil => exact absurd rfl h0 | cons a w => exact ⟨a, rfl⟩
        obtain ⟨z, hz⟩ : ∃ z, w.getLast? = some z := by
          cases q : w.getLast? with
          | none => rw [List.getLast?_eq_none_iff] at q; exact absurd q h0
          | some z => exact ⟨z, rfl⟩
        have hz4 := hwl z (List.mem_of_getLast? hz)
        have hza := alph_ascii hz4
        have hat : atF w 0 = some a := by rw [show (0 : Int) = ((0 : Nat) : Int) from rfl, atF_nat, ← List.head?_eq_getElem?]; exact ha
        have hsz := sw hz4
        by_cases haz : a = oth z
        · have : isR r w = false := by simp [isR, hW, h0', h1, ha, hz, haz]
          rw [this]
          simp [b45, e1, h0', h1', hl, hat, at_last hz, mtF, ascii, hza, hsz, haz]
        · have : isR r w = (w == lrot w) := by simp [isR, hW, h0', h1, ha, hz, haz]
          rw [this]
          simp [b45, e1, h0', h1', hl, hat, at_last hz, mtF, ascii, hza, hsz, haz, e2]
      · have h1' : ¬ (1 : Int) < (w.length : Int) := by omega
        have : isR r w = (w == lrot w) := by simp [isR, hW, h0', h1]
        rw [this]
        simp [b45, e1, h0', h1', hl, e2]
end RC

set_option Elab.async false
set_option linter.all false
set_option autoImplicit false
set_option maxRecDepth 100000
set_option maxHeartbeats 2000000
namespace RC
open RCs
/-! ### rows -/
def rowD (R : List (List Nat)) : D := .tup (R.map .str)
def rlen (R : List (List Nat)) : Nat := (R.map List.length).sum
/-- a row of the rank -/
def Rw (r : Nat) (R : List (List Nat)) : Prop := 1 ≤ R.length ∧ R.length ≤ 4 ∧ (∀ w ∈ R, isR r w = true) ∧ rlen R ≤ 60
theorem isR_facts {r : Nat} {w : List Nat} (hr : r ≤ 4) (h : isR r w = true) : Wd r w ∧ w.length ≤ 100 ∧ w ≠ [] ∧ (1 < w.length → ∀ x y, w.getLast? = some x → w.head? = some y → y ≠ oth x) ∧ lrot w = w := by
  unfold isR at h
  simp only [Bool.and_eq_true, Bool.not_eq_true'] at h
  obtain ⟨⟨⟨h1, h2⟩, h3⟩, h4⟩ := h
  obtain ⟨hw, hl⟩ := isW_wd hr h1
  refine ⟨hw, hl, by simpa using h2, fun hlen x y hx hy e => ?_, (by simpa using h4 : w = lrot w).symm⟩
  rw [hx, hy, e] at h3
  simp [hlen] at h3
theorem sumI_nat {α : Type} (f : α → Nat) : ∀ xs : List α, sumI (xs.map fun x => ((f x : Nat) : Int)) = (((xs.map f).sum : Nat) : Int)
  | [] => rfl
  | x :: xs => by
    rw [List.map_cons, sumI, sumI_nat f xs, List.map_cons, List.sum_cons]
    omega
theorem bi_sum_nat {α : Type} (f : α → Nat) (xs : List α) : biF .sum [.lst (xs.map fun x => .int (f x : Nat))] = some (.int ((xs.map f).sum : Nat)) := by
  have e : (xs.map fun x => D.int (f x : Nat)) = (xs.map fun x => ((f x : Nat) : Int)).map D.int := by rw [List.map_map]; rfl
  show (allI _).map _ = _
  rw [e, allI_map]
  simp only [Option.map_some, sumI_nat]
theorem row_length_ok {k : Nat} {R : List (List Nat)} {M : Store} (hk : 1 ≤ k) (hR : R.length ≤ 1000) (hl : ∀ w ∈ R, List.length w ≤ 16777216) : callF P k 52 [rowD R] M = .ok (.int (rlen R : Nat)) M := by
  have h1 : ev (P.cfg (k - 1)) L52_0 [some (.v (rowD R)), none] M = .ok (.lst (R.map fun w => .int (List.length w : Nat))) M :=
    ev_lc (xs := R) .str _ (by simp [rowD]) (by omega) fun w hw => ⟨_, rfl, by simp [hl w hw]⟩
  rw [C52 hk]
  simp only [b52, xs_cons, x_ret, s_bi, ss_cons, ss_nil, h1, Res.bind_ok, bi_sum_nat, Res.of_some, Res.then_ok, e_ret]
  rfl
theorem is_row_ok {k r : Nat} {R : List (List Nat)} {M : Store} (hk : 5 ≤ k) (hr : r ≤ 4) (h : Rw r R) : callF P k 53 [.int r, rowD R] M = .ok (.bl true) M := by
  obtain ⟨h1, h2, h3, h4⟩ := h
  have e1 : ev (P.cfg (k - 1)) L53_0 [some (.v (.int r)), some (.v (rowD R)), none] M = .ok (.lst (R.map fun _ => .bl true)) M :=
    ev_lc (xs := R) .str _ (by simp [rowD]) (by omega) fun w hw => ⟨_, rfl, by
      have := (isR_facts hr (h3 w hw)).2.1
      simp [is_ring_of_ok (show 4 ≤ k - 1 by omega) hr (show w.length ≤ 16777216 by omega), h3 w hw]⟩
  have e2 := row_length_ok (k := k - 1) (R := R) (M := M) (by omega) (by omega) (fun w hw => by have := (isR_facts hr (h3 w hw)).2.1; omega)
  have ht : (R.all fun _ => true) = true := by simp
  have l1 : (1 : Int) ≤ (R.length : Int) := by omega
  have l2 : (R.length : Int) ≤ 4 := by omega
  have l3 : ((rlen R : Nat) : Int) ≤ 60 := by omega
  have ei : isiF P.isa (rowD R) .tuple = some true := rfl
  have el : lenF (rowD R) = some (.int R.length) := by simp [rowD]
  rw [C53 (by omega)]
  simp [b53, ei, el, l1, l2, G5, G6, e1, all_bl, ht, e2, l3]
theorem need_row_ok {k r : Nat} {R : List (List Nat)} {M : Store} (hk : 6 ≤ k) (hr : r ≤ 4) (h : Rw r R) : callF P k 54 [.int r, rowD R] M = .ok .non M := by
  rw [C54 (by omega)]
  simp [b54, is_row_ok (show 5 ≤ k - 1 by omega) hr h]
theorem need_letter_ok {k r c : Nat} {M : Store} (hk : 3 ≤ k) (hr : r ≤ 4) (hc : c ∈ alph r) : callF P k 51 [.int r, .str [c]] M = .ok .non M := by
  have e1 : callF P (k - 1) 50 [.int r, .str [c]] M = .ok (.bl true) M := by
    rw [C50 (by omega)]
    simp [b50, isiF, tyS, letters_ok (show 1 ≤ k - 1 - 1 by omega) hr, hc]
  rw [C51 (by omega)]
  simp [b51, e1]
/-! ### graphs -/
/-- a text's sign at a place -/
def chr (w : List Nat) (i : Nat) : Nat := w.getD i 0
theorem chr_succ (c : Nat) (w : List Nat) (i : Nat) : chr (c :: w) (i + 1) = chr w i := by simp [chr]
theorem chr_zero (c : Nat) (w : List Nat) : chr (c :: w) 0 = c := by simp [chr]
def edD (k : Nat) (w : List Nat) (i : Nat) : D := .tup [.tup [.int (k : Nat), .int (i : Nat)], .str [chr w i], .str [oth (chr w ((i + 1) % w.length))]]
def edR (k : Nat) (w : List Nat) : List D := (List.range w.length).map (edD k w)
def edA : Nat → List (List Nat) → List D
  | _, [] => []
  | k, w :: R => edR k w ++ edA (k + 1) R
theorem enum_str : ∀ (j : Nat) (w : List Nat), enumD j (w.map fun c => D.str [c]) = (List.range w.length).map fun i => .tup [.int ((j + i : Nat) : Int), .str [chr w i]]
  | _, [] => rfl
  | j, c :: w => by
    rw [List.map_cons, enumD, enum_str (j + 1) w, List.length_cons, List.range_succ_eq_map, List.map_cons, List.map_map]
    simp only [List.cons.injEq]
    refine ⟨by simp [chr_zero], List.map_congr_left fun i _ => ?_⟩
    simp only [Function.comp, chr_succ]
    rw [show j + 1 + i = j + (i + 1) by omega]
theorem fold_app {α : Type} (f : α → D) : ∀ (xs : List α) (b : List D), xs.foldl (fun b i => b ++ [f i]) b = b ++ xs.map f
  | [], b => by simp
  | x :: xs, b => by rw [List.foldl_cons, fold_app f xs]; simp
theorem getD_at {w : List Nat} {i : Nat} (h : i < w.length) : w[i]? = some (chr w i) := by
  unfold chr
  rw [List.getD_eq_getElem?_getD, List.getElem?_eq_getElem h]; rfl
theorem getD_in {w : List Nat} {i : Nat} (h : i < w.length) : chr w i ∈ w := List.mem_of_getElem? (getD_at h)
theorem edge_list_ok {k r : Nat} {R : List (List Nat)} {M : Store} (hk : 1 ≤ k) (hr : r ≤ 4) (hR : ∀ w ∈ R, (∀ c ∈ w, c ∈ alph r) ∧ w ≠ [] ∧ List.length w ≤ 1000) (hl : R.length ≤ 1000) : callF P k 55 [rowD R] M = .ok (.lst (edA 0 R)) M := by
  have inner : ∀ (k' : Nat) (w : List Nat) (b : List D) (s : Option Sl × Option Sl), (∀ c ∈ w, c ∈ alph r) → w ≠ [] → w.length ≤ 1000 → b.length ≤ 1000000 → ∃ s' : Option Sl × Option Sl, forLoop (forBody (P.cfg (k - 1)) (.t (.cons (.n 4) (.cons (.n 5) .nil))) F55_1) ((List.range w.length).map fun i => .tup [.int (i : Nat), .str [chr w i]]) [some (.v (rowD R)), some (.o b), some (.v (.int (k' : Nat))), some (.v (.str w)), s.1, s.2] M = .next [some (.v (rowD R)), some (.o (b ++ edR k' w)), some (.v (.int (k' : Nat))), some (.v (.str w)), s'.1, s'.2] M := fun k' w b s hw hne hwl hbl => by
    obtain ⟨⟨s', h⟩, -⟩ := for_fold (c := P.cfg (k - 1)) (tg := .t (.cons (.n 4) (.cons (.n 5) .nil))) (body := F55_1) (M := M) (f := fun i : Nat => .tup [.int (i : Nat), .str [chr w i]]) (E := fun (b : List D) (s : Option Sl × Option Sl) => [some (.v (rowD R)), some (.o b), some (.v (.int (k' : Nat))), some (.v (.str w)), s.1, s.2]) (step := fun b i => b ++ [edD k' w i]) (List.range w.length) (fun i b' => b'.length = b.length + i)
      (fun i x b' s hx hb => by
        have hx' : i < w.length ∧ x = i := by
          have h1 := (List.getElem?_eq_some_iff.mp hx)
          obtain ⟨h2, h3⟩ := h1
          simp at h2 h3
          exact ⟨h2, h3.symm⟩
        obtain ⟨hi, rfl⟩ := hx'
        have hpos : 0 < (w.length : Int) := by omega
        have hmod : ((x : Int) + 1) % (w.length : Int) = (((x + 1) % w.length : Nat) : Int) := by rw [Int.natCast_emod, Int.natCast_add]; rfl
        have hm : modF (.int ((x : Int) + 1)) (.int (w.length : Int)) = some (.int (((x + 1) % w.length : Nat) : Int)) := by rw [mod_int hpos, hmod]
        have hlt : (x + 1) % w.length < w.length := Nat.mod_lt _ (by omega)
        have hat : atF w ((((x + 1) % w.length : Nat)) : Int) = some (chr w ((x + 1) % w.length)) := by rw [atF_nat, getD_at hlt]
        have hl4 := alph_sub hr (hw _ (getD_in hlt))
        have hla := alph_ascii hl4
        have hsz : b'.length < SZ := by show b'.length < 16777216; omega
        have hw16 : w.length ≤ 16777216 := by omega
        refine ⟨⟨(some (.v (.int (x : Nat))), some (.v (.str [chr w x]))), ?_⟩, by simp [hb]; omega⟩
        simp only [forBody, F55_1, b_t, b_cons, b_n, b_nil, Option.bind_some, p_succ, p_zero, xs_cons, xs_nil, x_app, go_succ, go_some, s_tup, ss_cons, ss_nil, s_var, g_succ, g_some, Res.of_some, Res.bind_ok, s_mt, s_sub, s_bin, s_cst, s_bi, RCs.bi_len, len_str hw16, bf_add, add_int, bf_mod, hm, su_str hw16, hat, Option.map_some, Res.then_ok]
        simp [ mtF, ascii, hla, sw hl4, hsz, edD]) b s rfl
    rw [fold_app] at h
    exact ⟨s', h⟩
  have outer : ∀ (R' : List (List Nat)) (j : Nat) (b : List D) (s : Option Sl × Option Sl × Option Sl × Option Sl), (∀ w ∈ R', (∀ c ∈ w, c ∈ alph r) ∧ w ≠ [] ∧ List.length w ≤ 1000) → b.length + R'.length * 1000 ≤ 1000000 → ∃ s' : Option Sl × Option Sl × Option Sl × Option Sl, forLoop (forBody (P.cfg (k - 1)) (.t (.cons (.n 2) (.cons (.n 3) .nil))) F55_0) (enumD j (R'.map .str)) [some (.v (rowD R)), some (.o b), s.1, s.2.1, s.2.2.1, s.2.2.2] M = .next [some (.v (rowD R)), some (.o (b ++ edA j R')), s'.1, s'.2.1, s'.2.2.1, s'.2.2.2] M := by
    intro R'
    induction R' with
    | nil => intro j b s _ _; exact ⟨s, by simp [enumD, forLoop, edA]⟩
    | cons w R' ih =>
      intro j b s hw hb
      obtain ⟨h1, h2, h3⟩ := hw w List.mem_cons_self
      obtain ⟨s1, e1⟩ := inner j w b (s.2.2.1, s.2.2.2) h1 h2 h3 (by simp at hb; omega)
      have hlen : (edR j w).length ≤ 1000 := by simp [edR]; omega
      obtain ⟨s2, e2⟩ := ih (j + 1) (b ++ edR j w) (some (.v (.int (j : Nat))), some (.v (.str w)), s1.1, s1.2) (fun x hx => hw x (List.mem_cons_of_mem _ hx)) (by simp at hb ⊢; omega)
      refine ⟨s2, ?_⟩
      have eb : forBody (P.cfg (k - 1)) (.t (.cons (.n 2) (.cons (.n 3) .nil))) F55_0 (.tup [.int (j : Nat), .str w]) [some (.v (rowD R)), some (.o b), s.1, s.2.1, s.2.2.1, s.2.2.2] M = .next [some (.v (rowD R)), some (.o (b ++ edR j w)), some (.v (.int (j : Nat))), some (.v (.str w)), s1.1, s1.2] M := by
        have en := enum_str 0 w
        simp only [Nat.zero_add] at en
        simp only [forBody, F55_0, b_t, b_cons, b_n, b_nil, Option.bind_some, p_succ, p_zero, xs_cons, xs_nil, ex_for, si_enum, s_var, g_succ, g_some, Res.of_some, Res.bind_ok, it_str, Res.then_ok, en, e1]
      rw [List.map_cons, enumD, forLoop, eb]
      simp only
      rw [e2, edA, List.append_assoc]
  obtain ⟨s', e⟩ := outer R 0 [] (none, none, none, none) hR (by simp; omega)
  rw [C55 hk]
  simp [b55, ex_for, rowD] at e ⊢
  rw [e]
  simp
end RC

set_option Elab.async false
set_option linter.all false
set_option autoImplicit false
set_option maxRecDepth 100000
set_option maxHeartbeats 2000000
namespace RC
open RCs
/-! ### k56: the law's own -/
/-- a comprehension over a range that draws -/
theorem ev_lc_draw {c : Cfg} {tg : Tg} {it : It} {elt : E} {ρ : Env} {M : Store} {n p r : Nat} (s0 : Nat) (st : Nat) (Q : D → Prop) (hi : evi c it ρ M = .ok (rngD 0 n) M) (hn : n ≤ 1000000)
    (h : ∀ i, i < n → ∀ ns, Sr (s0 + i * st) ns → ∃ ρ', bindT tg (.int i) (wipeE ρ (tgSlots tg)) = some ρ' ∧ ∃ d ns', ev c elt ρ' (M.set p ns) = .ok d (M.set p ns') ∧ Sr (s0 + (i + 1) * st) ns' ∧ Q d) {ns : List Int} (hp : M[p]? = some ns) (hs : Sr s0 ns) :
    ∃ ds ns', ev c (.lc tg it .nil elt) ρ M = .ok (.lst ds) (M.set p ns') ∧ ds.length = n ∧ (∀ d ∈ ds, Q d) ∧ Sr (s0 + n * st) ns' := by
  have key : ∀ (m i : Nat) (ns : List Int), i + m = n → Sr (s0 + i * st) ns → ∃ ds ns', lcLoop (lcStep c tg .nil elt ρ) (rngD (i : Int) m) (M.set p ns) = .ok ds (M.set p ns') ∧ ds.length = m ∧ (∀ d ∈ ds, Q d) ∧ Sr (s0 + n * st) ns' := by
    intro m
    induction m with
    | zero =>
      intro i ns hi hs
      have : i = n := by omega
      subst this
      exact ⟨[], ns, rfl, rfl, by simp, hs⟩
    | succ m ih =>
      intro i ns hi hs
      obtain ⟨ρ', e1, d, ns', e2, hs', hq⟩ := h i (by omega) ns hs
      obtain ⟨ds, ns2, e3, hl, hq2, hs2⟩ := ih (i + 1) ns' (by omega) hs'
      refine ⟨d :: ds, ns2, ?_, by simp [hl], fun x hx => ?_, hs2⟩
      · rw [rngD, lcLoop, lcStep_ok e1 e2, Res.bind_ok]
        rw [show ((i : Int) + 1) = ((i + 1 : Nat) : Int) by omega, e3]
        rfl
      · rcases List.mem_cons.mp hx with rfl | hx
        · exact hq
        · exact hq2 x hx
  have hself : M.set p ns = M := by
    have := List.getElem?_eq_some_iff.mp hp
    rw [← this.2]; simp
  obtain ⟨ds, ns', e, hl, hq, hs'⟩ := key n 0 ns (by omega) (by simpa using hs)
  rw [hself] at e
  refine ⟨ds, ns', ?_, hl, hq, hs'⟩
  rw [ev_lc_eq, hi]
  simp only [Res.bind_ok, rng_len, show n ≤ SZ from Nat.le_trans hn (by decide), if_true]
  have e0 : ((0 : Nat) : Int) = 0 := rfl
  rw [e0] at e
  rw [e]
  rfl
theorem strs_of : ∀ {ds : List D} {Q : List Nat → Prop}, (∀ d ∈ ds, ∃ w, d = .str w ∧ Q w) → ∃ ws : List (List Nat), ds = ws.map .str ∧ ∀ w ∈ ws, Q w
  | [], _, _ => ⟨[], rfl, by simp⟩
  | d :: ds, Q, h => by
    obtain ⟨w, rfl, hw⟩ := h d List.mem_cons_self
    obtain ⟨ws, rfl, hws⟩ := strs_of (Q := Q) fun x hx => h x (List.mem_cons_of_mem _ hx)
    exact ⟨w :: ws, rfl, fun x hx => by
      rcases List.mem_cons.mp hx with rfl | hx
      · exact hw
      · exact hws x hx⟩
end RC

set_option Elab.async false
set_option linter.all false
set_option autoImplicit false
set_option maxRecDepth 100000
set_option maxHeartbeats 2000000
namespace RC
open RCs
/-! ### degrees -/
/-- edges by their ring's place, ring, place in the ring -/
def edT : Nat → List (List Nat) → List (Nat × List Nat × Nat)
  | _, [] => []
  | k, w :: R => ((List.range w.length).map fun i => (k, w, i)) ++ edT (k + 1) R
theorem edA_map : ∀ (k : Nat) (R : List (List Nat)), edA k R = (edT k R).map fun t => edD t.1 t.2.1 t.2.2
  | _, [] => rfl
  | k, w :: R => by
    rw [edA, edT, List.map_append, edA_map (k + 1) R, edR, List.map_map]; rfl
theorem edT_mem {R : List (List Nat)} : ∀ {k : Nat} {t : Nat × List Nat × Nat}, t ∈ edT k R → t.2.1 ∈ R ∧ t.2.2 < t.2.1.length := by
  induction R with
  | nil => intro k t h; cases h
  | cons w R ih =>
    intro k t h
    rw [edT] at h
    rcases List.mem_append.mp h with h | h
    · obtain ⟨i, hi, rfl⟩ := List.mem_map.mp h
      exact ⟨List.mem_cons_self, by simpa using hi⟩
    · obtain ⟨h1, h2⟩ := ih h
      exact ⟨List.mem_cons_of_mem _ h1, h2⟩
theorem edT_len : ∀ (k : Nat) (R : List (List Nat)), (edT k R).length = rlen R
  | _, [] => rfl
  | k, w :: R => by
    rw [edT, List.length_append, edT_len (k + 1) R]
    simp [rlen]
/-- an edge at the letter c -/
def inc (c : Nat) (t : Nat × List Nat × Nat) : Bool := (chr t.2.1 t.2.2 == c) || (oth (chr t.2.1 ((t.2.2 + 1) % t.2.1.length)) == c)
def dg (R : List (List Nat)) (c : Nat) : Nat := ((edT 0 R).filter (inc c)).length
theorem degree_of_ok {k r c : Nat} {R : List (List Nat)} {M : Store} (hk : 2 ≤ k) (hr : r ≤ 4) (hR : ∀ w ∈ R, (∀ c ∈ w, c ∈ alph r) ∧ w ≠ [] ∧ List.length w ≤ 1000) (hl : R.length ≤ 1000) (hlen : rlen R ≤ 16777216) (hc : c < 128) : callF P k 56 [rowD R, .str [c]] M = .ok (.int (dg R c : Nat)) M := by
  have e1 := edge_list_ok (k := k - 1) (r := r) (R := R) (M := M) (by omega) hr hR hl
  rw [edA_map] at e1
  have h1 : ev (P.cfg (k - 1)) L56_0 [some (.v (rowD R)), some (.v (.str [c])), none, none, none] M = .ok (.lst (((edT 0 R).filter (inc c)).map fun t => .tup [.int (t.1 : Nat), .int (t.2.2 : Nat)])) M :=
    ev_lcif (xs := edT 0 R) (fun t => edD t.1 t.2.1 t.2.2) _ _ (by simp [e1]) (by rw [edT_len]; exact hlen) fun t ht => by
      obtain ⟨h1, h2⟩ := edT_mem ht
      have g := hR _ h1
      have x4 := alph_sub hr (g.1 _ (getD_in h2))
      have y4 := alph_sub hr (g.1 _ (getD_in (Nat.mod_lt (t.2.2 + 1) (by omega : 0 < t.2.1.length))))
      have xa := alph_ascii x4
      have ya := alph_ascii (om y4)
      refine ⟨_, rfl, ?_, fun _ => by simp [edD]⟩
      have p1 : plain 40 (.str [c]) = true := pl_str (by simp; omega)
      have p2 : plain 39 (.str [chr t.2.1 t.2.2]) = true := pl_str (by simp; omega)
      have p3 : plain 39 (.str [oth (chr t.2.1 ((t.2.2 + 1) % t.2.1.length))]) = true := pl_str (by simp; omega)
      have hin : inF (.str [c]) (.tup [.str [chr t.2.1 t.2.2], .str [oth (chr t.2.1 ((t.2.2 + 1) % t.2.1.length))]]) = some (inc c t) := by
        unfold inF
        simp only
        rw [if_pos (by rw [show isPlain (.str [c]) = plain 40 (.str [c]) from rfl, p1]; simp [p2, p3])]
        simp [inc]
      simp [edD, hin]
  rw [C56 (by omega)]
  simp [b56, h1, dg]
theorem degree_ok {k r c : Nat} {R : List (List Nat)} {M : Store} (hk : 7 ≤ k) (h2 : 2 ≤ r) (hr : r ≤ 4) (h : Rw r R) (hc : c ∈ alph r) : callF P k 58 [.int r, rowD R, .str [c]] M = .ok (.int (dg R c : Nat)) M := by
  have hR : ∀ w ∈ R, (∀ c ∈ w, c ∈ alph r) ∧ w ≠ [] ∧ List.length w ≤ 1000 := fun w hw => by
    have := isR_facts hr (h.2.2.1 w hw)
    exact ⟨this.1.1, this.2.2.1, by have := this.2.1; omega⟩
  have h4 := h.2.1
  have h60 := h.2.2.2
  rw [C58 (by omega)]
  simp [b58, need_rank_ok (show 2 ≤ k - 1 by omega) h2 hr, need_row_ok (show 6 ≤ k - 1 by omega) hr h, need_letter_ok (show 3 ≤ k - 1 by omega) hr hc, degree_of_ok (show 2 ≤ k - 1 by omega) hr hR (by omega) (by omega) (alph_ascii hc)]
/-! ### the degree counts a letter and its inverse -/
def cnt (c : Nat) (w : List Nat) : Nat := (w.filter (· == c)).length
theorem cnt_app (c : Nat) (a b : List Nat) : cnt c (a ++ b) = cnt c a + cnt c b := by simp [cnt]
theorem countC_cnt (c : Nat) : ∀ w : List Nat, countC c w = cnt c w
  | [] => rfl
  | x :: w => by
    rw [countC, countC_cnt c w]
    unfold cnt
    rw [List.filter_cons]
    by_cases h : x = c <;> simp [h]
theorem chr_map (w : List Nat) : (List.range w.length).map (chr w) = w := by
  apply List.ext_getElem?
  intro i
  rw [List.getElem?_map]
  by_cases h : i < w.length
  · rw [List.getElem?_range h, Option.map_some, ← getD_at h]
  · rw [List.getElem?_eq_none (by simpa using h), List.getElem?_eq_none (by omega)]; rfl
theorem chr_next (w : List Nat) : (List.range w.length).map (fun i => chr w ((i + 1) % w.length)) = rot w 1 := by
  apply List.ext_getElem?
  intro i
  rw [List.getElem?_map]
  by_cases h : i < w.length
  · rw [List.getElem?_range h, Option.map_some, ← getD_at (Nat.mod_lt _ (by omega))]
    unfold rot
    by_cases h1 : i + 1 < w.length
    · rw [Nat.mod_eq_of_lt h1, List.getElem?_append_left (by simp; omega), List.getElem?_drop]
      congr 1
      omega
    · have e : i + 1 = w.length := by omega
      rw [e, Nat.mod_self, List.getElem?_append_right (by simp; omega)]
      rw [List.getElem?_take]
      have e2 : i - (w.drop 1).length = 0 := by simp; omega
      rw [e2, if_pos (by omega)]
  · rw [List.getElem?_eq_none (by simpa using h), List.getElem?_eq_none (by rw [rot_len]; omega)]; rfl
theorem cnt_rot (c : Nat) (w : List Nat) (k : Nat) : cnt c (rot w k) = cnt c w := by
  unfold rot
  rw [cnt_app, Nat.add_comm, ← cnt_app, List.take_append_drop]
theorem filter_or {α : Type} (a b : α → Bool) : ∀ xs : List α, (∀ x ∈ xs, ¬ (a x = true ∧ b x = true)) → (xs.filter fun x => a x || b x).length = (xs.filter a).length + (xs.filter b).length
  | [], _ => rfl
  | x :: xs, h => by
    have ih := filter_or a b xs fun y hy => h y (List.mem_cons_of_mem _ hy)
    have hx := h x List.mem_cons_self
    rw [List.filter_cons, List.filter_cons, List.filter_cons]
    cases ha : a x <;> cases hb : b x <;> simp_all <;> omega
theorem filter_map_len {α : Type} (f : α → Nat) (q : Nat → Bool) (xs : List α) : (xs.filter fun x => q (f x)).length = ((xs.map f).filter q).length := by
  rw [List.filter_map, List.length_map]; rfl
/-- a ring's edges at c -/
theorem ring_deg {c : Nat} {w : List Nat} (hc : c ∈ alph 4) (hw : Lts w) (hr : Red w) (he : ∀ x y, w.getLast? = some x → w.head? = some y → y ≠ oth x) : ((List.range w.length).filter fun i => (chr w i == c) || (oth (chr w ((i + 1) % w.length)) == c)).length = cnt c w + cnt (oth c) w := by
  rw [filter_or (fun i => chr w i == c) (fun i => oth (chr w ((i + 1) % w.length)) == c)]
  · rw [filter_map_len (chr w) (· == c), chr_map]
    have e : ((List.range w.length).filter fun i => oth (chr w ((i + 1) % w.length)) == c) = (List.range w.length).filter fun i => chr w ((i + 1) % w.length) == oth c := by
      apply List.filter_congr
      intro i hi
      have hi' : i < w.length := by simpa using hi
      have hy := hw _ (getD_in (Nat.mod_lt (i + 1) (by omega : 0 < w.length)))
      rw [Bool.eq_iff_iff]
      simp only [beq_iff_eq]
      constructor
      · intro e; rw [← e, oo hy]
      · intro e; rw [e, oo hc]
    rw [e, filter_map_len (fun i => chr w ((i + 1) % w.length)) (· == oth c), chr_next]
    show cnt c w + cnt (oth c) (rot w 1) = _
    rw [cnt_rot]
  · rintro i hi ⟨h1, h2⟩
    have hi' : i < w.length := by simpa using hi
    simp only [beq_iff_eq] at h1 h2
    have hlt := Nat.mod_lt (i + 1) (by omega : 0 < w.length)
    have hy := hw _ (getD_in hlt)
    have hx := hw _ (getD_in hi')
    have e : chr w ((i + 1) % w.length) = oth (chr w i) := by rw [h1, ← h2, oo hy]
    by_cases h : i + 1 < w.length
    · rw [Nat.mod_eq_of_lt h] at e
      have h3 := red_drop i hr
      have g1 := getD_at hi'
      have g2 := getD_at h
      have e3 : w.drop i = chr w i :: chr w (i + 1) :: w.drop (i + 2) := by
        rw [List.drop_eq_getElem_cons hi', List.drop_eq_getElem_cons h]
        rw [List.getElem?_eq_getElem hi'] at g1
        rw [List.getElem?_eq_getElem h] at g2
        rw [← Option.some.inj g1, ← Option.some.inj g2]
      rw [e3] at h3
      exact h3.1 e
    · have e0 : i + 1 = w.length := by omega
      rw [e0, Nat.mod_self] at e
      refine he (chr w i) (chr w 0) ?_ ?_ e
      · rw [List.getLast?_eq_getElem?, ← e0]
        exact getD_at hi'
      · rw [List.head?_eq_getElem?]
        exact getD_at (by omega)
theorem dg_cnt {r c : Nat} (hr : r ≤ 4) (hc : c ∈ alph 4) : ∀ (k : Nat) (R : List (List Nat)), (∀ w ∈ R, isR r w = true) → ((edT k R).filter (inc c)).length = cnt c R.flatten + cnt (oth c) R.flatten
  | _, [], _ => rfl
  | k, w :: R, h => by
    obtain ⟨h1, h2, h3, h4, h5⟩ := isR_facts hr (h w List.mem_cons_self)
    have hw := wd_lts hr h1.1
    have he : ∀ x y, w.getLast? = some x → w.head? = some y → y ≠ oth x := fun x y hx hy => by
      by_cases hl : 1 < w.length
      · exact h4 hl x y hx hy
      · match w, h3, hl with
        | [a], _, _ =>
          simp at hx hy
          subst hx hy
          exact fun e => o_ne (hw _ List.mem_cons_self) e.symm
        | [], h3, _ => exact absurd rfl h3
        | a :: b :: t, _, hl => exact absurd (by simp) hl
    have := ring_deg hc hw h1.2 he
    rw [edT, List.filter_append, List.length_append, dg_cnt hr hc (k + 1) R (fun x hx => h x (List.mem_cons_of_mem _ hx)), List.flatten_cons, cnt_app, cnt_app]
    have e : (((List.range w.length).map fun i => (k, w, i)).filter (inc c)).length = ((List.range w.length).filter fun i => (chr w i == c) || (oth (chr w ((i + 1) % w.length)) == c)).length := by
      rw [List.filter_map, List.length_map]; rfl
    rw [e, this]
    omega
/-- the degrees' sum -/
theorem deg_sum {r : Nat} (h2 : 2 ≤ r) (h4 : r ≤ 4) : ∀ {J : List Nat}, (∀ c ∈ J, c ∈ alph r) → ((alph r).map fun c => cnt c J + cnt (oth c) J).sum = 2 * J.length
  | [], _ => by
    have : r = 2 ∨ r = 3 ∨ r = 4 := by omega
    rcases this with rfl | rfl | rfl <;> rfl
  | x :: J, h => by
    have ih := deg_sum h2 h4 (J := J) fun c hc => h c (List.mem_cons_of_mem _ hc)
    have hx := h x List.mem_cons_self
    have one : ∀ c, cnt c (x :: J) = cnt c J + if x = c then 1 else 0 := fun c => by
      unfold cnt
      rw [List.filter_cons]
      by_cases e : x = c <;> simp [e]
    have hcase := alph_cases h4 hx
    have : r = 2 ∨ r = 3 ∨ r = 4 := by omega
    rcases this with rfl | rfl | rfl
    all_goals
      simp only [alph, List.take, List.map_cons, List.map_nil, List.sum_cons, List.sum_nil, one, List.length_cons, oth, isLow, isUp, upC, loC] at ih hx ⊢
      simp at ih hx ⊢
      rcases hcase with rfl | rfl | rfl | rfl | rfl | rfl | rfl | rfl <;> simp at hx ⊢ <;> omega
end RC

set_option Elab.async false
set_option linter.all false
set_option autoImplicit false
set_option maxRecDepth 100000
set_option maxHeartbeats 2000000
namespace RC
open RCs
/-- numbers of at most b -/
def Bd (b : Nat) (m : Mat) : Prop := m.p.natAbs ≤ b ∧ m.q.natAbs ≤ b ∧ m.u.natAbs ≤ b ∧ m.v.natAbs ≤ b
theorem sh_bd {x y z : Int} {b : Nat} (hx : x.natAbs ≤ b) (hy : y.natAbs ≤ b) (hz : z.natAbs ≤ 3) : (x + z * y).natAbs ≤ 4 * b := by
  have h1 : (x + z * y).natAbs ≤ x.natAbs + (z * y).natAbs := Int.natAbs_add_le _ _
  rw [Int.natAbs_mul] at h1
  have h2 : z.natAbs * y.natAbs ≤ 3 * b := Nat.mul_le_mul hz hy
  omega
theorem set_self {α : Type} {M : List α} {p : Nat} {s : α} (h : M[p]? = some s) : M.set p s = M := by
  have := List.getElem?_eq_some_iff.mp h
  rw [← this.2]; simp
theorem bd_sm {b : Nat} {m : Mat} (h : Bd b m) (hb : b < 18446744073709551616) : Sm m := by
  obtain ⟨h1, h2, h3, h4⟩ := h
  exact ⟨by omega, by omega, by omega, by omega⟩
theorem bd_mul {a b : Nat} {m n : Mat} (h : Bd a m) (h' : Bd b n) : Bd (2 * (a * b)) (m.mul n) := by
  obtain ⟨h1, h2, h3, h4⟩ := h
  obtain ⟨g1, g2, g3, g4⟩ := h'
  have key : ∀ {x y z w : Int}, x.natAbs ≤ a → y.natAbs ≤ b → z.natAbs ≤ a → w.natAbs ≤ b → (x * y + z * w).natAbs ≤ 2 * (a * b) := fun {x y z w} e1 e2 e3 e4 => by
    have k1 : (x * y + z * w).natAbs ≤ (x * y).natAbs + (z * w).natAbs := Int.natAbs_add_le _ _
    rw [Int.natAbs_mul, Int.natAbs_mul] at k1
    have k2 := Nat.mul_le_mul e1 e2
    have k3 := Nat.mul_le_mul e3 e4
    omega
  exact ⟨key h1 g1 h2 g3, key h1 g2 h2 g4, key h3 g1 h4 g3, key h3 g2 h4 g4⟩
theorem bd_tbl {b : Nat} {T : List Mat} {c : Nat} (hb : 1 ≤ b) (h : ∀ m ∈ T, Bd b m) : Bd b (tbl T c) := by
  have h1 : Bd b (T.getD (ix c) Mat.one) := getD_all h ⟨by show 1 ≤ b; omega, by show 0 ≤ b; omega, by show 0 ≤ b; omega, by show 1 ≤ b; omega⟩ _
  unfold tbl
  split
  · exact h1
  · obtain ⟨h1, h2, h3, h4⟩ := h1
    refine ⟨h4, ?_, ?_, h1⟩
    · show (0 - (T.getD (ix c) Mat.one).q).natAbs ≤ b
      omega
    · show (0 - (T.getD (ix c) Mat.one).u).natAbs ≤ b
      omega
theorem bd_val {T : List Mat} (h : ∀ m ∈ T, Bd 64 m) : ∀ (w : List Nat), Bd (2 ^ (7 * w.length)) (val T w)
  | [] => (show Bd 1 Mat.one from ⟨by decide, by decide, by decide, by decide⟩)
  | c :: w => by
    rw [val_cons]
    have := bd_mul (bd_tbl (c := c) (by omega) h) (bd_val h w)
    have e : 2 * (64 * 2 ^ (7 * w.length)) = 2 ^ (7 * (c :: w).length) := by
      rw [List.length_cons, Nat.mul_add, Nat.pow_add]
      omega
    rw [← e]; exact this
theorem det_val {T : List Mat} (hT : ∀ m ∈ T, Mat.det m = 1) : ∀ u : List Nat, (val T u).det = 1
  | [] => rfl
  | x :: u => by rw [val_cons, Mat.det_mul, det_val hT u, det_tbl hT]; rfl
theorem plain_mD {n : Nat} (m : Mat) : plain (n + 2) (mD m) = true := by simp [mD]
theorem plain_mats (T : List Mat) : plainAll 38 (T.map mD) = true := pl_map fun m _ => plain_mD m
theorem plain_mats9 (T : List Mat) : plainAll 39 (T.map mD) = true := pl_map fun m _ => plain_mD m
theorem sz_mats (T : List Mat) : szAll (T.map mD) ≤ T.length * (8000 + 2) := sz_map fun m _ => by simp [mD]
theorem sm_mats {T : List Mat} (h : ∀ m ∈ T, Sm m) : smAll (T.map mD) = true := sm_map fun m hm => by
  obtain ⟨h1, h2, h3, h4⟩ := h m hm
  simp [mD, log_small (n := 64) h1 (by omega) (by omega), log_small (n := 64) h2 (by omega) (by omega), log_small (n := 64) h3 (by omega) (by omega), log_small (n := 64) h4 (by omega) (by omega)]
end RC

set_option Elab.async false
set_option linter.all false
set_option autoImplicit false
set_option maxRecDepth 100000
set_option maxHeartbeats 4000000
namespace RC
open RCs
/-! ### k07 -/
theorem rep_len {α : Type} : ∀ (n : Nat) (xs : List α), (rep n xs).length = n * xs.length
  | 0, xs => by simp [rep]
  | n + 1, xs => by rw [rep, List.length_append, rep_len n xs, Nat.add_mul]; omega
theorem rep_mem {α : Type} {c : α} : ∀ {n : Nat} {xs : List α}, c ∈ rep n xs → c ∈ xs
  | 0, xs, h => by simp [rep] at h
  | n + 1, xs, h => by
    rw [rep] at h
    exact (List.mem_append.mp h).elim id rep_mem
theorem mul_str {s : List Nat} {j : Int} (h0 : 0 ≤ j) (h1 : j < 100000) (h2 : s.length * j.toNat ≤ 16777216) : mulF (.str s) (.int j) = some (.str (rep j.toNat s)) := if_pos ⟨h0, h1, h2⟩
theorem cy_ring {w : List Nat} (hl : w.length < 9000) : Cy (ring w) := by
  obtain ⟨h1, h2⟩ := ring_cy hl
  have := cyc_cy h1 (by have := ring_len w; omega)
  rwa [h2] at this
theorem ring_wd {r : Nat} {w : List Nat} (hw : ∀ c ∈ w, c ∈ alph r) (hl : w.length < 9000) : Wd r (ring w) := (round_wd hw (by omega)).1
theorem isR_ring {r : Nat} {w : List Nat} (hr : r ≤ 4) (hw : ∀ c ∈ w, c ∈ alph r) (hl : w.length ≤ 100) (hne : ring w ≠ []) : isR r (ring w) = true := by
  have hwd := ring_wd hw (by omega)
  have hlen := ring_len w
  have hW : isW r (ring w) = true := (isW_iff hr).mpr ⟨hwd, by omega⟩
  have h0 : (ring w == []) = false := by simpa using hne
  have hcy := cy_ring (w := w) (by omega)
  have hid : lrot (ring w) = ring w := lrot_idem fun c hc => (wd_lts hr hw).rd c (cyc_mem hc)
  have hends : (decide (1 < (ring w).length) && ((ring w).head? == (ring w).getLast?.map oth)) = false := by
    by_cases h1 : 1 < (ring w).length
    · obtain ⟨a, ha⟩ : ∃ a, (ring w).head? = some a := by cases q : ring w with | nil => exact absurd q hne | cons a t => exact ⟨a, rfl⟩
      obtain ⟨z, hz⟩ : ∃ z, (ring w).getLast? = some z := by
        cases q : (ring w).getLast? with
        | none => rw [List.getLast?_eq_none_iff] at q; exact absurd q hne
        | some z => exact ⟨z, rfl⟩
      rcases hcy.2 z a hz ha with e | e
      · rw [ha, hz]
        simp [e]
      · omega
    · simp [h1]
  unfold isR
  rw [hW, h0, hends, hid]
  simp
end RC

set_option Elab.async false
set_option linter.all false
set_option autoImplicit false
set_option maxRecDepth 100000
set_option maxHeartbeats 4000000
/-! The rule of change: what a move does to a ring. -/
namespace RC
open RCs
section
variable (s : Nat) (p : Nat → Bool)
def bfo (x : Nat) : List Nat := if p (oth x) then [oth s] else []
def bhd (x : Nat) : List Nat := if p x then [s] else []
def cor (x : Nat) : List Nat := if x = s ∨ x = oth s then [] else [x]
/-- the image of a letter under a move -/
def mvI (x : Nat) : List Nat := if x = s ∨ x = oth s then [x] else bfo s p x ++ x :: bhd s p x
/-- what is left between two letters -/
def jj (x y : Nat) : List Nat := if p x then (if p (oth y) then [] else [s]) else (if p (oth y) then [oth s] else [])
def Lp : List Nat → Nat → List Nat
  | [], _ => []
  | [x], z => cor s x ++ jj s p x z
  | x :: y :: ys, z => cor s x ++ (jj s p x y ++ Lp (y :: ys) z)
def Gp : List Nat → Nat → List Nat
  | [], _ => []
  | [x], z => cor s x ++ (bhd s p x ++ bfo s p z)
  | x :: y :: ys, z => cor s x ++ (bhd s p x ++ bfo s p y ++ Gp (y :: ys) z)
/-- how many neighbours the side parts -/
def cutP : List Nat → Nat → Nat
  | [], _ => 0
  | [x], z => if p x = p (oth z) then 0 else 1
  | x :: y :: ys, z => (if p x = p (oth y) then 0 else 1) + cutP (y :: ys) z
end
theorem red_cons {x : Nat} {w : List Nat} (h : Red w) (hf : ∀ f, w.head? = some f → f ≠ oth x) : Red (x :: w) := by
  cases w with
  | nil => trivial
  | cons y w => exact ⟨hf y rfl, h⟩
theorem red_join : ∀ {a b : List Nat} {l f : Nat}, Red (a ++ b) → a.getLast? = some l → b.head? = some f → f ≠ oth l
  | [], _, _, _, _, h, _ => by cases h
  | [x], b, l, f, hr, h1, h2 => by
    cases b with
    | nil => cases h2
    | cons y b =>
      cases h1; cases h2
      exact hr.1
  | x :: y :: a, b, l, f, hr, h1, h2 => red_join (a := y :: a) hr.2 (by simpa using h1) h2
section
variable {s : Nat} {p : Nat → Bool} (hs : s ∈ alph 4) (ps : p s = true) (po : p (oth s) = false)
include hs ps po
theorem mvI_form {x : Nat} : mvI s p x = bfo s p x ++ (cor s x ++ bhd s p x) := by
  unfold mvI bfo cor bhd
  by_cases h1 : x = s
  · subst h1; simp [ps, po]
  · by_cases h2 : x = oth s
    · subst h2; simp [oo hs, ps, po]
    · simp [h1, h2]
theorem flat_Gp : ∀ (x : Nat) (xs : List Nat) (z : Nat), (x :: xs).flatMap (mvI s p) ++ bfo s p z = bfo s p x ++ Gp s p (x :: xs) z
  | x, [], z => by
    rw [Gp, List.flatMap_cons, List.flatMap_nil, List.append_nil, mvI_form hs ps po]
    simp
  | x, y :: ys, z => by
    have ih := flat_Gp y ys z
    rw [Gp, List.flatMap_cons, List.append_assoc, ih, mvI_form hs ps po]
    simp
theorem jj_rd (a b : List Nat) (x y : Nat) : rd (a ++ (bhd s p x ++ bfo s p y ++ b)) = rd (a ++ (jj s p x y ++ b)) := by
  unfold bhd bfo jj
  cases p x <;> cases p (oth y) <;> simp
  exact rd_pair hs
theorem Gp_rd : ∀ (w : List Nat) (z : Nat) (a : List Nat), rd (a ++ Gp s p w z) = rd (a ++ Lp s p w z)
  | [], _, _ => rfl
  | [x], z, a => by
    have := jj_rd hs ps po (a ++ cor s x) [] x z
    rw [Gp, Lp]
    simpa using this
  | x :: y :: ys, z, a => by
    have ih := Gp_rd (y :: ys) z (a ++ (cor s x ++ (bhd s p x ++ bfo s p y)))
    have h2 := jj_rd hs ps po (a ++ cor s x) (Lp s p (y :: ys) z) x y
    rw [Gp, Lp]
    simp only [List.append_assoc] at ih h2 ⊢
    rw [ih, h2]
/-- what a path's word begins with -/
def HdOk (s : Nat) (p : Nat → Bool) (y : Nat) (W : List Nat) : Prop := ∀ f, W.head? = some f → (f = y ∧ y ≠ s ∧ y ≠ oth s) ∨ (y = s ∧ (f = s ∨ (f ≠ s ∧ f ≠ oth s ∧ p (oth f) = true))) ∨ (y = oth s ∧ (f = oth s ∨ (f ≠ s ∧ f ≠ oth s ∧ p (oth f) = false)))
theorem Lp_red : ∀ (x : Nat) (xs : List Nat) (z : Nat), Lts (x :: xs) → z ∈ alph 4 → Red ((x :: xs) ++ [z]) → Red (Lp s p (x :: xs) z) ∧ HdOk s p x (Lp s p (x :: xs) z)
  | x, [], z, hl, hz, hr => by
    have hx : x ∈ alph 4 := hl x (by simp)
    have o1 : x ≠ s → oth s ≠ oth x := fun h e => h (o_inj hs hx e).symm
    have o2 : x ≠ oth s → s ≠ oth x := fun h e => h (by rw [e, oo hx])
    rw [Lp]
    unfold cor jj HdOk
    by_cases h1 : x = s
    · subst h1
      simp only [ps, true_or, if_true, List.nil_append]
      cases p (oth z) <;> simp [Red]
    · by_cases h2 : x = oth s
      · subst h2
        simp only [po, or_true, if_true, List.nil_append]
        cases p (oth z) <;> simp [Red]
      · simp only [h1, h2, or_self, if_false]
        cases p x <;> cases p (oth z) <;> simp [Red, h1, h2] <;> first | exact o1 h1 | exact o2 h2
  | x, y :: ys, z, hl, hz, hr => by
    have hx : x ∈ alph 4 := hl x (by simp)
    have hy : y ∈ alph 4 := hl y (by simp)
    obtain ⟨ih1, ih2⟩ := Lp_red y ys z hl.tail hz hr.2
    have hxy : y ≠ oth x := hr.1
    have ho : oth s ≠ s := o_ne hs
    rw [Lp]
    obtain ⟨W, eW⟩ : ∃ W, W = Lp s p (y :: ys) z := ⟨_, rfl⟩
    rw [← eW] at ih1 ih2 ⊢
    -- s in front of W
    have inS : p (oth y) = false → Red (s :: W) := fun h => red_cons ih1 fun f hf e => by
      rcases ih2 f hf with ⟨rfl, h1, h2⟩ | ⟨rfl, h1⟩ | ⟨rfl, h1⟩
      · exact h2 e
      · rcases h1 with rfl | ⟨_, h2, _⟩
        · exact ho e.symm
        · exact h2 e
      · rw [oo hs, ps] at h; cases h
    have inO : p (oth y) = true → Red (oth s :: W) := fun h => red_cons ih1 fun f hf e => by
      rw [oo hs] at e
      rcases ih2 f hf with ⟨rfl, h1, h2⟩ | ⟨rfl, h1⟩ | ⟨rfl, h1⟩
      · exact h1 e
      · rw [po] at h; cases h
      · rcases h1 with rfl | ⟨h2, _, _⟩
        · exact ho e
        · exact h2 e
    unfold cor jj
    by_cases h1 : x = s
    · subst h1
      simp only [ps, true_or, if_true, List.nil_append]
      cases q : p (oth y) with
      | false =>
        simp only [Bool.false_eq_true, if_false, List.cons_append, List.nil_append]
        exact ⟨inS q, fun f hf => .inr (.inl ⟨rfl, .inl (by simpa using hf.symm)⟩)⟩
      | true =>
        simp only [if_true, List.nil_append]
        refine ⟨ih1, fun f hf => .inr (.inl ⟨rfl, ?_⟩)⟩
        rcases ih2 f hf with ⟨rfl, h1, h2⟩ | ⟨rfl, h1⟩ | ⟨rfl, h1⟩
        · exact .inr ⟨h1, h2, q⟩
        · rw [po] at q; cases q
        · exact absurd rfl hxy
    · by_cases h2 : x = oth s
      · subst h2
        simp only [po, or_true, if_true, List.nil_append, Bool.false_eq_true, if_false]
        cases q : p (oth y) with
        | true =>
          simp only [if_true, List.cons_append, List.nil_append]
          exact ⟨inO q, fun f hf => .inr (.inr ⟨rfl, .inl (by simpa using hf.symm)⟩)⟩
        | false =>
          simp only [Bool.false_eq_true, if_false, List.nil_append]
          refine ⟨ih1, fun f hf => .inr (.inr ⟨rfl, ?_⟩)⟩
          rcases ih2 f hf with ⟨rfl, h1, h2⟩ | ⟨rfl, h1⟩ | ⟨rfl, h1⟩
          · exact .inr ⟨h1, h2, q⟩
          · exact absurd (oo hs).symm hxy
          · rw [oo hs, ps] at q; cases q
      · have o1 : oth s ≠ oth x := fun e => h1 (o_inj hs hx e).symm
        have o2 : s ≠ oth x := fun e => h2 (by rw [e, oo hx])
        simp only [h1, h2, or_self, if_false, List.cons_append, List.nil_append]
        refine ⟨?_, fun f hf => .inl ⟨by simpa using hf.symm, h1, h2⟩⟩
        cases qx : p x <;> cases q : p (oth y) <;> simp only [Bool.false_eq_true, if_true, if_false, List.nil_append, List.cons_append]
        · refine red_cons ih1 fun f hf e => ?_
          rcases ih2 f hf with ⟨rfl, _, _⟩ | ⟨rfl, h3⟩ | ⟨rfl, h3⟩
          · exact hxy e
          · rcases h3 with rfl | ⟨_, _, h4⟩
            · exact o2 e
            · rw [e, oo hx, qx] at h4; cases h4
          · rw [oo hs, ps] at q; cases q
        · exact red_cons (inO q) fun f hf e => o1 (by rw [← e]; simpa using hf)
        · exact red_cons (inS q) fun f hf e => o2 (by rw [← e]; simpa using hf)
        · refine red_cons ih1 fun f hf e => ?_
          rcases ih2 f hf with ⟨rfl, _, _⟩ | ⟨rfl, h3⟩ | ⟨rfl, h3⟩
          · exact hxy e
          · rw [po] at q; cases q
          · rcases h3 with rfl | ⟨_, _, h4⟩
            · exact o1 e
            · rw [e, oo hx, qx] at h4; cases h4
end
theorem Lp_app (s : Nat) (p : Nat → Bool) : ∀ (u : List Nat) (y : Nat) (v : List Nat) (z : Nat), u ≠ [] → Lp s p (u ++ y :: v) z = Lp s p u y ++ Lp s p (y :: v) z
  | [], _, _, _, h => absurd rfl h
  | [x], y, v, z, _ => by simp [Lp]
  | x :: x' :: u, y, v, z, _ => by
    have := Lp_app s p (x' :: u) y v z (by simp)
    simp only [List.cons_append] at this ⊢
    rw [Lp, Lp, this]
    simp
theorem Lp_len {s : Nat} {p : Nat → Bool} (hs : s ∈ alph 4) : ∀ (w : List Nat) (z : Nat), (Lp s p w z).length + (cnt s w + cnt (oth s) w) = w.length + cutP p w z
  | [], _ => by simp [Lp, cutP, cnt]
  | [x], z => by
    have ho : oth s ≠ s := o_ne hs
    unfold Lp cutP cor jj cnt
    by_cases h1 : x = s
    · subst h1
      cases p x <;> cases p (oth z) <;> simp [ho.symm]
    · by_cases h2 : x = oth s
      · subst h2
        cases p (oth s) <;> cases p (oth z) <;> simp [ho]
      · cases p x <;> cases p (oth z) <;> simp [h1, h2]
  | x :: y :: ys, z => by
    have ih := Lp_len (p := p) hs (y :: ys) z
    have ho : oth s ≠ s := o_ne hs
    have c1 : cnt s (x :: y :: ys) = (if x = s then 1 else 0) + cnt s (y :: ys) := by
      unfold cnt
      rw [List.filter_cons]
      by_cases h : x = s <;> simp [h]; omega
    have c2 : cnt (oth s) (x :: y :: ys) = (if x = oth s then 1 else 0) + cnt (oth s) (y :: ys) := by
      unfold cnt
      rw [List.filter_cons]
      by_cases h : x = oth s <;> simp [h]; omega
    rw [Lp, cutP, c1, c2]
    have e1 : (cor s x).length + ((if x = s then 1 else 0) + (if x = oth s then 1 else 0)) = 1 := by
      unfold cor
      by_cases h1 : x = s
      · subst h1; simp [ho.symm]
      · by_cases h2 : x = oth s <;> simp [h1, h2, ho]
    have e2 : (jj s p x y).length = if p x = p (oth y) then 0 else 1 := by
      unfold jj
      cases p x <;> cases p (oth y) <;> simp
    simp only [List.length_append, List.length_cons] at ih ⊢
    rw [e2]
    omega
end RC

set_option Elab.async false
set_option linter.all false
set_option autoImplicit false
set_option maxRecDepth 100000
set_option maxHeartbeats 4000000
namespace RC
open RCs
/-! ### the laws' random rows -/
theorem isR_of_ring {r : Nat} {w : List Nat} (hr : r ≤ 4) (hw : ∀ c ∈ w, c ∈ alph r) (hl : w.length ≤ 100) (hne : ring w ≠ []) : isR r (ring w) = true := by
  have hwd : Wd r (ring w) := (round_wd hw (by omega)).1
  have hlen := ring_len w
  have hW : isW r (ring w) = true := (isW_iff hr).mpr ⟨hwd, by omega⟩
  have h0 : (ring w == []) = false := by simpa using hne
  obtain ⟨k1, k2⟩ := ring_cy (w := w) (by omega)
  have hcy : Cy (ring w) := by
    have := cyc_cy k1 (by omega)
    rwa [k2] at this
  have hid : lrot (ring w) = ring w := lrot_idem fun c hc => (wd_lts hr hw).rd c (cyc_mem hc)
  have hends : (decide (1 < (ring w).length) && ((ring w).head? == (ring w).getLast?.map oth)) = false := by
    by_cases h1 : 1 < (ring w).length
    · obtain ⟨a, ha⟩ : ∃ a, (ring w).head? = some a := by cases q : ring w with | nil => exact absurd q hne | cons a t => exact ⟨a, rfl⟩
      obtain ⟨z, hz⟩ : ∃ z, (ring w).getLast? = some z := by
        cases q : (ring w).getLast? with
        | none => rw [List.getLast?_eq_none_iff] at q; exact absurd q hne
        | some z => exact ⟨z, rfl⟩
      rcases hcy.2 z a hz ha with e | e
      · rw [ha, hz]
        simp [e]
      · omega
    · simp [h1]
  unfold isR
  rw [hW, h0, hends, hid]
  simp
theorem rlen_le {m : Nat} : ∀ {R : List (List Nat)}, (∀ w ∈ R, List.length w ≤ m) → rlen R ≤ R.length * m
  | [], _ => by simp [rlen]
  | w :: R, h => by
    have := rlen_le (R := R) fun x hx => h x (List.mem_cons_of_mem _ hx)
    have := h w List.mem_cons_self
    simp only [rlen, List.map_cons, List.sum_cons, List.length_cons, Nat.add_mul, Nat.one_mul] at *
    omega
theorem lrings_ok {k n p r many most : Nat} {ns : List Int} {M : Store} (hk : 4 ≤ k) (hp : M[p]? = some ns) (hs : Sr n ns) (hn : n + many * (most + 1) < 1000000) (h2 : 2 ≤ r) (h4 : r ≤ 4) (hm1 : many ≤ 100) (hm2 : 1 ≤ most) (hm3 : most ≤ 100) :
    ∃ (R : List (List Nat)) (ns' : List Int), callF P k 59 [.ref p, .int r, .int many, .int most] M = .ok (rowD R) (M.set p ns') ∧ R.length = many ∧ (∀ w ∈ R, isR r w = true ∧ List.length w ≤ most) ∧ Sr (n + many * (most + 1)) ns' := by
  have hpl : p < M.length := (List.getElem?_eq_some_iff.mp hp).1
  rw [C59 (by omega)]
  obtain ⟨ρ', M', hf, R, ns', a, b, rfl, rfl, h1, hl, h3⟩ := for_inv (ds := rngD 0 many) (body := forBody (P.cfg (k - 1)) (.n 5) F59_0) (fun i ρ M' => ∃ (R : List (List Nat)) (ns' : List Int) (a b : Option Sl), ρ = [some (.v (.ref p)), some (.v (.int r)), some (.v (.int many)), some (.v (.int most)), some (.o (R.map .str)), a, b] ∧ M' = M.set p ns' ∧ Sr (n + i * (most + 1)) ns' ∧ R.length = i ∧ (∀ w ∈ R, isR r w = true ∧ List.length w ≤ most)) (fun i z hd ρ M' hI => by
      obtain ⟨hi, rfl⟩ := rng_get hd
      obtain ⟨R, ns', a, b, rfl, rfl, h1, hl, h3⟩ := hI
      have hmul : (i + 1) * (most + 1) ≤ many * (most + 1) := Nat.mul_le_mul_right _ hi
      have hexp : (i + 1) * (most + 1) = i * (most + 1) + (most + 1) := by rw [Nat.add_mul, Nat.one_mul]
      obtain ⟨v, ns2, hv, v0, v1, hs2⟩ := next_ok (k := k - 1) (m := (most : Int)) (M := M.set p ns') (by omega) (List.getElem?_set_self hpl) h1 (by omega) (by omega) (by omega)
      obtain ⟨t, ns3, ht, hw, htl, hs3⟩ := text_ok (k := k - 1) (r := r) (s := (1 + v).toNat) (M := M.set p ns2) (by omega) (List.getElem?_set_self hpl) hs2 (by omega) h2 h4 (by omega)
      rw [show (((1 + v).toNat : Nat) : Int) = 1 + v by omega] at ht
      rw [List.set_set] at hv ht
      have htL := wd_lts h4 hw.1
      have hro := fun M => round_ok (k := k - 1) (w := t) (M := M) (by omega) htL (by omega)
      replace hro : ∀ M, callF P (k - 1) 40 [.str t] M = .ok (.str (ring t)) M := hro
      have hne : ring t ≠ [] := fun e => by
        have := (ring_nil htL).mp e
        rw [rd_id hw.2] at this
        rw [this] at htl
        simp at htl
        omega
      have hne' : (ring t == []) = false := by simpa using hne
      have hrl := ring_len t
      have hsz : R.length < SZ := by rw [hl]; show i < 16777216; omega
      refine ⟨_, _, ?_, R ++ [ring t], ns3, some (.v (.int i)), some (.v (.str (ring t))), rfl, rfl, hs3.mono (by omega), by simp [hl], fun w hw' => ?_⟩
      · simp [forBody, F59_0, hv, ht, hro, hne', hsz]
      · rcases List.mem_append.mp hw' with q | q
        · exact h3 w q
        · have : w = ring t := by simpa using q
          rw [this]
          exact ⟨isR_of_ring h4 hw.1 (by omega) hne, by omega⟩) (ρ := [some (.v (.ref p)), some (.v (.int r)), some (.v (.int many)), some (.v (.int most)), some (.o []), none, none]) (M := M) ⟨[], ns, none, none, rfl, by
        have := List.getElem?_eq_some_iff.mp hp
        rw [← this.2]; simp, by simpa using hs, rfl, by simp⟩
  rw [rng_len] at h1 hl
  refine ⟨R, ns', ?_, hl, h3, h1⟩
  have hb : -1000000 ≤ (many : Int) ∧ (many : Int) ≤ 1000000 := by omega
  simp [b59, ex_for, hb, hf, rowD]
theorem small_row_ok {k n p r most : Nat} {ns : List Int} {M : Store} (hk : 5 ≤ k) (hp : M[p]? = some ns) (hs : Sr n ns) (hn : n + 1 + 3 * (most + 1) < 1000000) (h2 : 2 ≤ r) (h4 : r ≤ 4) (hm2 : 1 ≤ most) (hm3 : most ≤ 20) :
    ∃ (R : List (List Nat)) (ns' : List Int), callF P k 60 [.ref p, .int r, .int most] M = .ok (rowD R) (M.set p ns') ∧ Rw r R ∧ R.length ≤ 3 ∧ (∀ w ∈ R, List.length w ≤ most) ∧ Sr (n + 1 + 3 * (most + 1)) ns' := by
  have hpl : p < M.length := (List.getElem?_eq_some_iff.mp hp).1
  obtain ⟨v, ns1, hv, v0, v1, hs1⟩ := next_ok (k := k - 1) (m := 3) (by omega) hp hs (by omega) (by omega) (by omega)
  have hmm : (1 + v).toNat * (most + 1) ≤ 3 * (most + 1) := Nat.mul_le_mul_right _ (by omega)
  obtain ⟨R, ns2, e, hl, hR, hs2⟩ := lrings_ok (k := k - 1) (r := r) (many := (1 + v).toNat) (most := most) (M := M.set p ns1) (by omega) (List.getElem?_set_self hpl) hs1 (by omega) h2 h4 (by omega) hm2 (by omega)
  rw [show (((1 + v).toNat : Nat) : Int) = 1 + v by omega, List.set_set] at e
  have hrl := rlen_le (m := most) fun w hw => (hR w hw).2
  have hrl2 : R.length * most ≤ 3 * 20 := Nat.mul_le_mul (by omega) hm3
  refine ⟨R, ns2, ?_, ⟨by omega, by omega, fun w hw => (hR w hw).1, by omega⟩, by omega, fun w hw => (hR w hw).2, hs2.mono (by omega)⟩
  rw [C60 (by omega)]
  simp [b60, hv, e]
/-! ### k21 -/
theorem allS_strs : ∀ R : List (List Nat), allS (R.map D.str) = some R
  | [] => rfl
  | w :: R => by simp [allS, allS_strs R]
theorem joinS_nil : ∀ R : List (List Nat), joinS [] R = R.flatten
  | [] => rfl
  | [w] => by simp [joinS]
  | w :: v :: R => by
    rw [joinS, joinS_nil (v :: R)]
    simp
theorem join_row {R : List (List Nat)} (h : rlen R ≤ 16777216) : mtF .join (.str []) [rowD R] = some (.str R.flatten) := by
  simp [mtF, rowD, seqOf, allS_strs, joinS_nil, SZ]
  exact h
theorem edA_plain {r n : Nat} {R : List (List Nat)} (hr : r ≤ 4) (hR : ∀ w ∈ R, ∀ c ∈ w, c ∈ alph r) : plainAll (n + 2) (edA 0 R) = true := by
  rw [edA_map]
  exact pl_map fun t ht => by
    obtain ⟨h1, h2⟩ := edT_mem ht
    have xa := alph_ascii (hR _ h1 _ (getD_in h2))
    have ya := oth_lt (alph_ascii (hR _ h1 _ (getD_in (Nat.mod_lt (t.2.2 + 1) (by omega : 0 < t.2.1.length)))))
    simp [edD, pl_str (show ∀ c ∈ [chr t.2.1 t.2.2], c < 1114112 by simp; omega), pl_str (show ∀ c ∈ [oth (chr t.2.1 ((t.2.2 + 1) % t.2.1.length))], c < 1114112 by simp; omega)]
theorem edA_rp {r : Nat} {R : List (List Nat)} (hr : r ≤ 4) (hR : ∀ w ∈ R, ∀ c ∈ w, c ∈ alph r) (hl : rlen R ≤ 60) (hRl : R.length ≤ 1000) : ∃ s, rpD (.tup (edA 0 R)) = some s := by
  have hm : ∀ t ∈ edT 0 R, t.1 ≤ 100000 ∧ t.2.2 ≤ 100000 := fun t ht => by
    have key : ∀ (R : List (List Nat)) (k : Nat), ∀ t ∈ edT k R, t.1 ≤ k + R.length := by
      intro R
      induction R with
      | nil => intro k t h; cases h
      | cons w R ih =>
        intro k t h
        rw [edT] at h
        rcases List.mem_append.mp h with h | h
        · obtain ⟨i, _, rfl⟩ := List.mem_map.mp h
          simp
        · have := ih (k + 1) t h
          simp; omega
    have := key R 0 t ht
    obtain ⟨h1, h2⟩ := edT_mem ht
    have h3 : t.2.1.length ≤ rlen R := by
      have : ∀ (R : List (List Nat)) (w : List Nat), w ∈ R → w.length ≤ rlen R := by
        intro R
        induction R with
        | nil => intro w h; cases h
        | cons v R ih =>
          intro w h
          simp only [rlen, List.map_cons, List.sum_cons] at *
          rcases List.mem_cons.mp h with e | e
          · rw [e]; omega
          · have := ih w e; omega
      exact this R _ h1
    exact ⟨by omega, by omega⟩
  refine rp_some (by rw [pl_tup]; exact edA_plain hr hR) ?_ ?_
  · rw [sm_tup, edA_map]
    exact sm_map fun t ht => by
      obtain ⟨h1, h2⟩ := hm t ht
      have l1 : t.1.log2 < 1920 := by have := log_small (i := (t.1 : Int)) (n := 64) (by omega) (by omega) (by omega); simpa using this
      have l2 : t.2.2.log2 < 1920 := by have := log_small (i := (t.2.2 : Int)) (n := 64) (by omega) (by omega) (by omega); simpa using this
      simp [edD, l1, l2]
  · rw [sz_tup, edA_map]
    have := sz_map (f := fun t : Nat × List Nat × Nat => edD t.1 t.2.1 t.2.2) (xs := edT 0 R) (m := 4000) fun t _ => by simp [edD]
    rw [edT_len] at this
    have h2 : rlen R * (4000 + 2) ≤ 60 * (4000 + 2) := Nat.mul_le_mul_right _ hl
    omega
end RC

set_option Elab.async false
set_option linter.all false
set_option autoImplicit false
set_option maxRecDepth 100000
set_option maxHeartbeats 4000000
/-! .. of a whole ring -/
namespace RC
open RCs
theorem rot_split (a b : List Nat) : rot (a ++ b) a.length = b ++ a := by unfold rot; simp
theorem mvI_mem {s : Nat} {p : Nat → Bool} {r x c : Nat} (hr : r ≤ 4) (hs : s ∈ alph r) (hx : x ∈ alph r) (h : c ∈ mvI s p x) : c ∈ alph r := by
  unfold mvI bfo bhd at h
  have ho := oth_mem hr hs
  split at h
  · rw [List.mem_singleton.mp h]; exact hx
  · rcases List.mem_append.mp h with h | h
    · split at h
      · rw [List.mem_singleton.mp h]; exact ho
      · cases h
    · rcases List.mem_cons.mp h with h | h
      · rw [h]; exact hx
      · split at h
        · rw [List.mem_singleton.mp h]; exact hs
        · cases h
theorem mvI_len {s : Nat} {p : Nat → Bool} {x : Nat} : (mvI s p x).length ≤ 3 := by
  unfold mvI bfo bhd
  split
  · simp
  · split <;> split <;> simp
theorem flat_len {f : Nat → List Nat} {m : Nat} (h : ∀ x, (f x).length ≤ m) : ∀ w : List Nat, (w.flatMap f).length ≤ w.length * m
  | [] => by simp
  | x :: w => by
    have := flat_len h w
    have := h x
    rw [List.flatMap_cons, List.length_append, List.length_cons, Nat.add_mul]
    omega
theorem Lp_mem {s : Nat} {p : Nat → Bool} {c : Nat} : ∀ {w : List Nat} {z : Nat}, c ∈ Lp s p w z → c ∈ w ∨ c = s ∨ c = oth s
  | [], _, h => by simp [Lp] at h
  | [x], z, h => by
    unfold Lp cor jj at h
    rcases List.mem_append.mp h with h | h
    · split at h
      · cases h
      · exact .inl h
    · revert h
      cases p x <;> cases p (oth z) <;> simp <;> intro h <;> simp [h]
  | x :: y :: ys, z, h => by
    rw [Lp] at h
    rcases List.mem_append.mp h with h | h
    · unfold cor at h
      split at h
      · cases h
      · rw [List.mem_singleton.mp h]; exact .inl List.mem_cons_self
    · rcases List.mem_append.mp h with h | h
      · unfold jj at h
        revert h
        cases p x <;> cases p (oth y) <;> simp <;> intro h <;> simp [h]
      · rcases Lp_mem (w := y :: ys) h with h | h
        · exact .inl (List.mem_cons_of_mem _ h)
        · exact .inr h
/-- a word that is reduced around -/
structure Rd (w : List Nat) : Prop where
  lts : Lts w
  red : Red w
  cyc : 1 < w.length → ∀ x y, w.getLast? = some x → w.head? = some y → y ≠ oth x
theorem Rd.ends {w : List Nat} (h : Rd w) : ∀ x y, w.getLast? = some x → w.head? = some y → y ≠ oth x := fun x y hx hy => by
  by_cases q : 1 < w.length
  · exact h.cyc q x y hx hy
  · match w, q, hx, hy, h with
    | [a], _, hx, hy, h =>
      have e1 : a = x := by simpa using hx
      have e2 : a = y := by simpa using hy
      rw [← e1, ← e2]
      exact fun e => o_ne (h.lts a (by simp)) e.symm
    | a :: b :: t, q, _, _, _ => exact absurd (by simp) q
theorem move_ring {s : Nat} {p : Nat → Bool} {x : Nat} {xs : List Nat} (hs : s ∈ alph 4) (ps : p s = true) (po : p (oth s) = false) (hw : Rd (x :: xs)) (hl : (x :: xs).length ≤ 1000) :
    ring ((x :: xs).flatMap (mvI s p)) = lrot (Lp s p (x :: xs) x) ∧ (ring ((x :: xs).flatMap (mvI s p))).length + (cnt s (x :: xs) + cnt (oth s) (x :: xs)) = (x :: xs).length + cutP p (x :: xs) x := by
  have hx : x ∈ alph 4 := hw.lts x (by simp)
  -- the word, turned
  obtain ⟨Y, eY⟩ : ∃ Y, (x :: xs).flatMap (mvI s p) = bfo s p x ++ Y := ⟨_, by rw [List.flatMap_cons, mvI_form hs ps po, List.append_assoc]⟩
  have hf := flat_Gp hs ps po x xs x
  rw [eY, List.append_assoc] at hf
  have eG : Gp s p (x :: xs) x = Y ++ bfo s p x := (List.append_cancel_left hf).symm
  have lts : Lts ((x :: xs).flatMap (mvI s p)) := fun c hc => by
    obtain ⟨y, hy, h⟩ := List.mem_flatMap.mp hc
    exact mvI_mem (by omega) hs (hw.lts y hy) h
  have len : ((x :: xs).flatMap (mvI s p)).length ≤ 3000 := Nat.le_trans (flat_len (fun _ => mvI_len) _) (by omega)
  have e1 : ring ((x :: xs).flatMap (mvI s p)) = ring (Gp s p (x :: xs) x) := by
    have := rot_conj (w := (x :: xs).flatMap (mvI s p)) (k := (bfo s p x).length) lts (by omega)
    rw [← this]
    conv => lhs; rw [eY]
    rw [rot_split, eG]
  have e2 : rd (Gp s p (x :: xs) x) = rd (Lp s p (x :: xs) x) := Gp_rd hs ps po (x :: xs) x []
  obtain ⟨V, eV⟩ : ∃ V, V = Lp s p (x :: xs) x := ⟨_, rfl⟩
  have hww : Red ((x :: xs) ++ ((x :: xs) ++ [x])) := by
    have h1 : Red ((x :: xs) ++ [x]) := red_app hw.red trivial fun a b ha hb => by
      cases hb
      exact hw.ends a x ha rfl
    exact red_app hw.red h1 fun a b ha hb => by
      have : b = x := by simpa using hb.symm
      subst this
      exact hw.ends a b ha rfl
  have hVV : Red (V ++ V) := by
    have h1 : Lts (x :: xs ++ (x :: xs)) := hw.lts.app hw.lts
    have := (Lp_red hs ps po x (xs ++ x :: xs) x (by simpa using h1) hx (by simpa using hww)).1
    have e := Lp_app s p (x :: xs) x xs x (by simp)
    rw [List.cons_append] at e
    rw [e] at this
    rw [eV]; exact this
  have hV : Red V := by
    have := red_take V.length hVV
    rwa [List.take_left] at this
  have hVc : cyc V = V := cy_cyc fun a b ha hb => red_join hVV ha hb
  have e3 : ring ((x :: xs).flatMap (mvI s p)) = lrot V := by
    rw [e1, ← ring_rd, e2, ← eV, ring_rd]
    unfold ring
    rw [rd_id hV, hVc]
  refine ⟨by rw [e3, eV], ?_⟩
  obtain ⟨k, _, ek⟩ := lrot_rot (w := V)
  rw [e3, ek, rot_len, eV]
  exact Lp_len hs (x :: xs) x
/-- the other side gives the same -/
theorem Lp_compl {s r : Nat} {p q : Nat → Bool} (hs : s ∈ alph 4) (hr : r ≤ 4) (hq : ∀ c ∈ alph r, q c = !p c) : ∀ (w : List Nat) (z : Nat), (∀ c ∈ w, c ∈ alph r) → z ∈ alph r → Lp (oth s) q w z = Lp s p w z
  | [], _, _, _ => rfl
  | [x], z, hw, hz => by
    have h1 := hq x (hw x (by simp))
    have h2 := hq (oth z) (oth_mem hr hz)
    unfold Lp cor jj
    rw [oo hs, h1, h2]
    congr 1
    · by_cases a : x = s <;> by_cases b : x = oth s <;> simp [a, b]
    · cases p x <;> cases p (oth z) <;> rfl
  | x :: y :: ys, z, hw, hz => by
    have ih := Lp_compl hs hr hq (y :: ys) z (fun c hc => hw c (List.mem_cons_of_mem _ hc)) hz
    have h1 := hq x (hw x (by simp))
    have h2 := hq (oth y) (oth_mem hr (hw y (by simp)))
    rw [Lp, Lp, ih]
    unfold cor jj
    rw [oo hs, h1, h2]
    congr 1
    · by_cases a : x = s <;> by_cases b : x = oth s <;> simp [a, b]
    · congr 1
      cases p x <;> cases p (oth y) <;> rfl
theorem move_compl {s r : Nat} {p q : Nat → Bool} {x : Nat} {xs : List Nat} (hs : s ∈ alph r) (hr : r ≤ 4) (ps : p s = true) (po : p (oth s) = false) (hw : Rd (x :: xs)) (hwr : ∀ c ∈ x :: xs, c ∈ alph r) (hl : (x :: xs).length ≤ 1000) (hq : ∀ c ∈ alph r, q c = !p c) :
    ring ((x :: xs).flatMap (mvI (oth s) q)) = ring ((x :: xs).flatMap (mvI s p)) := by
  have hs4 := alph_sub hr hs
  rw [(move_ring hs4 ps po hw hl).1, (move_ring (om hs4) (by rw [hq _ (oth_mem hr hs), po]; rfl) (by rw [oo hs4, hq _ hs, ps]; rfl) hw hl).1, Lp_compl hs4 hr hq (x :: xs) x hwr (hwr x (by simp))]
/-- cutP by places -/
theorem cutP_zip (p : Nat → Bool) : ∀ (x : Nat) (xs : List Nat) (z : Nat), cutP p (x :: xs) z = (((x :: xs).zip (xs ++ [z])).filter fun t => p t.1 != p (oth t.2)).length
  | x, [], z => by
    unfold cutP
    cases h1 : p x <;> cases h : p (oth z) <;> simp [h, h1]
  | x, y :: ys, z => by
    have ih := cutP_zip p y ys z
    rw [cutP, ih, List.cons_append, List.zip_cons_cons, List.filter_cons]
    cases h1 : p x <;> cases h : p (oth y) <;> simp [h, h1] <;> omega
theorem cutP_at (p : Nat → Bool) (x : Nat) (xs : List Nat) : cutP p (x :: xs) x = ((List.range (x :: xs).length).filter fun i => p (chr (x :: xs) i) != p (oth (chr (x :: xs) ((i + 1) % (x :: xs).length)))).length := by
  have e1 := chr_map (x :: xs)
  have e2 := chr_next (x :: xs)
  have e3 : rot (x :: xs) 1 = xs ++ [x] := by simp [rot]
  have e4 : (x :: xs).zip (xs ++ [x]) = (List.range (x :: xs).length).map fun i => (chr (x :: xs) i, chr (x :: xs) ((i + 1) % (x :: xs).length)) := by
    have e5 : (x :: xs).zip (xs ++ [x]) = ((List.range (x :: xs).length).map (chr (x :: xs))).zip ((List.range (x :: xs).length).map fun i => chr (x :: xs) ((i + 1) % (x :: xs).length)) := by rw [e1, e2, e3]
    rw [e5, List.zip_map']
  rw [cutP_zip, e4, List.filter_map, List.length_map]
  rfl
end RC

set_option Elab.async false
set_option linter.all false
set_option autoImplicit false
set_option maxRecDepth 100000
set_option maxHeartbeats 4000000
namespace RC
open RCs
theorem strs_plain {n : Nat} {I : List (List Nat)} (h : ∀ w ∈ I, ∀ c ∈ w, c < 128) : plainAll n (I.map .str) = true := pl_map fun w hw => pl_str fun c hc => by have := h w hw c hc; omega
theorem slots14 {js : List (Option Sl)} (h : js.length = 14) : ∃ a b c d e f g i j k l m n o, js = [a, b, c, d, e, f, g, i, j, k, l, m, n, o] := by
  match js, h with
  | [a, b, c, d, e, f, g, i, j, k, l, m, n, o], _ => exact ⟨a, b, c, d, e, f, g, i, j, k, l, m, n, o, rfl⟩
/-- the base letters as words -/
def basew (r : Nat) : List (List Nat) := [[97], [98], [99], [100]].take r
theorem base_val {r : Nat} {T : List Mat} (hr : 2 ≤ r) (hr4 : r ≤ 4) (hT : T.length = r) : (basew r).map (val T) = T := by
  have one : ∀ c : Nat, val T [c] = tbl T c := fun c => by rw [val_cons]; simp [val, Mat.mul_one]
  have : r = 2 ∨ r = 3 ∨ r = 4 := by omega
  rcases this with rfl | rfl | rfl
  · match T, hT with
    | [a, b], _ => simp [basew, one, tbl, isLow, ix, loC, isUp]
  · match T, hT with
    | [a, b, c], _ => simp [basew, one, tbl, isLow, ix, loC, isUp]
  · match T, hT with
    | [a, b, c, d], _ => simp [basew, one, tbl, isLow, ix, loC, isUp]
theorem base_wd {r : Nat} (hr : 2 ≤ r) (hr4 : r ≤ 4) : (basew r).length = r ∧ ∀ u ∈ basew r, Wd r u ∧ List.length u ≤ 100 := by
  have : r = 2 ∨ r = 3 ∨ r = 4 := by omega
  rcases this with rfl | rfl | rfl <;> refine ⟨rfl, fun u hu => ?_⟩
  · rcases (by simpa [basew] using hu : u = [97] ∨ u = [98]) with rfl | rfl <;> exact ⟨⟨by simp [alph], trivial⟩, by decide⟩
  · rcases (by simpa [basew] using hu : u = [97] ∨ u = [98] ∨ u = [99]) with rfl | rfl | rfl <;> exact ⟨⟨by simp [alph], trivial⟩, by decide⟩
  · rcases (by simpa [basew] using hu : u = [97] ∨ u = [98] ∨ u = [99] ∨ u = [100]) with rfl | rfl | rfl | rfl <;> exact ⟨⟨by simp [alph], trivial⟩, by decide⟩
theorem base_tup {r : Nat} (hr : 2 ≤ r) (hr4 : r ≤ 4) : (slcL [97, 98, 99, 100] none (some (r : Int))).map (fun c : Nat => D.str [c]) = (basew r).map D.str := by
  rw [slc_to]
  have : r = 2 ∨ r = 3 ∨ r = 4 := by omega
  rcases this with rfl | rfl | rfl <;> rfl
theorem val_img0 {r : Nat} {T : List Mat} {I : List (List Nat)} {w : List Nat} (hr : r ≤ 4) (hT : ∀ m ∈ T, m.det = 1) (hI : ∀ w ∈ I, Wd r w) (hIr : I.length = r) (hw : ∀ c ∈ w, c ∈ alph r) : val T (img I w) = val (I.map (val T)) w := by
  have := val_img hr hT hI hIr w [] hw (wd_nil r)
  rw [show val T [] = Mat.one from rfl, Mat.one_mul] at this
  exact this
end RC

set_option Elab.async false
set_option linter.all false
set_option autoImplicit false
set_option maxRecDepth 100000
set_option maxHeartbeats 2000000
namespace RC
open RCs
/-! ### _law_back, _law_is_a_ring -/
theorem lback_ok {k : Nat} {w : List Nat} {M : Store} (hk : 2 ≤ k) (hw : Lts w) (hl : w.length ≤ 1000000) : callF P k 70 [.str w] M = .ok (.str (inv w)) M := by
  rw [C70 (by omega)]
  have hl2 : w.length ≤ 16777216 := by omega
  have e : ev (P.cfg (k - 1)) L70_0 [some (.v (.str w)), none] M = .ok (.lst (w.reverse.map fun c => D.str [oth c])) M :=
    ev_lc (xs := w.reverse) (fun c => D.str [c]) _ (by simp [hl2]) (by simp; omega) fun c hc => ⟨_, rfl, by simp [other_ok (show 1 ≤ k - 1 by omega) (alph_ascii (hw c (by simpa using hc)))]⟩
  have e2 : (w.reverse.map fun c => D.str [oth c]) = (inv w).map fun c => D.str [c] := by
    unfold inv
    rw [List.map_map]
    exact List.map_congr_left fun c hc => by simp [sw (hw c (by simpa using hc))]
  rw [e2] at e
  simp [b70, e, join_ok (k := inv w) (by rw [inv_len]; omega)]
/-- no letter is the inverse of the one before -/
def chk : Nat → List Nat → Bool
  | _, [] => true
  | l, c :: w => if c = oth l then false else chk c w
theorem chk_iff : ∀ (w : List Nat) (l : Nat), chk l w = true ↔ (∀ c, w.head? = some c → c ≠ oth l) ∧ Red w
  | [], l => by simp [chk, Red]
  | [c], l => by
    by_cases e : c = oth l <;> simp [chk, Red, e]
  | c :: d :: w, l => by
    have ih := chk_iff (d :: w) c
    by_cases e : c = oth l
    · simp [chk, e]
    · rw [chk, if_neg e, ih]
      simp [Red, e]
theorem bestD_kd : ∀ (r : List (List Nat)) (x : List Nat), bestD (kd x) (r.map kd) = kd (best x r)
  | [], x => rfl
  | y :: r, x => by
    rw [List.map_cons, bestD, kd_lt, best]
    split
    · exact bestD_kd r y
    · exact bestD_kd r x
theorem min_kd {x : List Nat} {r : List (List Nat)} : biF .min1 [.lst ((x :: r).map kd)] = some (kd (best x r)) := by
  have h1 : allI ((x :: r).map kd) = none := rfl
  have h2 : ((x :: r).map kd).all isPlain = true := List.all_eq_true.mpr fun d hd => by
    obtain ⟨y, _, rfl⟩ := List.mem_map.mp hd
    exact kd_plain _
  have h3 : ((x :: r).map kd).all (fun a => ((x :: r).map kd).all (alk a ·)) = true := List.all_eq_true.mpr fun d hd => List.all_eq_true.mpr fun d' hd' => by
    obtain ⟨y, _, rfl⟩ := List.mem_map.mp hd
    obtain ⟨z, _, rfl⟩ := List.mem_map.mp hd'
    exact kd_alk _ _
  simp only [biF, h1]
  rw [List.map_cons] at h2 h3 ⊢
  rw [minD, h2, h3, bestD_kd]
  rfl
theorem eqAll_li : ∀ x y : List Nat, eqAll (x.map fun c => D.int (li c : Nat)) (y.map fun c => D.int (li c : Nat)) = (x.map li == y.map li)
  | [], [] => by simp
  | [], y :: ys => by simp
  | x :: xs, [] => by simp
  | x :: xs, y :: ys => by
    have ih := eqAll_li xs ys
    simp only [List.map_cons, ea_cons, ih]
    have : eqD (.int (li x : Nat)) (.int (li y : Nat)) = (li x == li y) := by
      rw [eqD]
      by_cases e : li x = li y
      · rw [e, beq_self_eq_true, beq_self_eq_true]
      · have e' : ((li x : Nat) : Int) ≠ ((li y : Nat) : Int) := by omega
        rw [beq_eq_false_iff_ne.mpr e, beq_eq_false_iff_ne.mpr e']
    rw [this]
    rfl
theorem eq_kd {x y : List Nat} (hx : Lts x) (hy : Lts y) : eqF (kd x) (kd y) = some (x == y) := by
  have p1 : plainAll 39 (x.map fun c => D.int (li c : Nat)) = true := pl_map fun _ _ => pl_int
  have p2 : plainAll 39 (y.map fun c => D.int (li c : Nat)) = true := pl_map fun _ _ => pl_int
  rw [kd, kd, q_lst p1 p2, eqAll_li]
  by_cases e : x = y
  · simp [e]
  · have : x.map li ≠ y.map li := fun z => e (map_li hx hy z)
    rw [beq_eq_false_iff_ne.mpr this, beq_eq_false_iff_ne.mpr e]
theorem oth_self {c : Nat} (h : c ∈ alph 4) : oth c ≠ c := by
  rcases alph_cases (Nat.le_refl 4) h with rfl | rfl | rfl | rfl | rfl | rfl | rfl | rfl <;> decide
theorem isi_s {w : List Nat} : isiF P.isa (.str w) .str = some true := rfl
end RC

set_option Elab.async false
set_option linter.all false
set_option autoImplicit false
set_option maxRecDepth 100000
set_option maxHeartbeats 2000000
/-! Images as reduced texts; powers of a letter. -/
namespace RC
open RCs
theorem rd_inv {w : List Nat} (h : Lts w) : rd (inv w) = inv (rd w) := by
  have e1 : rd (inv w) = rd (inv w ++ rd w ++ inv (rd w)) := by
    rw [List.append_assoc, rd_app, ← List.append_nil (rd w ++ inv (rd w)), rd_inv_right h.rd]
    rfl
  rw [e1, rd_mid h, rd_inv_left h, rd_id]
  exact (wd_inv (r := 4) (by omega) ⟨h.rd, rd_red w⟩).2
theorem jn_rd {r : Nat} {a b : List Nat} (hr : r ≤ 4) (ha : Wd r a) (hb : Wd r b) : jn a b = rd (a ++ b) := by
  have hle := lcp_le (inv a) b
  rw [inv_len] at hle
  have hred := (jn_red hr ha hb).2
  obtain ⟨s, es⟩ : ∃ s, s = lcp (inv a) b := ⟨_, rfl⟩
  have hj : jn a b = a.take (a.length - s) ++ b.drop s := by unfold jn; rw [← es]
  have h1 : a = a.take (a.length - s) ++ a.drop (a.length - s) := (List.take_append_drop _ _).symm
  have h2 : b = inv (a.drop (a.length - s)) ++ b.drop s := by
    have e := lcp_take (inv a) b
    rw [← es] at e
    have : inv (a.drop (a.length - s)) = b.take s := by
      rw [← e]
      unfold inv
      rw [← List.map_take, List.take_reverse]
    rw [this, List.take_append_drop]
  have hl : Lts (a.drop (a.length - s)) := fun c hc => alph_sub hr (ha.1 c (List.mem_of_mem_drop hc))
  have e3 : a ++ b = a.take (a.length - s) ++ (a.drop (a.length - s) ++ inv (a.drop (a.length - s)) ++ b.drop s) := by
    calc a ++ b = (a.take (a.length - s) ++ a.drop (a.length - s)) ++ (inv (a.drop (a.length - s)) ++ b.drop s) := by rw [← h1, ← h2]
      _ = _ := by simp only [List.append_assoc]
  rw [e3, rd_app, rd_inv_right hl, ← rd_app, ← hj, rd_id hred]
/-- the images, one behind the other -/
def flt (I : List (List Nat)) (w : List Nat) : List Nat := w.flatMap (img1 I)
theorem flt_lts {r : Nat} {I : List (List Nat)} (hr : r ≤ 4) (hI : ∀ w ∈ I, Wd r w) (w : List Nat) : Lts (flt I w) := fun c hc => by
  obtain ⟨x, _, hx⟩ := List.mem_flatMap.mp hc
  exact alph_sub hr ((wd_img1 (c := x) hr hI).1 c hx)
theorem img_fold {r : Nat} {I : List (List Nat)} (hr : r ≤ 4) (hI : ∀ w ∈ I, Wd r w) : ∀ (w f : List Nat), Wd r f → w.foldl (fun f c => jn f (img1 I c)) f = rd (f ++ flt I w)
  | [], f, hf => by simp [flt, rd_id hf.2]
  | c :: w, f, hf => by
    have h1 := wd_img1 (c := c) hr hI
    rw [List.foldl_cons, img_fold hr hI w _ (jn_red hr hf h1), jn_rd hr hf h1, rd_left (Lts.app (wd_lts hr hf.1) (wd_lts hr h1.1))]
    simp [flt]
theorem img_flt {r : Nat} {I : List (List Nat)} (hr : r ≤ 4) (hI : ∀ w ∈ I, Wd r w) (w : List Nat) : img I w = rd (flt I w) := by
  have := img_fold hr hI w [] (wd_nil r)
  simpa [img] using this
theorem img1_oth {r c : Nat} {I : List (List Nat)} (hr : r ≤ 4) (hI : ∀ w ∈ I, Wd r w) (hc : c ∈ alph 4) : img1 I (oth c) = inv (img1 I c) := by
  have hw : ∀ i, inv (inv (I[i]?.getD [])) = I[i]?.getD [] := fun i => by
    have := inv_inv (wd_lts hr (getD_all hI (wd_nil r) i).1)
    rwa [List.getD_eq_getElem?_getD] at this
  rcases alph_cases (r := 4) (by omega) hc with rfl | rfl | rfl | rfl | rfl | rfl | rfl | rfl <;> simp [img1, oth, isLow, isUp, upC, loC, ix, hw]
theorem flt_app (I : List (List Nat)) (a b : List Nat) : flt I (a ++ b) = flt I a ++ flt I b := by simp [flt]
theorem flt_inv {r : Nat} {I : List (List Nat)} (hr : r ≤ 4) (hI : ∀ w ∈ I, Wd r w) : ∀ {w : List Nat}, Lts w → flt I (inv w) = inv (flt I w)
  | [], _ => rfl
  | c :: w, h => by
    have hc := h c List.mem_cons_self
    rw [inv_cons, flt_app, flt_inv hr hI h.tail, sw hc]
    have e1 : flt I [oth c] = inv (img1 I c) := by simp [flt, img1_oth hr hI hc]
    have e2 : flt I (c :: w) = img1 I c ++ flt I w := by simp [flt]
    rw [e1, e2, inv_app]
theorem img_inv {r : Nat} {I : List (List Nat)} {w : List Nat} (hr : r ≤ 4) (hI : ∀ w ∈ I, Wd r w) (h : Lts w) : img I (inv w) = inv (img I w) := by
  rw [img_flt hr hI, img_flt hr hI, flt_inv hr hI h, rd_inv (flt_lts hr hI w)]
theorem flt_rd {r : Nat} {I : List (List Nat)} (hr : r ≤ 4) (hI : ∀ w ∈ I, Wd r w) : ∀ {w : List Nat}, Lts w → rd (flt I (rd w)) = rd (flt I w)
  | [], _ => rfl
  | c :: w, h => by
    have hc := h c List.mem_cons_self
    have ih := flt_rd hr hI h.tail
    have e2 : flt I (c :: w) = img1 I c ++ flt I w := by simp [flt]
    have hl : Lts (img1 I c) := wd_lts hr (wd_img1 (c := c) hr hI).1
    rw [e2, rd_app, ← ih, ← rd_app]
    show rd (flt I (act c (rd w))) = _
    unfold act
    split
    · rename_i hh
      cases e : rd w with
      | nil => rw [e] at hh; cases hh
      | cons y t =>
        rw [e] at hh
        have hy : y = oth c := by simpa using hh
        subst hy
        have e3 : flt I (oth c :: t) = inv (img1 I c) ++ flt I t := by simp [flt, img1_oth hr hI hc]
        rw [e3, ← List.append_assoc, rd_inv_right hl]
        rfl
    · simp [flt]
theorem img_rd {r : Nat} {I : List (List Nat)} {w : List Nat} (hr : r ≤ 4) (hI : ∀ w ∈ I, Wd r w) (h : Lts w) : img I (rd w) = img I w := by
  rw [img_flt hr hI, img_flt hr hI, flt_rd hr hI h]
theorem img_app {r : Nat} {I : List (List Nat)} {u v : List Nat} (hr : r ≤ 4) (hI : ∀ w ∈ I, Wd r w) : img I (u ++ v) = rd (img I u ++ img I v) := by
  rw [img_flt hr hI, img_flt hr hI, img_flt hr hI, flt_app, rd_left (flt_lts hr hI u), rd_right]
/-- a power of a letter, of any sign -/
def pw (g : Nat) (n : Int) : List Nat := if 0 ≤ n then rep n.toNat [g] else rep (-n).toNat [oth g]
theorem rep_succ {α : Type} (n : Nat) (x : α) : rep (n + 1) [x] = x :: rep n [x] := by simp [rep]
theorem rep_snoc {α : Type} : ∀ (n : Nat) (x : α), rep (n + 1) [x] = rep n [x] ++ [x]
  | 0, x => by simp [rep]
  | n + 1, x => calc rep (n + 2) [x] = x :: rep (n + 1) [x] := rep_succ _ _
      _ = x :: (rep n [x] ++ [x]) := by rw [rep_snoc n x]
      _ = (x :: rep n [x]) ++ [x] := rfl
      _ = rep (n + 1) [x] ++ [x] := by rw [rep_succ]
theorem rep_red {g : Nat} (hg : g ∈ alph 4) : ∀ n, Red (rep n [g])
  | 0 => trivial
  | 1 => trivial
  | n + 2 => by
    rw [rep_succ, rep_succ]
    refine ⟨fun e => o_ne hg e.symm, ?_⟩
    have := rep_red hg (n + 1)
    rwa [rep_succ] at this
theorem pw_lts {g : Nat} (hg : g ∈ alph 4) (n : Int) : Lts (pw g n) := fun c hc => by
  unfold pw at hc
  split at hc
  · have := rep_mem hc; simp at this; rw [this]; exact hg
  · have := rep_mem hc; simp at this; rw [this]; exact om hg
theorem pw_red {g : Nat} (hg : g ∈ alph 4) (n : Int) : Red (pw g n) := by
  unfold pw
  split
  · exact rep_red hg _
  · exact rep_red (om hg) _
theorem pw_len (g : Nat) (n : Int) : (pw g n).length = n.natAbs := by
  unfold pw
  split
  · rw [rep_len]; simp; omega
  · rw [rep_len]; simp; omega
theorem act_pw {g : Nat} (hg : g ∈ alph 4) (n : Int) : act g (pw g n) = pw g (n + 1) ∧ act (oth g) (pw g n) = pw g (n - 1) := by
  constructor
  · by_cases h : 0 ≤ n
    · obtain ⟨m, rfl⟩ : ∃ m : Nat, n = m := ⟨n.toNat, by omega⟩
      have e1 : pw g (m : Int) = rep m [g] := by simp [pw]
      have e2 : pw g ((m : Int) + 1) = rep (m + 1) [g] := by
        have : (0 : Int) ≤ (m : Int) + 1 := by omega
        simp [pw, this]
      rw [e1, e2, rep_succ]
      unfold act
      cases m with
      | zero => simp [rep]
      | succ m => rw [if_neg]; rw [rep_succ]; simp; exact fun e => o_ne hg e.symm
    · obtain ⟨m, rfl⟩ : ∃ m : Nat, n = -((m : Int) + 1) := ⟨(-n).toNat - 1, by omega⟩
      have e1 : pw g (-((m : Int) + 1)) = oth g :: rep m [oth g] := by
        have : ¬ (0 : Int) ≤ -((m : Int) + 1) := by omega
        rw [pw, if_neg this, ← rep_succ]
        congr 1
      rw [e1]
      unfold act
      rw [if_pos (by rfl)]
      show rep m [oth g] = _
      cases m with
      | zero => simp [pw, rep]
      | succ m =>
        have : ¬ (0 : Int) ≤ -(((m + 1 : Nat) : Int) + 1) + 1 := by omega
        rw [pw, if_neg this]
        congr 1 <;> omega
  · by_cases h : 0 < n
    · obtain ⟨m, rfl⟩ : ∃ m : Nat, n = (m : Int) + 1 := ⟨n.toNat - 1, by omega⟩
      have e1 : pw g ((m : Int) + 1) = g :: rep m [g] := by
        have : (0 : Int) ≤ (m : Int) + 1 := by omega
        rw [pw, if_pos this, ← rep_succ]
        congr 1
      rw [e1]
      unfold act
      rw [if_pos (by rw [oo hg]; rfl)]
      show rep m [g] = _
      have : (0 : Int) ≤ (m : Int) + 1 - 1 := by omega
      rw [pw, if_pos this]
      congr 1 <;> omega
    · obtain ⟨m, rfl⟩ : ∃ m : Nat, n = -(m : Int) := ⟨(-n).toNat, by omega⟩
      have e1 : pw g (-(m : Int)) = rep m [oth g] := by
        cases m with
        | zero => simp [pw, rep]
        | succ m =>
          have : ¬ (0 : Int) ≤ -((m + 1 : Nat) : Int) := by omega
          rw [pw, if_neg this]
          congr 1
      have e2 : pw g (-(m : Int) - 1) = rep (m + 1) [oth g] := by
        have : ¬ (0 : Int) ≤ -(m : Int) - 1 := by omega
        rw [pw, if_neg this]
        congr 1 <;> omega
      rw [e1, e2, rep_succ]
      unfold act
      cases m with
      | zero => simp [rep]
      | succ m => rw [if_neg]; rw [rep_succ]; simp; exact fun e => o_ne (om hg) e.symm
theorem fold_rep {g : Nat} (hg : g ∈ alph 4) (n : Int) : ∀ m : Nat, (rep m [g]).foldr act (pw g n) = pw g (m + n) ∧ (rep m [oth g]).foldr act (pw g n) = pw g (n - m)
  | 0 => by simp [rep]
  | m + 1 => by
    obtain ⟨h1, h2⟩ := fold_rep hg n m
    constructor
    · rw [rep_succ, List.foldr_cons, h1, (act_pw hg _).1]
      congr 1 <;> omega
    · rw [rep_succ, List.foldr_cons, h2, (act_pw hg _).2]
      congr 1 <;> omega
theorem pw_mul {g : Nat} (hg : g ∈ alph 4) (m n : Int) : rd (pw g m ++ pw g n) = pw g (m + n) := by
  rw [rd_app, rd_id (pw_red hg n)]
  conv => lhs; arg 3; unfold pw
  split
  · rw [(fold_rep hg n _).1]
    congr 1 <;> omega
  · rw [(fold_rep hg n _).2]
    congr 1 <;> omega
theorem rep_inv {g : Nat} (hg : g ∈ alph 4) : ∀ n, inv (rep n [g]) = rep n [oth g]
  | 0 => rfl
  | n + 1 => by rw [rep_succ, inv_cons, rep_inv hg n, sw hg, ← rep_snoc]
theorem pw_nat {g n : Nat} : pw g (n : Int) = rep n [g] := by simp [pw]
theorem pw_neg {g n : Nat} : pw g (-(n : Int)) = rep n [oth g] := by
  cases n with
  | zero => simp [pw, rep]
  | succ n =>
    have : ¬ (0 : Int) ≤ -((n + 1 : Nat) : Int) := by omega
    rw [pw, if_neg this]
    congr 1
/-- where every image is a power of g, so is the image of a text -/
theorem img_pw {r g : Nat} {I : List (List Nat)} {f : Nat → Int} (hr : r ≤ 4) (hg : g ∈ alph 4) (hI : ∀ w ∈ I, Wd r w) : ∀ {w : List Nat}, (∀ c ∈ w, img1 I c = pw g (f c)) → img I w = pw g ((w.map f).sum)
  | [], _ => by simp [img, pw, rep]
  | c :: w, h => by
    have ih := img_pw (w := w) hr hg hI fun x hx => h x (List.mem_cons_of_mem _ hx)
    have e : c :: w = [c] ++ w := rfl
    rw [e, img_app hr hI, ih]
    have e1 : img I [c] = pw g (f c) := by
      rw [img_flt hr hI]
      simp only [flt, List.flatMap_cons, List.flatMap_nil, List.append_nil]
      rw [h c List.mem_cons_self, rd_id (pw_red hg _)]
    rw [e1, pw_mul hg]
    simp
end RC

set_option Elab.async false
set_option linter.all false
set_option autoImplicit false
set_option maxRecDepth 100000
set_option maxHeartbeats 2000000
/-! k10: functions -/
namespace RC
open RCs
/-- what _law_image_told tells -/
def told1 (w : List Nat) : D := if w.length ≤ 100 then .str w else .lst [.int 100]
/-- the law's own image -/
theorem mapped_ok {k r m : Nat} {I : List (List Nat)} {w : List Nat} {M : Store} (hk : 3 ≤ k) (hr : r ≤ 4) (hI : I.length = r) (hw : ∀ u ∈ I, Wd r u ∧ u.length ≤ m) (hwr : ∀ c ∈ w, c ∈ alph r) (hl : w.length * m ≤ 10000) (hm2 : m ≤ 1000) :
    callF P k 78 [.tup (I.map .str), .str w] M = .ok (.str (img I w)) M := by
  rw [C78 (by omega)]
  obtain ⟨⟨s, hf⟩, -⟩ := for_fold (c := P.cfg (k - 1)) (tg := .n 3) (body := F78_0) (M := M) (f := fun c => D.str [c]) (E := fun (b : List Nat) (s : Option Sl × Option Sl) => [some (.v (.tup (I.map .str))), some (.v (.str w)), some (.v (.str b)), s.1, s.2]) (step := fun f c => jn f (img1 I c)) w (fun i b => Wd r b ∧ b.length ≤ i * m)
    (fun i c b s hx hb => by
      have hc := hwr c (List.mem_of_getElem? hx)
      have hi : i < w.length := (List.getElem?_eq_some_iff.mp hx).1
      obtain ⟨hix, hbs⟩ := base_ix hr hc
      obtain ⟨u, hu⟩ : ∃ u, I[ix c]? = some u := ⟨_, List.getElem?_eq_getElem (by omega)⟩
      have hat : atF (I.map D.str) ((ix c : Nat) : Int) = some (.str u) := by rw [atF_nat, List.getElem?_map, hu]; rfl
      have hum := hw u (List.mem_of_getElem? hu)
      have h1 := wd_img1 (c := c) hr fun u hu => (hw u hu).1
      have l1 := len_img1 (c := c) fun u hu => (hw u hu).2
      have hmul : (i + 1) * m ≤ w.length * m := Nat.mul_le_mul_right _ (by omega)
      have hmul2 : (i + 1) * m = i * m + m := by rw [Nat.add_mul, Nat.one_mul]
      have hbl := hb.2
      have hL : Lts (b ++ img1 I c) := Lts.app (wd_lts hr hb.1.1) (wd_lts hr h1.1)
      have hs := short_ok (k := k - 1) (w := b ++ img1 I c) (M := M) (by omega) hL (by simp; omega)
      rw [← jn_rd hr hb.1 h1] at hs
      have ha := alph_ascii hc
      have hz : b.length + (img1 I c).length ≤ 16777216 := by omega
      refine ⟨⟨(some (.v (.str [c])), some (.v (.str u))), ?_⟩, jn_red hr hb.1 h1, by have := jn_len b (img1 I c); omega⟩
      rcases hbs with ⟨h3, h4, h5⟩ | ⟨h3, h4, h5⟩
      · have e1 : img1 I c = u := by simp [img1, h3, List.getD_eq_getElem?_getD, hu]
        rw [e1] at hs hz
        simp only [List.mem_cons, List.not_mem_nil, or_false] at h4
        simp [forBody, F78_0, mtF, ascii, ha, lo_ix hr hc, hat, h4, hz, hs, e1]
      · have e1 : img1 I c = inv u := by simp [img1, h3, List.getD_eq_getElem?_getD, hu]
        rw [e1] at hs hz
        simp only [List.mem_cons, List.not_mem_nil, or_false] at h4
        simp [forBody, F78_0, mtF, ascii, ha, lo_ix hr hc, hat, h4, lback_ok (show 2 ≤ k - 1 by omega) (wd_lts hr hum.1.1) (show u.length ≤ 1000000 by omega), hz, hs, e1]) [] (none, none) ⟨wd_nil r, by simp⟩
  simp [b78, ex_for, hf, img]
end RC

set_option Elab.async false
set_option linter.all false
set_option autoImplicit false
set_option maxRecDepth 100000
set_option maxHeartbeats 2000000
namespace RC
open RCs
/-! ### what is no text is no ring -/
theorem is_text_odd {k r : Nat} {d : D} {M : Store} (hk : 1 ≤ k) (h : isiF P.isa d .str = some false) : callF P k 4 [.int r, d] M = .ok (.bl false) M := by
  rw [C4 hk]
  simp [b4, h]
theorem is_word_odd {k r : Nat} {d : D} {M : Store} (hk : 2 ≤ k) (h : isiF P.isa d .str = some false) : callF P k 5 [.int r, d] M = .ok (.bl false) M := by
  rw [C5 (by omega)]
  simp [b5, is_text_odd (show 1 ≤ k - 1 by omega) h]
theorem is_ring_of_odd {k r : Nat} {d : D} {M : Store} (hk : 3 ≤ k) (h : isiF P.isa d .str = some false) : callF P k 45 [.int r, d] M = .ok (.bl false) M := by
  rw [C45 (by omega)]
  simp [b45, is_word_odd (show 2 ≤ k - 1 by omega) h]
/-- a thing that the law shows to is_ring -/
def Thing (d : D) : Prop := (∃ w, d = .str w ∧ w.length ≤ 1000 ∧ ∀ c ∈ w, c < 128) ∨ (isiF P.isa d .str = some false ∧ ∃ s, rpD d = some s)
theorem thing_rp {d : D} (h : Thing d) : ∃ s, rpD d = some s := by
  rcases h with ⟨w, rfl, hl, ha⟩ | ⟨_, h⟩
  · exact rp_some (pl_str fun c hc => by have := ha c hc; omega) (by simp) (by simp; omega)
  · exact h
theorem rp_bl (b : Bool) : ∃ s, rpD (.bl b) = some s := rp_some (by simp) (by simp) (by simp)
end RC

set_option Elab.async false
set_option linter.all false
set_option autoImplicit false
set_option maxRecDepth 100000
set_option maxHeartbeats 4000000
/-! k03: what is no word; a def's parameter called -/
namespace RC
open RCs
theorem red_no {a b : List Nat} {c d : Nat} (h : d = oth c) : ¬ Red (a ++ c :: d :: b) := fun q => by
  have q1 := red_drop a.length q
  rw [List.drop_left] at q1
  have q2 := red_take 2 q1
  simp [Red] at q2
  exact q2 h
theorem isW_no {r : Nat} {w : List Nat} (hr : r ≤ 4) (h : ¬ (Wd r w ∧ w.length ≤ 100)) : isW r w = false := by
  cases q : isW r w with
  | false => rfl
  | true => exact absurd ((isW_iff hr).mp q) h
def NotW (r : Nat) (d : D) : Prop := isiF P.isa d .str = some false ∨ ∃ w, d = .str w ∧ w.length ≤ 1000 ∧ isW r w = false
theorem is_word_no {k r : Nat} {d : D} {M : Store} (hk : 3 ≤ k) (hr : r ≤ 4) (h : NotW r d) : callF P k 5 [.int r, d] M = .ok (.bl false) M := by
  rcases h with h | ⟨w, rfl, hl, h⟩
  · exact is_word_odd (by omega) h
  · rw [is_word_ok hk hr (by omega), h]
theorem notw_at {v : Int} {r : Nat} {w z x1 x2 x3 x4 : List Nat} (h0 : 0 ≤ v) (h1 : v < 19) (hr : r ≤ 4) (hz : NotW r (.str z)) (h3 : NotW r (.str x1)) (h4 : NotW r (.str x2)) (h5 : NotW r (.str x3)) (h6 : NotW r (.str x4)) :
    ∃ d, atF [D.non, .bl true, .int 0, .tup [], .lst [], .tup [.str w], .lst (w.map fun c => .str [c]), .clo 0 [], .int 1000000000000000000000000000000, .str [97, 65], .str [101], .str [49], .str [32], .str [97, 32, 98], .str z, .str x1, .str x2, .str x3, .str x4] v = some d ∧ NotW r d := by
  have no1 : ∀ (u : List Nat) (c : Nat), c ∈ u → c ∉ alph 4 → u.length ≤ 1000 → NotW r (.str u) := fun u c h1 h2 h3 => .inr ⟨u, rfl, h3, isW_no hr fun q => h2 (alph_sub hr (q.1.1 c h1))⟩
  have : v = 0 ∨ v = 1 ∨ v = 2 ∨ v = 3 ∨ v = 4 ∨ v = 5 ∨ v = 6 ∨ v = 7 ∨ v = 8 ∨ v = 9 ∨ v = 10 ∨ v = 11 ∨ v = 12 ∨ v = 13 ∨ v = 14 ∨ v = 15 ∨ v = 16 ∨ v = 17 ∨ v = 18 := by omega
  rcases this with rfl | rfl | rfl | rfl | rfl | rfl | rfl | rfl | rfl | rfl | rfl | rfl | rfl | rfl | rfl | rfl | rfl | rfl | rfl
  · exact ⟨_, by simp [atF, ixN] <;> rfl, .inl rfl⟩
  · exact ⟨_, by simp [atF, ixN] <;> rfl, .inl rfl⟩
  · exact ⟨_, by simp [atF, ixN] <;> rfl, .inl rfl⟩
  · exact ⟨_, by simp [atF, ixN] <;> rfl, .inl rfl⟩
  · exact ⟨_, by simp [atF, ixN] <;> rfl, .inl rfl⟩
  · exact ⟨_, by simp [atF, ixN] <;> rfl, .inl rfl⟩
  · exact ⟨_, by simp [atF, ixN] <;> rfl, .inl rfl⟩
  · exact ⟨_, by simp [atF, ixN] <;> rfl, .inl rfl⟩
  · exact ⟨_, by simp [atF, ixN] <;> rfl, .inl rfl⟩
  · exact ⟨_, by simp [atF, ixN] <;> rfl, .inr ⟨_, rfl, by simp, isW_no hr fun q => red_no (a := []) (b := []) (c := 97) (d := 65) rfl q.1.2⟩⟩
  · exact ⟨_, by simp [atF, ixN] <;> rfl, no1 _ 101 (by simp) (by decide) (by simp)⟩
  · exact ⟨_, by simp [atF, ixN] <;> rfl, no1 _ 49 (by simp) (by decide) (by simp)⟩
  · exact ⟨_, by simp [atF, ixN] <;> rfl, no1 _ 32 (by simp) (by decide) (by simp)⟩
  · exact ⟨_, by simp [atF, ixN] <;> rfl, no1 _ 32 (by simp) (by decide) (by simp)⟩
  · exact ⟨_, by simp [atF, ixN] <;> rfl, hz⟩
  · exact ⟨_, by simp [atF, ixN] <;> rfl, h3⟩
  · exact ⟨_, by simp [atF, ixN] <;> rfl, h4⟩
  · exact ⟨_, by simp [atF, ixN] <;> rfl, h5⟩
  · exact ⟨_, by simp [atF, ixN] <;> rfl, h6⟩
end RC

set_option Elab.async false
set_option linter.all false
set_option autoImplicit false
set_option maxRecDepth 100000
set_option maxHeartbeats 4000000
/-! k03 -/
namespace RC
open RCs
end RC

set_option Elab.async false
set_option linter.all false
set_option autoImplicit false
set_option maxRecDepth 100000
set_option maxHeartbeats 4000000
/-! k05: functions -/
namespace RC
open RCs
theorem wd_take {r n : Nat} {w : List Nat} (h : Wd r w) : Wd r (w.take n) := ⟨fun c hc => h.1 c (List.mem_of_mem_take hc), red_take n h.2⟩
theorem take_sl {w : List Nat} {j : Nat} (h : w.length ≤ 16777216) : slcF (.str w) none (some (j : Int)) = some (.str (w.take j)) := by
  rw [sl_str h]; exact congrArg (fun x => some (D.str x)) slc_to
end RC

set_option Elab.async false
set_option linter.all false
set_option autoImplicit false
set_option maxRecDepth 100000
set_option maxHeartbeats 4000000
/-! the source, by what holds behind it -/
namespace RC
open RCs
/-- the source at p, drawn from at most n times -/
def St (p n : Nat) (M : Store) : Prop := ∃ ns, M[p]? = some ns ∧ Sr n ns
theorem St.mono {p n m : Nat} {M : Store} (h : St p n M) (hm : n ≤ m) : St p m M := by
  obtain ⟨ns, h1, h2⟩ := h
  exact ⟨ns, h1, h2.mono hm⟩
theorem St.set {p n m : Nat} {M : Store} {ns : List Int} (h : St p n M) (hs : Sr m ns) : St p m (M.set p ns) := by
  obtain ⟨x, h1, _⟩ := h
  exact ⟨ns, List.getElem?_set_self (List.getElem?_eq_some_iff.mp h1).1, hs⟩
theorem next_wp {k n p : Nat} {m : Int} {M : Store} {Φ : Res D → Prop} (hk : 1 ≤ k) (h : St p n M) (hn : n < 1000000) (m0 : 0 < m) (m1 : m < 1000000) (hc : ∀ (v : Nat) M', (v : Int) < m → St p (n + 1) M' → Φ (.ok (.int (v : Int)) M')) : wp (callF P k 26 [.ref p, .int m] M) Φ := by
  have h' := h
  obtain ⟨ns, hp, hs⟩ := h
  obtain ⟨v, ns', e, v0, v1, hs'⟩ := next_ok hk hp hs hn m0 m1
  obtain ⟨j, rfl⟩ : ∃ j : Nat, v = (j : Int) := ⟨v.toNat, by omega⟩
  rw [e]
  exact hc j _ v1 (h'.set hs')
theorem source_wp {k : Nat} {ns : List Int} {j : Nat} {M : Store} {Φ : Res D → Prop} (hk : 1 ≤ k) (hj : j < 1000000) (hc : ∀ p M', St p (3 * j) M' → Φ (.ok (.ref p) M')) : wp (callF P k 25 [.lst (ns.map .int), .int (j : Int)] M) Φ := by
  obtain ⟨s, e, hs⟩ := source_ok (k := k) (ns := ns) (j := (j : Int)) (M := M) hk (by omega) (by omega)
  rw [e]
  refine hc _ _ ⟨s, by simp, by simpa using hs⟩
theorem text_wp {k n p r : Nat} {s : Int} {M : Store} {Φ : Res D → Prop} (hk : 2 ≤ k) (h : St p n M) (hn : n + s.toNat < 1000000) (h2 : 2 ≤ r) (h4 : r ≤ 4) (hs0 : 0 ≤ s) (hs2 : s ≤ 1000) (hc : ∀ w M', Wd r w → (w.length : Int) = s → St p (n + s.toNat) M' → Φ (.ok (.str w) M')) : wp (callF P k 29 [.ref p, .int r, .int s] M) Φ := by
  have h' := h
  obtain ⟨ns, hp, hs⟩ := h
  obtain ⟨s, rfl⟩ : ∃ j : Nat, s = (j : Int) := ⟨s.toNat, by omega⟩
  obtain ⟨w, ns', e, hw, hl, hs'⟩ := text_ok (k := k) (s := s) hk hp hs (by omega) h2 h4 (by omega)
  rw [e]
  exact hc w _ hw (by omega) (h'.set (by simpa using hs'))
/-- the bounds of a range -/
theorem rng_if {j : Int} {a b : Res (List D)} (h : -1000000 ≤ j) (h' : j ≤ 1000000) : (if -1000000 ≤ j ∧ j ≤ 1000000 then a else b) = a := if_pos ⟨h, h'⟩
theorem rng_if2 {j : Int} {a b : Res (List D)} (h' : j ≤ 1000000) : (if j ≤ 1000000 then a else b) = a := if_pos h'
theorem wp_atS {s : List Nat} {v : Nat} {M : Store} {Φ : Res D → Prop} (hl : s.length ≤ 16777216) (hv : v < s.length) (h : ∀ c, c ∈ s → s[v]? = some c → Φ (.ok (.str [c]) M)) : wp (Res.of M (subF2 (.str s) (.int (v : Int)))) Φ := by
  rw [su_str hl, atF_nat, List.getElem?_eq_getElem hv]
  exact h _ (List.getElem_mem hv) (List.getElem?_eq_getElem hv)
theorem wp_atL {s : List D} {v : Nat} {M : Store} {Φ : Res D → Prop} (hv : v < s.length) (h : ∀ c, c ∈ s → s[v]? = some c → Φ (.ok c M)) : wp (Res.of M (atF s (v : Int))) Φ := by
  rw [atF_nat, List.getElem?_eq_getElem hv]
  exact h _ (List.getElem_mem hv) (List.getElem?_eq_getElem hv)
theorem alph_full {r : Nat} (hr : r ≤ 4) : (alph r).length = 2 * r := by unfold alph; simp [List.length_take]; omega
theorem max_min {n : Nat} (m : Nat) (hm : m ≤ 100) : ∃ j : Nat, (if (if (n : Int) < m then (n : Int) else m) > 1 then (if (n : Int) < m then (n : Int) else m) else 1) = (j : Int) ∧ j ≤ m + 1 := by
  by_cases h1 : (n : Int) < m
  · by_cases h2 : (n : Int) > 1
    · exact ⟨n, by rw [if_pos h1, if_pos h2], by omega⟩
    · exact ⟨1, by rw [if_pos h1, if_neg h2]; rfl, by omega⟩
  · rw [if_neg h1]
    by_cases h2 : (m : Int) > 1
    · exact ⟨m, by rw [if_pos h2], by omega⟩
    · exact ⟨1, by rw [if_neg h2]; rfl, by omega⟩
theorem rng_cells {c : Cfg} {ρ : Env} {M : Store} {m : Int} {ns : List Int} (h0 : 0 ≤ m) (hm : m ≤ 100) (h : getV ρ 0 = some (.lst (ns.map .int))) :
    ∃ n : Nat, n ≤ m.toNat + 1 ∧ evi c (.rng (.bi .max2 (.cons (.cst (.int 1)) (.cons (.bi .min2 (.cons (.cst (.int m)) (.cons (.bi .len (.cons (.var 0) .nil)) .nil))) .nil)))) ρ M = .ok (rngD 0 n) M := by
  obtain ⟨m, rfl⟩ : ∃ j : Nat, m = (j : Int) := ⟨m.toNat, by omega⟩
  obtain ⟨n, e, hn⟩ := max_min (n := ns.length) m (by omega)
  refine ⟨n, by simpa using hn, ?_⟩
  have hb : -1000000 ≤ (n : Int) ∧ (n : Int) ≤ 1000000 := by omega
  simp only [si_rng, s_bi, ss_cons, ss_nil, s_cst, s_var, h, Res.of_some, Res.bind_ok, RCs.bi_len, len_lst, List.length_map, RCs.bi_min2, RCs.bi_max2, e]
  rw [if_pos hb]; rfl
end RC

set_option Elab.async false
set_option linter.all false
set_option autoImplicit false
set_option maxRecDepth 100000
set_option maxHeartbeats 2000000
namespace RC
open RCs
/-! ### exponents: a word's value where every table is (1 x; 0 1) -/
def uni (x : Int) : Mat := ⟨1, x, 0, 1⟩
theorem uni_det (x : Int) : (uni x).det = 1 := by simp [uni, Mat.det]
theorem uni_mul (x y : Int) : (uni x).mul (uni y) = uni (x + y) := by
  apply Mat.ext' <;> simp [Mat.mul, uni]
  omega
theorem uni_inv (x : Int) : (uni x).inv = uni (0 - x) := by
  apply Mat.ext' <;> simp [Mat.inv, uni]
theorem uni_inj {x y : Int} (h : uni x = uni y) : x = y := by
  have := congrArg Mat.q h
  exact this
def sgx (a : List Int) (c : Nat) : Int := if isLow c then a.getD (ix c) 0 else 0 - a.getD (ix c) 0
/-- the sum of a word's letters, letter j weighing a_j -/
def xe (a : List Int) : List Nat → Int
  | [] => 0
  | c :: w => sgx a c + xe a w
theorem tbl_uni (a : List Int) (c : Nat) : tbl (a.map uni) c = uni (sgx a c) := by
  have h : (a.map uni).getD (ix c) Mat.one = uni (a.getD (ix c) 0) := by
    rw [List.getD_eq_getElem?_getD, List.getD_eq_getElem?_getD, List.getElem?_map]
    cases a[ix c]? <;> rfl
  unfold tbl sgx
  rw [h]
  cases isLow c
  · simp [uni_inv]
  · simp
theorem val_uni (a : List Int) : ∀ w : List Nat, val (a.map uni) w = uni (xe a w)
  | [] => rfl
  | c :: w => by rw [val_cons, val_uni a w, tbl_uni, uni_mul]; rfl
theorem all_uni (a : List Int) : ∀ m ∈ a.map uni, Mat.det m = 1 := fun m hm => by
  obtain ⟨x, _, rfl⟩ := List.mem_map.mp hm
  exact uni_det x
theorem xe_app (a : List Int) (u v : List Nat) : xe a (u ++ v) = xe a u + xe a v := by
  apply uni_inj
  rw [← val_uni, val_app, val_uni, val_uni, uni_mul]
theorem xe_rd {a : List Int} {w : List Nat} (h : Lts w) : xe a (rd w) = xe a w := by
  apply uni_inj
  rw [← val_uni, ← val_uni, val_rd (all_uni a) h]
theorem xe_inv {a : List Int} {w : List Nat} (h : Lts w) : xe a (inv w) = 0 - xe a w := by
  apply uni_inj
  rw [← val_uni, val_inv' (all_uni a) h, val_uni, uni_inv]
theorem xe_img {r : Nat} {a : List Int} {I : List (List Nat)} {w : List Nat} (hr : r ≤ 4) (hI : ∀ w ∈ I, Wd r w) (hIr : I.length = r) (hw : ∀ c ∈ w, c ∈ alph r) : xe a (img I w) = xe (I.map (xe a)) w := by
  apply uni_inj
  rw [← val_uni, val_img0 hr (all_uni a) hI hIr hw]
  have e : I.map (val (a.map uni)) = (I.map (xe a)).map uni := by
    rw [List.map_map]
    exact List.map_congr_left fun u _ => val_uni a u
  rw [e, val_uni]
theorem xe_rot {a : List Int} {w : List Nat} {k : Nat} : xe a (rot w k) = xe a w := by
  have h : xe a (w.take k ++ w.drop k) = xe a w := by rw [List.take_append_drop]
  rw [rot, xe_app, ← h, xe_app, Int.add_comm]
theorem xe_round {a : List Int} {w : List Nat} (hw : Lts w) : xe a (lrot (cyc (rd w))) = xe a w := by
  obtain ⟨k, _, e⟩ := lrot_rot (w := cyc (rd w))
  obtain ⟨u, hu, e2⟩ := cyc_conj hw.rd
  rw [e, xe_rot, ← xe_rd (a := a) hw]
  conv => rhs; rw [e2]
  rw [xe_app, xe_app, xe_inv hu]
  omega
/-- the weights of one letter -/
def un (j : Nat) : List Int := (List.range 4).map fun i => if i = j then 1 else 0
/-- the exponent of letter j -/
def ej (j : Nat) (w : List Nat) : Int := xe (un j) w
theorem ix_lt {c : Nat} (h : c ∈ alph 4) : ix c < 4 := (base_ix (Nat.le_refl 4) h).1
theorem un_get {i j : Nat} (h : i < 4) : (un j).getD i 0 = if i = j then 1 else 0 := by
  have : i = 0 ∨ i = 1 ∨ i = 2 ∨ i = 3 := by omega
  rcases this with rfl | rfl | rfl | rfl <;> rfl
theorem sgx_un {j c : Nat} (h : c ∈ alph 4) : sgx (un j) c = if ix c = j then (if isLow c then 1 else -1) else 0 := by
  unfold sgx
  rw [un_get (ix_lt h)]
  by_cases e : ix c = j <;> cases isLow c <;> simp [e]
def dot (a : List Int) (w : List Nat) : Int := ej 0 w * a.getD 0 0 + ej 1 w * a.getD 1 0 + ej 2 w * a.getD 2 0 + ej 3 w * a.getD 3 0
theorem sgx_lin {a : List Int} {c : Nat} (h : c ∈ alph 4) : sgx a c = sgx (un 0) c * a.getD 0 0 + sgx (un 1) c * a.getD 1 0 + sgx (un 2) c * a.getD 2 0 + sgx (un 3) c * a.getD 3 0 := by
  rw [sgx_un h, sgx_un h, sgx_un h, sgx_un h]
  have := ix_lt h
  have : ix c = 0 ∨ ix c = 1 ∨ ix c = 2 ∨ ix c = 3 := by omega
  unfold sgx
  rcases this with e | e | e | e <;> rw [e] <;> cases isLow c <;> simp
theorem xe_lin {a : List Int} : ∀ {w : List Nat}, Lts w → xe a w = dot a w
  | [], _ => by simp [xe, dot, ej]
  | c :: w, h => by
    have ih := xe_lin (a := a) (w := w) fun d hd => h d (.tail _ hd)
    have hc := sgx_lin (a := a) (h c (.head _))
    have e : ∀ j, ej j (c :: w) = sgx (un j) c + ej j w := fun _ => rfl
    unfold dot at ih ⊢
    rw [e, e, e, e, show xe a (c :: w) = sgx a c + xe a w from rfl, ih, hc]
    simp only [Int.add_mul]
    omega
theorem ej_cnt {j : Nat} (hj : j < 4) : ∀ {w : List Nat}, Lts w → (countC (97 + j) w : Int) - (countC (65 + j) w : Int) = ej j w
  | [], _ => rfl
  | c :: w, h => by
    have ih := ej_cnt hj (w := w) fun d hd => h d (.tail _ hd)
    have hc := h c (.head _)
    have e : ej j (c :: w) = sgx (un j) c + ej j w := rfl
    rw [e, sgx_un hc, ← ih, countC, countC]
    have hj' : j = 0 ∨ j = 1 ∨ j = 2 ∨ j = 3 := by omega
    rcases alph_cases (Nat.le_refl 4) hc with rfl | rfl | rfl | rfl | rfl | rfl | rfl | rfl <;> rcases hj' with rfl | rfl | rfl | rfl <;> simp [ix, loC, isUp, isLow] <;> omega
theorem ej_len {j : Nat} : ∀ {w : List Nat}, Lts w → (ej j w).natAbs ≤ w.length
  | [], _ => by simp [ej, xe]
  | c :: w, h => by
    have ih := ej_len (j := j) (w := w) fun d hd => h d (.tail _ hd)
    have e : ej j (c :: w) = sgx (un j) c + ej j w := rfl
    rw [e, sgx_un (h c (.head _)), List.length_cons]
    split <;> (try split) <;> omega
/-- a word's exponents -/
def er (r : Nat) (w : List Nat) : List Int := (List.range r).map fun j => ej j w
def erD (r : Nat) (w : List Nat) : List D := (List.range r).map fun j => .int (ej j w)
theorem erD_len {r : Nat} {w : List Nat} : (erD r w).length = r := by simp [erD]
theorem er_put {r c : Nat} {p : List Nat} (hr : r ≤ 4) (hc : c ∈ alph r) : (erD r p).set (ix c) (.int (ej (ix c) p + if isLow c then 1 else -1)) = erD r (p ++ [c]) := by
  have hc4 := alph_sub hr hc
  apply List.ext_getElem
  · simp [erD]
  · intro j h1 h2
    have e : ej j (p ++ [c]) = ej j p + sgx (un j) c := by
      show xe _ _ = _
      rw [xe_app]; show _ + (sgx _ _ + 0) = _; rw [Int.add_zero]; rfl
    rw [List.getElem_set]
    simp only [erD, List.getElem_map, List.getElem_range, e, sgx_un hc4]
    by_cases z : ix c = j
    · subst z; simp
    · simp [z]
theorem er_get {r j : Nat} {p : List Nat} (h : j < r) : (erD r p)[j]? = some (.int (ej j p)) := by
  simp [erD, h]
end RC

set_option Elab.async false
set_option linter.all false
set_option autoImplicit false
set_option maxRecDepth 100000
set_option maxHeartbeats 2000000
namespace RC
open RCs
/-! ### k53: the functions -/
theorem base_rng {r : Nat} (hr : 2 ≤ r) (hr4 : r ≤ 4) : (slcL [97, 98, 99, 100] none (some (r : Int))).map (fun c : Nat => D.str [c]) = (List.range r).map fun j => D.str [97 + j] := by
  rw [slc_to]
  have : r = 2 ∨ r = 3 ∨ r = 4 := by omega
  rcases this with rfl | rfl | rfl <;> rfl
theorem lo_ix4 {c : Nat} (h : c ∈ alph 4) : findC (loC c) [97, 98, 99, 100] 0 = some (ix c) ∧ decide (c ∈ [97, 98, 99, 100]) = isLow c := by
  rcases alph_cases (Nat.le_refl 4) h with rfl | rfl | rfl | rfl | rfl | rfl | rfl | rfl <;> decide
theorem ixN_nat {n i : Nat} (h : i < n) : ixN n (i : Int) = some i := by
  unfold ixN
  rw [if_pos (by omega), if_pos (by omega), Int.toNat_natCast]
theorem snocs : ∀ (w p : List Nat), w.foldl (fun p c => p ++ [c]) p = p ++ w
  | [], p => by simp
  | c :: w, p => by rw [List.foldl_cons, snocs w]; simp
theorem zeros {r : Nat} (h4 : r ≤ 4) : rep r [D.int 0] = erD r [] := by
  have : r = 0 ∨ r = 1 ∨ r = 2 ∨ r = 3 ∨ r = 4 := by omega
  rcases this with rfl | rfl | rfl | rfl | rfl <;> rfl
theorem mul_lst {s : List D} {j : Int} (h0 : 0 ≤ j) (h1 : j < 100000) (h2 : s.length * j.toNat ≤ 16777216) : mulF (.lst s) (.int j) = some (.lst (rep j.toNat s)) := if_pos ⟨h0, h1, h2⟩
end RC

set_option Elab.async false
set_option linter.all false
set_option autoImplicit false
set_option maxRecDepth 100000
set_option maxHeartbeats 4000000
/-! determinants -/
namespace RC
open RCs
def cutAt (j : Nat) (row : List Int) : List Int := row.take j ++ row.drop (j + 1)
def altSum (f : Nat → Int) : Nat → List Int → Int
  | _, [] => 0
  | j, e :: es => (if j % 2 = 0 then e else 0 - e) * f j + altSum f (j + 1) es
def detF : Nat → List (List Int) → Int
  | 0, _ => 1
  | _ + 1, [] => 1
  | n + 1, r0 :: rs => altSum (fun j => detF n (rs.map (cutAt j))) 0 r0
def rowI (row : List Int) : D := .tup (row.map .int)
def rowsI (R : List (List Int)) : D := .tup (R.map rowI)
theorem pl_rowI {n : Nat} {row : List Int} : plain (n + 1) (rowI row) = true := by
  unfold rowI
  rw [pl_tup]; exact pl_map fun _ _ => pl_int
end RC

set_option Elab.async false
set_option linter.all false
set_option autoImplicit false
set_option maxRecDepth 100000
set_option maxHeartbeats 4000000
/-! moves in the program -/
namespace RC
open RCs
/-- a move -/
def mvD (s : Nat) (side : List Nat) : D := .tup [.str [109, 111, 118, 101], .str [s], .str side]
/-- a side that holds s and not its inverse -/
structure Side (r s : Nat) (side : List Nat) : Prop where
  ord : side = (alph r).filter fun c => decide (c ∈ side)
  mem : s ∈ alph r
  has : s ∈ side
  hasnt : oth s ∉ side
theorem Side.sub {r s : Nat} {side : List Nat} (h : Side r s side) : ∀ c ∈ side, c ∈ alph r := fun c hc => by
  have := h.ord
  rw [this] at hc
  exact (List.mem_filter.mp hc).1
theorem Side.len {r s : Nat} {side : List Nat} (h : Side r s side) : side.length ≤ 8 := by
  rw [h.ord]
  exact Nat.le_trans (List.length_filter_le _ _) (alph_len r)
theorem side_of {r s : Nat} {p : Nat → Bool} (hs : s ∈ alph r) (ps : p s = true) (po : p (oth s) = false) : Side r s ((alph r).filter p) := by
  refine ⟨?_, hs, List.mem_filter.mpr ⟨hs, ps⟩, fun h => ?_⟩
  · refine (List.filter_congr fun c hc => ?_).symm
    by_cases q : p c = true
    · simp [List.mem_filter, hc, q]
    · have q' : p c = false := by simpa using q
      simp [List.mem_filter, q']
  · rw [(List.mem_filter.mp h).2] at po; cases po
def inS (side : List Nat) (c : Nat) : Bool := decide (c ∈ side)
theorem in_order_ok {k r : Nat} {side : List Nat} {M : Store} (hk : 2 ≤ k) (hr : r ≤ 4) (hl : side.length ≤ 1000) : callF P k 118 [.int r, .str side] M = .ok (.str ((alph r).filter fun c => decide (c ∈ side))) M := by
  have e1 : ev (P.cfg (k - 1)) L118_0 [some (.v (.int r)), some (.v (.str side)), none] M = .ok (.lst (((alph r).filter fun c => decide (c ∈ side)).map fun c => .str [c])) M :=
    ev_lcif (xs := alph r) (fun c => D.str [c]) (fun c => D.str [c]) (fun c => decide (c ∈ side)) (by simp [letters_ok (show 1 ≤ k - 1 by omega) hr]) (by have := alph_len r; omega) fun c hc => ⟨[some (.v (.int r)), some (.v (.str side)), some (.v (.str [c]))], by simp, by simp, fun _ => by simp⟩
  have hlen : ((alph r).filter fun c => decide (c ∈ side)).length ≤ 16777216 := by
    have := List.length_filter_le (fun c => decide (c ∈ side)) (alph r)
    have := alph_len r
    omega
  rw [C118 (by omega)]
  simp [b118, e1, join_ok hlen]
theorem is_move_ok {k r s : Nat} {side : List Nat} {M : Store} (hk : 3 ≤ k) (hr : r ≤ 4) (h : Side r s side) : callF P k 119 [.int r, mvD s side] M = .ok (.bl true) M := by
  have hl := h.len
  have hs4 := alph_sub hr h.mem
  have sa := alph_ascii hs4
  have t1 : slcL [D.str [109, 111, 118, 101], .str [s], .str side] (some (1 : Int)) none = [.str [s], .str side] := slc_from (i := 1)
  have i1 : isiF P.isa (.str [s]) .str = some true := rfl
  have i2 : isiF P.isa (.str side) .str = some true := rfl
  have e1 := in_order_ok (k := k - 1) (r := r) (side := side) (M := M) (by omega) hr (by omega)
  rw [← h.ord] at e1
  have e2 := inverse_ok (k := k - 1) (w := [s]) (M := M) (by omega) (by simpa using sa) (by simp)
  have e3 : inv [s] = [oth s] := by rw [inv_one, sw hs4]
  rw [e3] at e2
  rw [C119 (by omega)]
  simp [b119, mvD, t1, i1, i2, RCs.bi_len, letters_ok (show 1 ≤ k - 1 by omega) hr, h.mem, e1, e2, h.has, h.hasnt]
theorem is_step_move {k r s : Nat} {side : List Nat} {M : Store} (hk : 4 ≤ k) (hr : r ≤ 4) (h : Side r s side) : callF P k 121 [.int r, mvD s side] M = .ok (.bl true) M := by
  have i0 : isiF P.isa (.tup [.str [109, 111, 118, 101], .str [s], .str side]) .tuple = some true := rfl
  have i1 : isiF P.isa (.str [109, 111, 118, 101]) .str = some true := rfl
  have hsa := alph_ascii (alph_sub hr h.mem)
  have pl : plain 39 (.str [109, 111, 118, 101]) = true := by decide
  have pl2 : plain 39 (.str [s]) = true := pl_str (by simp; omega)
  have pl3 : plain 39 (.str side) = true := pl_str fun c hc => by have := alph_ascii (h.sub c hc); omega
  have e := is_move_ok (k := k - 1) (M := M) (by omega) hr h
  unfold mvD at e
  rw [C121 (by omega)]
  simp [b121, mvD, i0, i1, pl, pl2, pl3, atF, ixN, RCs.bi_len, e]
theorem need_step_move {k r s : Nat} {side : List Nat} {M : Store} (hk : 5 ≤ k) (hr : r ≤ 4) (h : Side r s side) : callF P k 138 [.int r, mvD s side] M = .ok .non M := by
  rw [C138 (by omega)]
  simp [b138, is_step_move (show 4 ≤ k - 1 by omega) hr h]
/-- the images of a move -/
def mvW (r s : Nat) (side : List Nat) : List (List Nat) := (List.range r).map fun i => mvI s (inS side) (97 + i)
theorem base_alph {r i : Nat} (hr : r ≤ 4) (hi : i < r) : 97 + i ∈ alph r := by
  have : r = 0 ∨ r = 1 ∨ r = 2 ∨ r = 3 ∨ r = 4 := by omega
  rcases this with rfl | rfl | rfl | rfl | rfl
  · omega
  · have : i = 0 := by omega
    subst this; decide
  · have : i = 0 ∨ i = 1 := by omega
    rcases this with rfl | rfl <;> decide
  · have : i = 0 ∨ i = 1 ∨ i = 2 := by omega
    rcases this with rfl | rfl | rfl <;> decide
  · have : i = 0 ∨ i = 1 ∨ i = 2 ∨ i = 3 := by omega
    rcases this with rfl | rfl | rfl | rfl <;> decide
theorem base_items {r : Nat} (h2 : 2 ≤ r) (hr : r ≤ 4) : (slcL [97, 98, 99, 100] none (some (r : Int))).map (fun c : Nat => D.str [c]) = (List.range r).map fun i => D.str [97 + i] := by
  have : r = 2 ∨ r = 3 ∨ r = 4 := by omega
  rcases this with rfl | rfl | rfl <;> rfl
theorem img1_mv {r s : Nat} {side : List Nat} {c : Nat} (hr : r ≤ 4) (h : Side r s side) (hc : c ∈ alph r) : img1 (mvW r s side) c = mvI s (inS side) c := by
  have hs4 := alph_sub hr h.mem
  obtain ⟨h1, h2⟩ := base_ix hr hc
  have hg : (mvW r s side).getD (ix c) [] = mvI s (inS side) (97 + ix c) := by
    unfold mvW
    rw [List.getD_eq_getElem?_getD, List.getElem?_map, List.getElem?_range h1]; rfl
  unfold img1
  rcases h2 with ⟨hl, _, _⟩ | ⟨hl, _, _⟩
  · have : 97 + ix c = c := by
      rcases alph_cases hr hc with rfl | rfl | rfl | rfl | rfl | rfl | rfl | rfl <;> first | rfl | cases hl
    rw [if_pos hl, hg, this]
  · have hx : 97 + ix c = oth c := by
      rcases alph_cases hr hc with rfl | rfl | rfl | rfl | rfl | rfl | rfl | rfl <;> first | rfl | cases hl
    have hc4 := alph_sub hr hc
    rw [if_neg (by simp [hl]), hg, hx]
    unfold mvI bfo bhd
    by_cases a : c = s
    · subst a; simp [inv, sw (om hs4), oo hs4]
    · by_cases b : c = oth s
      · subst b; simp [inv, oo hs4, sw hs4]
      · have a' : ¬ oth c = s := fun e => b (by rw [← e, oo hc4])
        have b' : ¬ oth c = oth s := fun e => a (o_inj hc4 hs4 e)
        rw [oo hc4]
        simp only [a, b, a', b', or_self, if_false]
        cases inS side c <;> cases inS side (oth c) <;> simp [inv, sw hs4, sw (om hs4), sw (om hc4), oo hc4, oo hs4]
theorem mvW_len {r s : Nat} {side : List Nat} : (mvW r s side).length = r := by simp [mvW]
theorem mvI_red {r s x : Nat} {side : List Nat} (hr : r ≤ 4) (h : Side r s side) (hx : x ∈ alph r) : Wd r (mvI s (inS side) x) := by
  refine ⟨fun c hc => mvI_mem hr h.mem hx hc, ?_⟩
  have hs4 := alph_sub hr h.mem
  have hx4 := alph_sub hr hx
  unfold mvI bfo bhd
  by_cases a : x = s ∨ x = oth s
  · rw [if_pos a]; trivial
  · rw [if_neg a]
    have a1 : ¬ x = s := fun e => a (.inl e)
    have a2 : ¬ x = oth s := fun e => a (.inr e)
    have h1 : x ≠ oth (oth s) := by rw [oo hs4]; exact a1
    have h2 : s ≠ oth x := fun e => a2 (by rw [e, oo hx4])
    split <;> split <;> simp [Red, h1, h2]
theorem mvW_wd {r s : Nat} {side : List Nat} (hr : r ≤ 4) (h : Side r s side) : ∀ u ∈ mvW r s side, Wd r u ∧ u.length ≤ 3 := fun u hu => by
  obtain ⟨i, hi, rfl⟩ := List.mem_map.mp hu
  exact ⟨mvI_red hr h (base_alph hr (List.mem_range.mp hi)), mvI_len⟩
theorem in_pair {a b c : Nat} (ha : a < 128) (hb : b < 128) (hc : c < 128) : inF (.str [c]) (.tup [.str [a], .str [b]]) = some (decide (c = a ∨ c = b)) := by
  have p1 : plain 40 (.str [c]) = true := pl_str (by simp; omega)
  have p2 : plain 39 (.str [a]) = true := pl_str (by simp; omega)
  have p3 : plain 39 (.str [b]) = true := pl_str (by simp; omega)
  unfold inF
  simp only
  rw [if_pos (by rw [show isPlain (.str [c]) = plain 40 (.str [c]) from rfl, p1]; simp [p2, p3])]
  simp only [List.any_cons, List.any_nil, Bool.or_false, ed_str]
  congr 1
  by_cases x : c = a
  · subst x; simp
  · by_cases y : c = b
    · subst y; simp
    · have x' : ¬ a = c := fun e => x e.symm
      have y' : ¬ b = c := fun e => y e.symm
      simp [x, y, x', y']
theorem images_of_move {k r s : Nat} {side : List Nat} {M : Store} (hk : 2 ≤ k) (h2 : 2 ≤ r) (hr : r ≤ 4) (h : Side r s side) : callF P k 139 [.int r, mvD s side] M = .ok (.tup ((mvW r s side).map .str)) M := by
  have hs4 := alph_sub hr h.mem
  have sa := alph_ascii hs4
  have soa := alph_ascii (om hs4)
  have hl := h.len
  have t1 : slcL [D.str [109, 111, 118, 101], .str [s], .str side] (some (1 : Int)) none = [.str [s], .str side] := slc_from (i := 1)
  have e2 := fun M => inverse_ok (k := k - 1) (w := [s]) (M := M) (by omega) (by simpa using sa) (by simp)
  rw [inv_one, sw hs4] at e2
  obtain ⟨⟨s', hf⟩, -⟩ := for_fold (c := P.cfg (k - 1)) (tg := .n 5) (body := F139_0) (M := M) (f := fun i : Nat => D.str [97 + i]) (E := fun (b : List D) (t : Option Sl × Option Sl × Option Sl) => [some (.v (.int r)), some (.v (mvD s side)), some (.v (.str [s])), some (.v (.str side)), some (.o b), t.1, t.2.1, t.2.2])
    (step := fun b i => b ++ [.str (mvI s (inS side) (97 + i))]) (List.range r) (fun i b => b.length ≤ i) (fun i x b t hx hb => by
      have hxr : x < r := by
        obtain ⟨hh, e⟩ := List.getElem?_eq_some_iff.mp hx
        rw [List.getElem_range] at e
        rw [← e]; simpa using hh
      have hi : i ≤ r := by
        obtain ⟨hh, _⟩ := List.getElem?_eq_some_iff.mp hx
        simp at hh; omega
      have hxa := base_alph hr hxr
      have xa := alph_ascii hxa
      have e3 := fun M => inverse_ok (k := k - 1) (w := [97 + x]) (M := M) (by omega) (by simpa using xa) (by simp)
      rw [inv_one, sw_oth hr hxa] at e3
      have hin := in_pair sa soa xa
      have hb' : b.length < SZ := by unfold SZ; omega
      refine ⟨?_, by simp; omega⟩
      unfold mvI bfo bhd inS
      by_cases a : 97 + x = s ∨ 97 + x = oth s
      · exact ⟨(some (.v (.str [97 + x])), t.2.1, t.2.2), by simp [forBody, F139_0, e2, hin, a, hb']⟩
      · refine ⟨(some (.v (.str [97 + x])), some (.v (.str (if oth (97 + x) ∈ side then [oth s] else []))), some (.v (.str (if 97 + x ∈ side then [s] else [])))), ?_⟩
        by_cases q1 : oth (97 + x) ∈ side <;> by_cases q2 : 97 + x ∈ side <;> simp [forBody, F139_0, e2, e3, hin, a, hb', q1, q2]) [] (none, none, none) (Nat.zero_le _)
  have e4 : (List.range r).foldl (fun b i => b ++ [D.str (mvI s (inS side) (97 + i))]) [] = (mvW r s side).map .str := by
    rw [fold_app]
    unfold mvW
    rw [List.map_map]; rfl
  rw [e4] at hf
  have hbi := base_items h2 hr
  unfold mvD at hf
  rw [C139 (by omega)]
  simp [b139, mvD, t1, atF, ixN, ex_for, G3, hbi, hf]
end RC

set_option Elab.async false
set_option linter.all false
set_option autoImplicit false
set_option maxRecDepth 100000
set_option maxHeartbeats 4000000
/-! moves and rows -/
namespace RC
open RCs
/-- a row's image under a move -/
def mvR (s : Nat) (side : List Nat) (R : List (List Nat)) : List (List Nat) := R.map fun w => ring (w.flatMap (mvI s (inS side)))
theorem flt_mv {r s : Nat} {side : List Nat} (hr : r ≤ 4) (h : Side r s side) : ∀ {w : List Nat}, (∀ c ∈ w, c ∈ alph r) → flt (mvW r s side) w = w.flatMap (mvI s (inS side))
  | [], _ => rfl
  | c :: w, hw => by
    have ih := flt_mv hr h (w := w) fun d hd => hw d (List.mem_cons_of_mem _ hd)
    unfold flt at ih ⊢
    rw [List.flatMap_cons, List.flatMap_cons, ih, img1_mv hr h (hw c List.mem_cons_self)]
theorem ring_img {r s : Nat} {side w : List Nat} (hr : r ≤ 4) (h : Side r s side) (hw : ∀ c ∈ w, c ∈ alph r) : ring (img (mvW r s side) w) = ring (w.flatMap (mvI s (inS side))) := by
  rw [img_flt hr (fun u hu => (mvW_wd hr h u hu).1), ring_rd, flt_mv hr h hw]
theorem mv_alph {r s : Nat} {side w : List Nat} (hr : r ≤ 4) (h : Side r s side) (hw : ∀ c ∈ w, c ∈ alph r) : ∀ c ∈ w.flatMap (mvI s (inS side)), c ∈ alph r := fun c hc => by
  obtain ⟨y, hy, h'⟩ := List.mem_flatMap.mp hc
  exact mvI_mem hr h.mem (hw y hy) h'
theorem step_row_of_ok {k r s : Nat} {side : List Nat} {R : List (List Nat)} {M : Store} (hk : 4 ≤ k) (h2 : 2 ≤ r) (hr : r ≤ 4) (h : Side r s side) (hR : ∀ w ∈ R, (∀ c ∈ w, c ∈ alph r) ∧ List.length w ≤ 1000) (hl : R.length ≤ 1000) :
    callF P k 152 [.int r, rowD R, mvD s side] M = .ok (rowD (mvR s side R)) M := by
  have e1 := images_of_move (k := k - 1) (M := M) (by omega) h2 hr h
  have e2 : ev (P.cfg (k - 1)) L152_0 [some (.v (.int r)), some (.v (rowD R)), some (.v (mvD s side)), some (.v (.tup ((mvW r s side).map .str))), none] M = .ok (.lst (R.map fun w => .str (ring (w.flatMap (mvI s (inS side)))))) M :=
    ev_lc (xs := R) D.str _ (by simp [rowD]) (by omega) fun w hw => ⟨[some (.v (.int r)), some (.v (rowD R)), some (.v (mvD s side)), some (.v (.tup ((mvW r s side).map .str))), some (.v (.str w))], by simp, by
      obtain ⟨h3, h4⟩ := hR w hw
      have f1 := image_of_ok (k := k - 1) (r := r) (m := 3) (I := mvW r s side) (w := w) (M := M) (by omega) hr mvW_len (fun u hu => (mvW_wd hr h u hu).1) (fun u hu => (mvW_wd hr h u hu).2) h3 (by omega) (by omega)
      have hlen : (img (mvW r s side) w).length ≤ 50000 := by
        rw [img_flt hr (fun u hu => (mvW_wd hr h u hu).1), flt_mv hr h h3]
        have := rd_len (w.flatMap (mvI s (inS side)))
        have := flat_len (f := mvI s (inS side)) (fun _ => mvI_len) w
        omega
      have hlts : Lts (img (mvW r s side) w) := by
        rw [img_flt hr (fun u hu => (mvW_wd hr h u hu).1), flt_mv hr h h3]
        exact Lts.rd (wd_lts hr (mv_alph hr h h3))
      have f2 := ring_text_ok (k := k - 1) (w := img (mvW r s side) w) (M := M) (by omega) hlts hlen
      rw [ring_img hr h h3] at f2
      simp [f1, f2]⟩
  rw [C152 (by omega)]
  simp [b152, e1, e2]
  simp [rowD, mvR, Function.comp_def]
theorem row_mapped_ok {k r s : Nat} {side : List Nat} {R : List (List Nat)} {M : Store} (hk : 4 ≤ k) (h2 : 2 ≤ r) (hr : r ≤ 4) (h : Side r s side) (hR : ∀ w ∈ R, (∀ c ∈ w, c ∈ alph r) ∧ List.length w ≤ 300) (hl : R.length ≤ 1000) :
    callF P k 130 [.tup ((mvW r s side).map .str), rowD R] M = .ok (rowD (mvR s side R)) M := by
  have e2 : ev (P.cfg (k - 1)) L130_0 [some (.v (.tup ((mvW r s side).map .str))), some (.v (rowD R)), none] M = .ok (.lst (R.map fun w => .str (ring (w.flatMap (mvI s (inS side)))))) M :=
    ev_lc (xs := R) D.str _ (by simp [rowD]) (by omega) fun w hw => ⟨[some (.v (.tup ((mvW r s side).map .str))), some (.v (rowD R)), some (.v (.str w))], by simp, by
      obtain ⟨h3, h4⟩ := hR w hw
      have f1 := mapped_ok (k := k - 1) (r := r) (m := 3) (I := mvW r s side) (w := w) (M := M) (by omega) hr mvW_len (fun u hu => mvW_wd hr h u hu) h3 (by omega) (by omega)
      have hlen : (img (mvW r s side) w).length ≤ 1000 := by
        rw [img_flt hr (fun u hu => (mvW_wd hr h u hu).1), flt_mv hr h h3]
        have := rd_len (w.flatMap (mvI s (inS side)))
        have := flat_len (f := mvI s (inS side)) (fun _ => mvI_len) w
        omega
      have hlts : Lts (img (mvW r s side) w) := by
        rw [img_flt hr (fun u hu => (mvW_wd hr h u hu).1), flt_mv hr h h3]
        exact Lts.rd (wd_lts hr (mv_alph hr h h3))
      have f2 : callF P (k - 1) 40 [.str (img (mvW r s side) w)] M = .ok (.str (ring (img (mvW r s side) w))) M := round_ok (by omega) hlts hlen
      rw [ring_img hr h h3] at f2
      simp [f1, f2]⟩
  rw [C130 (by omega)]
  simp [b130, e2]
  simp [rowD, mvR, Function.comp_def]
theorem limages_ok {k r s : Nat} {side : List Nat} {M : Store} (hk : 2 ≤ k) (h2 : 2 ≤ r) (hr : r ≤ 4) (h : Side r s side) : callF P k 129 [.int r, mvD s side] M = .ok (.tup ((mvW r s side).map .str)) M := by
  have hs4 := alph_sub hr h.mem
  have sa := alph_ascii hs4
  have hl := h.len
  have lw : mtF .lower (.str [s]) [] = some (.str [loC s]) := by simp [mtF, ascii, sa]
  obtain ⟨⟨s', hf⟩, -⟩ := for_fold (c := P.cfg (k - 1)) (tg := .n 6) (body := F129_0) (M := M) (f := fun i : Nat => D.str [97 + i]) (E := fun (b : List D) (t : Option Sl × Option Sl × Option Sl) => [some (.v (.int r)), some (.v (mvD s side)), some (.v (.str [109, 111, 118, 101])), some (.v (.str [s])), some (.v (.str side)), some (.o b), t.1, t.2.1, t.2.2])
    (step := fun b i => b ++ [.str (mvI s (inS side) (97 + i))]) (List.range r) (fun i b => b.length ≤ i) (fun i x b t hx hb => by
      have hxr : x < r := by
        obtain ⟨hh, e⟩ := List.getElem?_eq_some_iff.mp hx
        rw [List.getElem_range] at e
        rw [← e]; simpa using hh
      have hi : i ≤ r := by
        obtain ⟨hh, _⟩ := List.getElem?_eq_some_iff.mp hx
        simp at hh; omega
      have hxa := base_alph hr hxr
      have xa := alph_ascii hxa
      have hup : mtF .upper (.str [97 + x]) [] = some (.str [oth (97 + x)]) := by
        have hx4 : x = 0 ∨ x = 1 ∨ x = 2 ∨ x = 3 := by omega
        rcases hx4 with rfl | rfl | rfl | rfl <;> rfl
      have hlo : (97 + x = loC s) ↔ (97 + x = s ∨ 97 + x = oth s) := by
        have hx4 : x = 0 ∨ x = 1 ∨ x = 2 ∨ x = 3 := by omega
        rcases alph_cases (Nat.le_refl 4) hs4 with rfl | rfl | rfl | rfl | rfl | rfl | rfl | rfl <;> rcases hx4 with rfl | rfl | rfl | rfl <;> decide
      have hb' : b.length < SZ := by unfold SZ; omega
      refine ⟨?_, by simp; omega⟩
      unfold mvI bfo bhd inS
      generalize 97 + x = y at *
      refine ⟨(some (.v (.str [y])), some (.v (.str (if oth y ∈ side then [oth s] else []))), some (.v (.str (if y ∈ side then [s] else [])))), ?_⟩
      by_cases a : y = s ∨ y = oth s
      · have a2 := hlo.mpr a
        subst a2
        by_cases q1 : oth (loC s) ∈ side <;> by_cases q2 : loC s ∈ side <;> simp [forBody, F129_0, hup, lw, other_ok (show 1 ≤ k - 1 by omega) sa, a, hb', q1, q2]
      · have a2 : ¬ (y = loC s) := fun e => a (hlo.mp e)
        by_cases q1 : oth y ∈ side <;> by_cases q2 : y ∈ side <;> simp [forBody, F129_0, hup, lw, other_ok (show 1 ≤ k - 1 by omega) sa, a, a2, hb', q1, q2]) [] (none, none, none) (Nat.zero_le _)
  have e4 : (List.range r).foldl (fun b i => b ++ [D.str (mvI s (inS side) (97 + i))]) [] = (mvW r s side).map .str := by
    rw [fold_app]
    unfold mvW
    rw [List.map_map]; rfl
  rw [e4] at hf
  have hbi := base_items h2 hr
  unfold mvD at hf
  rw [C129 (by omega)]
  simp [b129, mvD, atF, ixN, ex_for, hbi, hf]
/-- the edges that a side parts -/
def ctR (side : List Nat) (R : List (List Nat)) : Nat := ((edT 0 R).filter fun t => inS side (chr t.2.1 t.2.2) != inS side (oth (chr t.2.1 ((t.2.2 + 1) % t.2.1.length)))).length
theorem cut_of_ok {k r : Nat} {side : List Nat} {R : List (List Nat)} {M : Store} (hk : 2 ≤ k) (hr : r ≤ 4) (hR : ∀ w ∈ R, (∀ c ∈ w, c ∈ alph r) ∧ w ≠ [] ∧ List.length w ≤ 1000) (hl : R.length ≤ 1000) (hlen : rlen R ≤ 16777216) : callF P k 155 [rowD R, .str side] M = .ok (.int (ctR side R : Nat)) M := by
  have e1 := edge_list_ok (k := k - 1) (r := r) (R := R) (M := M) (by omega) hr hR hl
  rw [edA_map] at e1
  have h1 : ev (P.cfg (k - 1)) L155_0 [some (.v (rowD R)), some (.v (.str side)), none, none, none] M = .ok (.lst (((edT 0 R).filter fun t => inS side (chr t.2.1 t.2.2) != inS side (oth (chr t.2.1 ((t.2.2 + 1) % t.2.1.length)))).map fun t => .tup [.int (t.1 : Nat), .int (t.2.2 : Nat)])) M :=
    ev_lcif (xs := edT 0 R) (fun t => edD t.1 t.2.1 t.2.2) _ _ (by simp [e1]) (by rw [edT_len]; exact hlen) fun t ht => by
      refine ⟨_, rfl, ?_, fun _ => by simp [edD]⟩
      simp only [edD, bne, inS]
      simp
  rw [C155 (by omega)]
  simp [b155, h1, ctR]
theorem change_of_ok {k r s : Nat} {side : List Nat} {R : List (List Nat)} {M : Store} (hk : 3 ≤ k) (hr : r ≤ 4) (h : Side r s side) (hR : ∀ w ∈ R, (∀ c ∈ w, c ∈ alph r) ∧ w ≠ [] ∧ List.length w ≤ 1000) (hl : R.length ≤ 1000) (hlen : rlen R ≤ 16777216) : callF P k 156 [rowD R, mvD s side] M = .ok (.int ((ctR side R : Int) - (dg R s : Int))) M := by
  have sa := alph_ascii (alph_sub hr h.mem)
  have e1 := cut_of_ok (k := k - 1) (side := side) (M := M) (by omega) hr hR hl hlen
  have e2 := degree_of_ok (k := k - 1) (c := s) (M := M) (by omega) hr hR hl hlen sa
  rw [C156 (by omega)]
  simp [b156, mvD, atF, ixN, e1, e2]
theorem rw_facts {r : Nat} {R : List (List Nat)} (hr : r ≤ 4) (h : Rw r R) : ∀ w ∈ R, (∀ c ∈ w, c ∈ alph r) ∧ w ≠ [] ∧ List.length w ≤ 100 := fun w hw => by
  have := isR_facts hr (h.2.2.1 w hw)
  exact ⟨this.1.1, this.2.2.1, this.2.1⟩
theorem change_ok {k r s : Nat} {side : List Nat} {R : List (List Nat)} {M : Store} (hk : 8 ≤ k) (h2 : 2 ≤ r) (hr : r ≤ 4) (h : Side r s side) (hR : Rw r R) : callF P k 159 [.int r, rowD R, mvD s side] M = .ok (.int ((ctR side R : Int) - (dg R s : Int))) M := by
  have f := rw_facts hr hR
  have hlen : rlen R ≤ 60 := hR.2.2.2
  have hl : R.length ≤ 4 := hR.2.1
  rw [C159 (by omega)]
  simp [b159, need_rank_ok (show 2 ≤ k - 1 by omega) h2 hr, need_row_ok (show 6 ≤ k - 1 by omega) hr hR, need_step_move (show 5 ≤ k - 1 by omega) hr h, change_of_ok (show 3 ≤ k - 1 by omega) hr h (fun w hw => ⟨(f w hw).1, (f w hw).2.1, by have := (f w hw).2.2; omega⟩) (by omega) (by omega)]
theorem need_side_ok {k r : Nat} {side : List Nat} {M : Store} (hk : 3 ≤ k) (hr : r ≤ 4) (h : side = (alph r).filter fun c => decide (c ∈ side)) : callF P k 157 [.int r, .str side] M = .ok .non M := by
  have hl : side.length ≤ 8 := by rw [h]; exact Nat.le_trans (List.length_filter_le _ _) (alph_len r)
  have i2 : isiF P.isa (.str side) .str = some true := rfl
  have e1 : ev (P.cfg (k - 1)) L157_0 [some (.v (.int r)), some (.v (.str side)), none] M = .ok (.lst (((alph r).filter fun c => decide (c ∈ side)).map fun c => .str [c])) M :=
    ev_lcif (xs := alph r) (fun c => D.str [c]) (fun c => D.str [c]) (fun c => decide (c ∈ side)) (by simp [letters_ok (show 1 ≤ k - 1 by omega) hr]) (by have := alph_len r; omega) fun c hc => ⟨[some (.v (.int r)), some (.v (.str side)), some (.v (.str [c]))], by simp, by simp, fun _ => by simp⟩
  rw [← h] at e1
  rw [C157 (by omega)]
  simp [b157, i2, e1, join_ok (show side.length ≤ 16777216 by omega)]
theorem cut_ok {k r : Nat} {side : List Nat} {R : List (List Nat)} {M : Store} (hk : 8 ≤ k) (h2 : 2 ≤ r) (hr : r ≤ 4) (h : side = (alph r).filter fun c => decide (c ∈ side)) (hR : Rw r R) : callF P k 158 [.int r, rowD R, .str side] M = .ok (.int (ctR side R : Nat)) M := by
  have f := rw_facts hr hR
  have hlen : rlen R ≤ 60 := hR.2.2.2
  have hl : R.length ≤ 4 := hR.2.1
  rw [C158 (by omega)]
  simp [b158, need_rank_ok (show 2 ≤ k - 1 by omega) h2 hr, need_row_ok (show 6 ≤ k - 1 by omega) hr hR, need_side_ok (show 3 ≤ k - 1 by omega) hr h, cut_of_ok (k := k - 1) (side := side) (show 2 ≤ k - 1 by omega) hr (fun w hw => ⟨(f w hw).1, (f w hw).2.1, by have := (f w hw).2.2; omega⟩) (by omega) (by omega)]
end RC

set_option Elab.async false
set_option linter.all false
set_option autoImplicit false
set_option maxRecDepth 100000
set_option maxHeartbeats 4000000
/-! the rule of change for rows -/
namespace RC
open RCs
def ctK (side : List Nat) (k : Nat) (R : List (List Nat)) : Nat := ((edT k R).filter fun t => inS side (chr t.2.1 t.2.2) != inS side (oth (chr t.2.1 ((t.2.2 + 1) % t.2.1.length)))).length
theorem isR_rd {r : Nat} {w : List Nat} (hr : r ≤ 4) (h : isR r w = true) : Rd w := by
  obtain ⟨h1, _, _, h4, _⟩ := isR_facts hr h
  exact ⟨wd_lts hr h1.1, h1.2, h4⟩
theorem rule_ring {r s : Nat} {side w : List Nat} (hr : r ≤ 4) (h : Side r s side) (hw : isR r w = true) :
    (ring (w.flatMap (mvI s (inS side)))).length + (cnt s w + cnt (oth s) w) = w.length + ((List.range w.length).filter fun i => inS side (chr w i) != inS side (oth (chr w ((i + 1) % w.length)))).length := by
  obtain ⟨h1, h2, h3, h4, _⟩ := isR_facts hr hw
  cases w with
  | nil => exact absurd rfl h3
  | cons x xs =>
    have e := (move_ring (p := inS side) (alph_sub hr h.mem) (decide_eq_true h.has) (decide_eq_false h.hasnt) (isR_rd hr hw) (by omega)).2
    rw [e, cutP_at]
theorem rule_row {r s : Nat} {side : List Nat} (hr : r ≤ 4) (h : Side r s side) : ∀ (k : Nat) (R : List (List Nat)), (∀ w ∈ R, isR r w = true) → rlen (mvR s side R) + (cnt s R.flatten + cnt (oth s) R.flatten) = rlen R + ctK side k R
  | _, [], _ => by simp [mvR, rlen, ctK, edT, cnt]
  | k, w :: R, hR => by
    have ih := rule_row hr h (k + 1) R fun u hu => hR u (List.mem_cons_of_mem _ hu)
    have e := rule_ring hr h (hR w List.mem_cons_self)
    have e2 : ctK side k (w :: R) = ((List.range w.length).filter fun i => inS side (chr w i) != inS side (oth (chr w ((i + 1) % w.length)))).length + ctK side (k + 1) R := by
      unfold ctK
      rw [edT, List.filter_append, List.length_append, List.filter_map, List.length_map]
      rfl
    have e3 : rlen (mvR s side (w :: R)) = (ring (w.flatMap (mvI s (inS side)))).length + rlen (mvR s side R) := by simp [mvR, rlen]
    have e4 : rlen (w :: R) = w.length + rlen R := by simp [rlen]
    rw [e2, e3, e4, List.flatten_cons, cnt_app, cnt_app]
    omega
theorem rule_change {r s : Nat} {side : List Nat} {R : List (List Nat)} (hr : r ≤ 4) (h : Side r s side) (hR : ∀ w ∈ R, isR r w = true) : (rlen (mvR s side R) : Int) - (rlen R : Int) = (ctR side R : Int) - (dg R s : Int) := by
  have e := rule_row hr h 0 R hR
  have e2 : dg R s = cnt s R.flatten + cnt (oth s) R.flatten := dg_cnt hr (alph_sub hr h.mem) 0 R hR
  have e3 : ctR side R = ctK side 0 R := rfl
  omega
/-- the complement -/
def restL (r : Nat) (side : List Nat) : List Nat := (alph r).filter fun c => !inS side c
theorem rest_side {r s : Nat} {side : List Nat} (hr : r ≤ 4) (h : Side r s side) : Side r (oth s) (restL r side) :=
  side_of (p := fun c => !inS side c) (oth_mem hr h.mem) (by simp [inS, h.hasnt]) (by simp [inS, oo (alph_sub hr h.mem), h.has])
theorem compl_row {r s : Nat} {side : List Nat} {R : List (List Nat)} (hr : r ≤ 4) (h : Side r s side) (hR : ∀ w ∈ R, isR r w = true) : mvR (oth s) (restL r side) R = mvR s side R := by
  unfold mvR
  refine List.map_congr_left fun w hw => ?_
  obtain ⟨h1, h2, h3, h4, _⟩ := isR_facts hr (hR w hw)
  cases w with
  | nil => exact absurd rfl h3
  | cons x xs =>
    refine move_compl h.mem hr (decide_eq_true h.has) (decide_eq_false h.hasnt) (isR_rd hr (hR _ hw)) h1.1 (by omega) fun c hc => ?_
    unfold restL inS
    by_cases q : c ∈ side <;> simp [List.mem_filter, hc, q]
theorem mvR_len {s : Nat} {side : List Nat} : ∀ R : List (List Nat), rlen (mvR s side R) ≤ 3 * rlen R
  | [] => by simp [mvR, rlen]
  | w :: R => by
    have ih := mvR_len (s := s) (side := side) R
    have h1 := ring_len (w.flatMap (mvI s (inS side)))
    have h2 := flat_len (f := mvI s (inS side)) (fun _ => mvI_len) w
    have e3 : rlen (mvR s side (w :: R)) = (ring (w.flatMap (mvI s (inS side)))).length + rlen (mvR s side R) := by simp [mvR, rlen]
    have e4 : rlen (w :: R) = w.length + rlen R := by simp [rlen]
    omega
theorem row_len_mv {k s : Nat} {side : List Nat} {R : List (List Nat)} {M : Store} (hk : 1 ≤ k) (hl : R.length ≤ 1000) (hw : ∀ w ∈ R, List.length w ≤ 1000) : callF P k 52 [rowD (mvR s side R)] M = .ok (.int (rlen (mvR s side R) : Nat)) M :=
  row_length_ok hk (by simp [mvR]; omega) fun w hw' => by
    obtain ⟨u, hu, rfl⟩ := List.mem_map.mp hw'
    have h1 := ring_len (u.flatMap (mvI s (inS side)))
    have h2 := flat_len (f := mvI s (inS side)) (fun _ => mvI_len) u
    have := hw u hu
    omega
theorem step_row_any {k r s : Nat} {side : List Nat} {R : List (List Nat)} {M : Store} (hk : 9 ≤ k) (h2 : 2 ≤ r) (hr : r ≤ 4) (h : Side r s side) (hR : Rw r R) :
    callF P k 154 [.int r, rowD R, mvD s side] M = if rlen (mvR s side R) ≤ 60 then .ok (rowD (mvR s side R)) M else .exc 13 (.int 60) M := by
  have f := rw_facts hr hR
  have hl : R.length ≤ 4 := hR.2.1
  have e1 := step_row_of_ok (k := k - 1) (R := R) (M := M) (by omega) h2 hr h (fun w hw => ⟨(f w hw).1, by have := (f w hw).2.2; omega⟩) (by omega)
  have e2 := row_len_mv (k := k - 1 - 1) (s := s) (side := side) (R := R) (M := M) (by omega) (by omega) (fun w hw => by have := (f w hw).2.2; omega)
  have e3 : callF P (k - 1) 153 [rowD (mvR s side R)] M = if rlen (mvR s side R) ≤ 60 then .ok .non M else .exc 13 (.int 60) M := by
    rw [C153 (by omega)]
    by_cases q : rlen (mvR s side R) ≤ 60
    · have q' : ¬ (60 : Int) < (rlen (mvR s side R) : Int) := by omega
      simp [b153, e2, G6, q, q']
    · have q' : (60 : Int) < (rlen (mvR s side R) : Int) := by omega
      simp [b153, e2, G6, q, q', fldC]
  rw [C154 (by omega)]
  by_cases q : rlen (mvR s side R) ≤ 60
  · rw [if_pos q] at e3 ⊢
    simp [b154, need_rank_ok (show 2 ≤ k - 1 by omega) h2 hr, need_row_ok (show 6 ≤ k - 1 by omega) hr hR, need_step_move (show 5 ≤ k - 1 by omega) hr h, e1, e3]
  · rw [if_neg q] at e3 ⊢
    simp [b154, need_rank_ok (show 2 ≤ k - 1 by omega) h2 hr, need_row_ok (show 6 ≤ k - 1 by omega) hr hR, need_step_move (show 5 ≤ k - 1 by omega) hr h, e1, e3]
/-! the law's moves -/
def sidesF (w : List Nat) : List (List Nat) := w.foldl (fun f c => f ++ f.map (· ++ [c])) [[]]
theorem sidesF_snoc (w : List Nat) (c : Nat) : sidesF (w ++ [c]) = sidesF w ++ (sidesF w).map (· ++ [c]) := by unfold sidesF; rw [List.foldl_append]; rfl
theorem sides_ok {k : Nat} {w : List Nat} {M : Store} (hk : 1 ≤ k) (hl : w.length ≤ 8) {d : D} (hd : itemsOf d = some (w.map fun c => .str [c])) : callF P k 160 [d] M = .ok (.lst ((sidesF w).map .str)) M ∧ (sidesF w).length ≤ 256 ∧ ∀ t ∈ sidesF w, List.length t ≤ 8 := by
  have main : ∀ (v : List Nat) (u : List Nat) (x2 : Option Sl), u.length + v.length ≤ 8 → (sidesF u).length = 2 ^ u.length → (∀ t ∈ sidesF u, List.length t ≤ u.length) → ∃ y2, forLoop (forBody (P.cfg (k - 1)) (.n 2) F160_0) (v.map fun c => D.str [c]) [some (.v d), some (.v (.lst ((sidesF u).map .str))), x2, none] M =
      .next [some (.v d), some (.v (.lst ((sidesF (u ++ v)).map .str))), y2, none] M ∧ (sidesF (u ++ v)).length = 2 ^ (u ++ v).length ∧ (∀ t ∈ sidesF (u ++ v), List.length t ≤ (u ++ v).length) := by
    intro v
    induction v with
    | nil => intro u x2 _ h1 h2; exact ⟨x2, by simp [forLoop], by simpa using h1, by simpa using h2⟩
    | cons c v ih =>
      intro u x2 hu h1 h2
      simp at hu
      have hp : 2 ^ u.length ≤ 2 ^ 8 := Nat.pow_le_pow_right (by omega) (by omega)
      have e1 : ev (P.cfg (k - 1)) L160_0 [some (.v d), some (.v (.lst ((sidesF u).map .str))), some (.v (.str [c])), none] M = .ok (.lst ((sidesF u).map fun t => .str (t ++ [c]))) M :=
        ev_lc (xs := sidesF u) D.str _ (by simp) (by omega) fun t ht => ⟨[some (.v d), some (.v (.lst ((sidesF u).map .str))), some (.v (.str [c])), some (.v (.str t))], by simp, by
          have := h2 t ht
          simp [add_str (s := t) (t := [c]) (by simp; omega)]⟩
      have eb : forBody (P.cfg (k - 1)) (.n 2) F160_0 (.str [c]) [some (.v d), some (.v (.lst ((sidesF u).map .str))), x2, none] M = .next [some (.v d), some (.v (.lst ((sidesF (u ++ [c])).map .str))), some (.v (.str [c])), none] M := by
        rw [sidesF_snoc]
        have hz : ((sidesF u).map D.str).length + ((sidesF u).map fun t => D.str (t ++ [c])).length ≤ 16777216 := by simp; omega
        simp [fb_n, F160_0, e1, add_lst hz, Function.comp_def]
      obtain ⟨y2, g1, g2, g3⟩ := ih (u ++ [c]) (some (.v (.str [c]))) (by simp; omega) (by rw [sidesF_snoc]; simp [h1, Nat.pow_succ]; omega) (fun t ht => by
        rw [sidesF_snoc] at ht
        rcases List.mem_append.mp ht with q | q
        · have := h2 t q; simp; omega
        · obtain ⟨t', q1, rfl⟩ := List.mem_map.mp q
          have := h2 t' q1; simp; omega)
      rw [List.map_cons, forLoop, eb]
      refine ⟨y2, ?_, by simpa using g2, by simpa using g3⟩
      simpa using g1
  obtain ⟨y2, g1, g2, g3⟩ := main w [] none (by simpa using hl) (by simp [sidesF]) (by simp [sidesF])
  simp only [List.nil_append] at g1 g2 g3
  have hp : 2 ^ w.length ≤ 2 ^ 8 := Nat.pow_le_pow_right (by omega) hl
  refine ⟨?_, by omega, fun t ht => by have := g3 t ht; omega⟩
  have e0 : (sidesF []).map D.str = [.str []] := rfl
  rw [e0] at g1
  rw [C160 (by omega)]
  simp [b160, ex_for, hd, g1]
end RC

set_option Elab.async false
set_option linter.all false
set_option autoImplicit false
set_option maxRecDepth 100000
set_option maxHeartbeats 4000000
/-! k66 -/
namespace RC
open RCs
theorem x_appPop {c : Cfg} {ρ : Env} {M : Store} {i j : Nat} {e : E} : ex c (.appPop j i e) ρ M = match getO ρ j with
    | some ys => match getO ρ i with
      | some xs => (ev c e ρ M).then_ ρ fun k M1 => match k with
        | .int n => match ixN xs.length n with
          | some m => match xs[m]? with
            | some d => if i = j then .stuck else if ys.length < SZ then .next (setO (setO ρ i (xs.eraseIdx m)) j (ys ++ [d])) M1 else .stuck
            | none => .stuck
          | none => .stuck
        | _ => .stuck
      | none => .stuck
    | none => .stuck := by rw [ex] <;> rfl
theorem mixed_wp {k n p : Nat} {xs : List D} {M : Store} {Φ : Res D → Prop} (hk : 2 ≤ k) (h : St p n M) (hn : n + xs.length < 1000000) (hl : xs.length ≤ 90000) (hp : plainAll 39 xs = true) (hc : ∀ zs M', (∀ z ∈ zs, z ∈ xs) → zs.length = xs.length → St p (n + xs.length) M' → Φ (.ok (.lst zs) M')) : wp (callF P k 141 [.ref p, .lst xs] M) Φ := by
  rw [C141 (by omega), b141]
  simp [ex_while, P_lf]
  refine wo_while (fun m ρ M => ∃ rs fs, ρ = [some (.v (.ref p)), some (.v (.lst xs)), some (.o rs), some (.o fs)] ∧ (∀ z ∈ rs, z ∈ xs) ∧ (∀ z ∈ fs, z ∈ xs) ∧ rs.length = m ∧ rs.length + fs.length = xs.length ∧ St p (n + fs.length) M) (fun m ρ M hI => ?_) xs.length _ _ _ (by omega) ⟨xs, [], rfl, fun z hz => hz, by simp, rfl, by simp, by simpa using h⟩
  obtain ⟨rs, fs, rfl, h1, h2, h3, h4, h5⟩ := hI
  have hpr : plainAll 39 rs = true := pl_all fun z hz => by
    have : ∀ {ys : List D}, plainAll 39 ys = true → ∀ z ∈ ys, plain 39 z = true := fun {ys} => by
      induction ys with
      | nil => intro _ z hz; cases hz
      | cons y ys ih =>
        intro hy z hz
        rw [pl_cons, Bool.and_eq_true] at hy
        rcases List.mem_cons.mp hz with rfl | hz
        · exact hy.1
        · exact ih hy.2 z hz
    exact this hp z (h1 z hz)
  rw [T141_0]
  cases rs with
  | nil =>
    simp
    have hm : m = 0 := by simpa using h3.symm
    refine hc fs M h2 (by simpa using h4) (h5.mono (by simp at h4; omega))
  | cons r0 rs =>
    rw [pl_cons, Bool.and_eq_true] at hpr
    simp [hpr.1, hpr.2]
    refine ⟨by simp at h3; omega, ?_⟩
    rw [W141_0, wo_cons, x_appPop]
    simp
    simp at h3 h4
    refine next_wp (by omega) h5 (by omega) (by omega) (by omega) fun v M1 hv hs => ?_
    have hv' : v < (r0 :: rs).length := by simp; omega
    have e1 : ixN (rs.length + 1) (v : Int) = some v := by
      unfold ixN
      rw [if_pos (by omega), if_pos (by omega)]
      simp
    obtain ⟨z, hz⟩ : ∃ z, (r0 :: rs)[v]? = some z := ⟨_, List.getElem?_eq_getElem hv'⟩
    have hzm := List.mem_of_getElem? hz
    have hf : fs.length < SZ := by unfold SZ; omega
    simp [e1, hz, hf]
    refine ⟨(r0 :: rs).eraseIdx v, fs ++ [z], ⟨rfl, rfl⟩, fun z' hz' => h1 z' (List.mem_of_mem_eraseIdx hz'), fun z' hz' => ?_, ?_, ?_, hs.mono (by simp; omega)⟩
    · rcases List.mem_append.mp hz' with q | q
      · exact h2 _ q
      · rw [List.mem_singleton.mp q]; exact h1 _ hzm
    · rw [List.length_eraseIdx_of_lt hv']; simp; omega
    · rw [List.length_eraseIdx_of_lt hv']; simp; omega
theorem sides_in {q : Nat → Prop} : ∀ (v : List Nat) (f : List (List Nat)), (∀ t ∈ f, ∀ c ∈ t, q c) → (∀ c ∈ v, q c) → ∀ t ∈ v.foldl (fun f c => f ++ f.map (· ++ [c])) f, ∀ c ∈ t, q c
  | [], _, hf, _ => hf
  | c :: v, f, hf, hv => sides_in v _ (fun t ht d hd => by
      rcases List.mem_append.mp ht with h | h
      · exact hf t h d hd
      · obtain ⟨t', h', rfl⟩ := List.mem_map.mp h
        rcases List.mem_append.mp hd with h2 | h2
        · exact hf t' h' d h2
        · rw [List.mem_singleton.mp h2]; exact hv c List.mem_cons_self) fun d hd => hv d (List.mem_cons_of_mem _ hd)
theorem sidesF_mem {w t : List Nat} (h : t ∈ sidesF w) : ∀ c ∈ t, c ∈ w := sides_in (q := fun c => c ∈ w) w [[]] (by simp) (fun _ h => h) t h
theorem mv_plain {n s : Nat} {side : List Nat} (hs : s < 128) (hl : ∀ c ∈ side, c < 128) : plain (n + 1) (mvD s side) = true := by
  unfold mvD
  rw [pl_tup]
  have h1 : plain n (.str [109, 111, 118, 101]) = true := pl_str (by decide)
  have h2 : plain n (.str [s]) = true := pl_str (by simp; omega)
  have h3 : plain n (.str side) = true := pl_str fun c hc => by have := hl c hc; omega
  simp [h1, h2, h3]
theorem every_move_wp {k r : Nat} {M : Store} {Φ : Res D → Prop} (hk : 3 ≤ k) (h2 : 2 ≤ r) (hr : r ≤ 4) (hc : ∀ ms : List (Nat × List Nat), (∀ t ∈ ms, Side r t.1 t.2) → ms.length ≤ 3000 → Φ (.ok (.lst (ms.map fun t => mvD t.1 t.2)) M)) : wp (callF P k 161 [.int r] M) Φ := by
  rw [C161 (by omega), b161]
  simp [alphabet_ok (show 1 ≤ k - 1 by omega) hr]
  have hal := alph_len r
  refine wo_map (f := fun c : Nat => D.str [c]) (xs := alph r) (fun i ρ M' => M' = M ∧ ∃ (ms : List (Nat × List Nat)) (x3 x4 x5 x6 : Option Sl), ρ = [some (.v (.int r)), some (.o (ms.map fun t => mvD t.1 t.2)), some (.v (.str (alph r))), x3, x4, x5, none] ∧ (∀ t ∈ ms, Side r t.1 t.2) ∧ ms.length ≤ 256 * i) ⟨rfl, [], none, none, none, none, rfl, by simp, by simp⟩ (fun i s ρ M' hs hI => ?_) fun ρ M' hI => ?_
  · obtain ⟨rfl, ms, x3, x4, x5, x6, rfl, h1, h3⟩ := hI
    have hsr := List.mem_of_getElem? hs
    have hi8 : i < 8 := by
      have := (List.getElem?_eq_some_iff.mp hs).1
      omega
    have hs4 := alph_sub hr hsr
    have sa := alph_ascii hs4
    have soa := alph_ascii (om hs4)
    have e1 : ev (P.cfg (k - 1)) L161_0 [some (.v (.int r)), some (.o (ms.map fun t => mvD t.1 t.2)), some (.v (.str (alph r))), some (.v (.str [s])), x4, x5, none] M' = .ok (.lst (((alph r).filter fun y => !decide (y = s) && !decide (y = oth s)).map fun c => .str [c])) M' :=
      ev_lcif (xs := alph r) (fun c => D.str [c]) (fun c => D.str [c]) (fun y => !decide (y = s) && !decide (y = oth s)) (by simp) (by omega) fun y hy => ⟨[some (.v (.int r)), some (.o (ms.map fun t => mvD t.1 t.2)), some (.v (.str (alph r))), some (.v (.str [s])), x4, x5, some (.v (.str [y]))], by simp, by simp [other_ok (show 1 ≤ k - 1 by omega) sa, in_pair sa soa (alph_ascii hy)], fun _ => by simp⟩
    obtain ⟨g1, g2, g3⟩ := sides_ok (k := k - 1) (w := (alph r).filter fun y => !decide (y = s) && !decide (y = oth s)) (M := M') (d := .lst (((alph r).filter fun y => !decide (y = s) && !decide (y = oth s)).map fun c => .str [c])) (by omega) (Nat.le_trans (List.length_filter_le _ _) hal) (by simp)
    rw [fb_n, F161_0]
    simp [e1, g1]
    refine wo_map (f := D.str) (xs := sidesF _) (fun j ρ M'' => M'' = M' ∧ ∃ (ms2 : List (Nat × List Nat)) (x5 : Option Sl), ρ = [some (.v (.int r)), some (.o (ms2.map fun t => mvD t.1 t.2)), some (.v (.str (alph r))), some (.v (.str [s])), some (.v (.lst (((alph r).filter fun y => !decide (y = s) && !decide (y = oth s)).map fun c => .str [c]))), x5, none] ∧ (∀ t ∈ ms2, Side r t.1 t.2) ∧ ms2.length ≤ 256 * i + j) ⟨rfl, ms, x5, by simp, h1, by simpa using h3⟩ (fun j w ρ M'' hw hJ => ?_) fun ρ M'' hJ => ?_
    · obtain ⟨rfl, ms2, x5, rfl, h4, h5⟩ := hJ
      have hwm := List.mem_of_getElem? hw
      have hj : j < 256 := by
        have := (List.getElem?_eq_some_iff.mp hw).1
        omega
      -- the letters of the side: s, and those of w that are neither s nor its inverse
      have nw : ∀ c ∈ w, c ≠ oth s := fun c hc => by
        have := sidesF_mem hwm c hc
        have := (List.mem_filter.mp this).2
        simp at this
        exact this.2
      have e2 : ev (P.cfg (k - 1)) L161_1 [some (.v (.int r)), some (.o (ms2.map fun t => mvD t.1 t.2)), some (.v (.str (alph r))), some (.v (.str [s])), some (.v (.lst (((alph r).filter fun y => !decide (y = s) && !decide (y = oth s)).map fun c => .str [c]))), some (.v (.str w)), none] M'' = .ok (.lst (((alph r).filter fun y => (y == s) || decide (y ∈ w)).map fun c => .str [c])) M'' :=
        ev_lcif (xs := alph r) (fun c => D.str [c]) (fun c => D.str [c]) (fun y => (y == s) || decide (y ∈ w)) (by simp) (by omega) fun y hy => ⟨[some (.v (.int r)), some (.o (ms2.map fun t => mvD t.1 t.2)), some (.v (.str (alph r))), some (.v (.str [s])), some (.v (.lst (((alph r).filter fun y => !decide (y = s) && !decide (y = oth s)).map fun c => .str [c]))), some (.v (.str w)), some (.v (.str [y]))], by simp, by by_cases q : y = s <;> simp [q], fun _ => by simp⟩
      have hlen : ((alph r).filter fun y => (y == s) || decide (y ∈ w)).length ≤ 16777216 := by
        have := List.length_filter_le (fun y => (y == s) || decide (y ∈ w)) (alph r)
        omega
      have hsd : Side r s ((alph r).filter fun y => (y == s) || decide (y ∈ w)) := side_of hsr (by simp) (by simp [o_ne hs4]; exact fun q => nw _ q rfl)
      have hz : ms2.length < SZ := by unfold SZ; omega
      rw [fb_n, F161_1]
      simp [e2, join_ok hlen, hz]
      refine ⟨ms2 ++ [(s, (alph r).filter fun y => (y == s) || decide (y ∈ w))], by simp [mvD], fun a b ht => ?_, by simp; omega⟩
      rcases List.mem_append.mp ht with q | q
      · exact h4 (a, b) q
      · have e := List.mem_singleton.mp q
        cases e
        exact hsd
    · obtain ⟨rfl, ms2, x5, rfl, h4, h5⟩ := hJ
      simp
      exact ⟨ms2, rfl, fun a b h => h4 (a, b) h, by omega⟩
  · obtain ⟨rfl, ms, x3, x4, x5, x6, rfl, h1, h3⟩ := hI
    simp
    exact hc ms h1 (by omega)
end RC

set_option Elab.async false
set_option linter.all false
set_option autoImplicit false
set_option maxRecDepth 100000
set_option maxHeartbeats 4000000
namespace RC
open RCs
theorem zip_map {α : Type} (f g : α → D) : ∀ xs : List α, zipD (xs.map f) (xs.map g) = xs.map fun x => .tup [f x, g x]
  | [] => rfl
  | x :: xs => by simp [zipD, zip_map f g xs]
theorem row_rp {r : Nat} {R : List (List Nat)} (hr : r ≤ 4) (hR : ∀ w ∈ R, ∀ c ∈ w, c ∈ alph r) (hl : ∀ w ∈ R, List.length w ≤ 100) (hRl : R.length ≤ 1000) : ∃ s, rpD (rowD R) = some s := by
  refine rp_some ?_ ?_ ?_
  · unfold rowD
    rw [pl_tup]
    exact pl_map fun w hw => pl_str fun c hc => by have := alph_ascii (hR w hw c hc); omega
  · unfold rowD
    rw [sm_tup]
    exact sm_map fun _ _ => sm_str
  · unfold rowD
    rw [sz_tup]
    have := sz_map (f := D.str) (xs := R) (m := 1002) fun w hw => by have := hl w hw; simp; omega
    have h2 : R.length * (1002 + 2) ≤ 1000 * (1002 + 2) := Nat.mul_le_mul_right _ hRl
    omega
end RC

set_option Elab.async false
set_option linter.all false
set_option autoImplicit false
set_option maxRecDepth 100000
set_option maxHeartbeats 4000000
/-! k66 -/
namespace RC
open RCs
theorem mvR_alph {r s : Nat} {side : List Nat} {R : List (List Nat)} (hr : r ≤ 4) (h : Side r s side) (hR : ∀ w ∈ R, (∀ c ∈ w, c ∈ alph r) ∧ w.length ≤ 1000) : ∀ w ∈ mvR s side R, ∀ c ∈ w, c ∈ alph r := fun w hw c hc => by
  obtain ⟨u, hu, rfl⟩ := List.mem_map.mp hw
  have := flat_len (f := mvI s (inS side)) (fun _ => mvI_len) u
  have := (hR u hu).2
  exact (ring_wd (mv_alph hr h (hR u hu).1) (by omega)).1 c hc
theorem len_le_rlen : ∀ {R : List (List Nat)}, ∀ w ∈ R, w.length ≤ rlen R
  | [], w, hw => by cases hw
  | u :: R, w, hw => by
    have e : rlen (u :: R) = u.length + rlen R := by simp [rlen]
    rcases List.mem_cons.mp hw with rfl | q
    · omega
    · have := len_le_rlen w q; omega
theorem move_right_ok {k r s : Nat} {side : List Nat} {R : List (List Nat)} {M : Store} (hk : 10 ≤ k) (h2 : 2 ≤ r) (hr : r ≤ 4) (h : Side r s side) (hR : Rw r R) (h60 : rlen (mvR s side R) ≤ 60) : callF P k 162 [.int r, rowD R, mvD s side] M = .ok (.bl true) M := by
  have f := rw_facts hr hR
  have hlen : rlen R ≤ 60 := hR.2.2.2
  have hl : R.length ≤ 4 := hR.2.1
  have hl' : (mvR s side R).length = R.length := by simp [mvR]
  have hRm : ∀ w ∈ R, ∀ c ∈ w, c ∈ alph r := fun w hw => (f w hw).1
  have hm := mvR_alph hr h fun w hw => ⟨(f w hw).1, by have := (f w hw).2.2; omega⟩
  have hsa := alph_ascii (alph_sub hr h.mem)
  obtain ⟨t, rt⟩ := row_rp hr hm (fun w hw => by have := len_le_rlen w hw; omega) (by omega)
  have e1 := limages_ok (k := k - 1) (M := M) (by omega) h2 hr h
  have e2 := row_mapped_ok (k := k - 1) (M := M) (by omega) h2 hr h (fun w hw => ⟨(f w hw).1, by have := (f w hw).2.2; omega⟩) (show R.length ≤ 1000 by omega)
  have e3 := join_row (R := R) (by omega)
  have e4 := join_row (R := mvR s side R) (by omega)
  have l3 : R.flatten.length = rlen R := by simp [rlen, List.length_flatten]
  have l4 : (mvR s side R).flatten.length = rlen (mvR s side R) := by simp [rlen, List.length_flatten]
  have e5 := change_ok (k := k - 1) (M := M) (by omega) h2 hr h hR
  have e6 := cut_ok (k := k - 1) (M := M) (by omega) h2 hr h.ord hR
  have e7 := degree_ok (k := k - 1) (M := M) (by omega) h2 hr hR h.mem
  have e8 := fun M => step_row_any (k := k - 1) (M := M) (by omega) h2 hr h hR
  have e9 := fun M => step_row_any (k := k - 1) (M := M) (by omega) h2 hr (rest_side hr h) hR
  have hc := compl_row hr h (fun w hw => hR.2.2.1 w hw)
  rw [hc] at e9
  simp only [if_pos h60] at e8 e9
  have ru := rule_change hr h (fun w hw => hR.2.2.1 w hw)
  have e10 : ∀ (ρ : Env) x9, ρ = [some (.v (.int r)), some (.v (rowD R)), some (.v (mvD s side)), some (.v (.str [109, 111, 118, 101])), some (.v (.str [s])), some (.v (.str side)), some (.v (rowD (mvR s side R))), some (.v (.int ((rlen (mvR s side R) : Int) - (rlen R : Int)))), x9, none] → ∀ M, ev (P.cfg (k - 1)) L162_0 ρ M = .ok (.lst ((restL r side).map fun c => .str [c])) M := fun ρ x9 hρ M => by
    subst hρ
    exact ev_lcif (xs := alph r) (fun c => D.str [c]) (fun c => D.str [c]) (fun c => !inS side c) (by simp [alphabet_ok (show 1 ≤ k - 1 by omega) hr]) (by have := alph_len r; omega) fun c hc => ⟨_, rfl, by simp [inS], fun _ => by simp⟩
  have hb : bindT (Tg.t (Tgs.cons (Tg.n 3) (Tgs.cons (Tg.n 4) (Tgs.cons (Tg.n 5) Tgs.nil)))) (mvD s side) [some (.v (.int r)), some (.v (rowD R)), some (.v (mvD s side)), none, none, none, none, none, none, none] = some [some (.v (.int r)), some (.v (rowD R)), some (.v (mvD s side)), some (.v (.str [109, 111, 118, 101])), some (.v (.str [s])), some (.v (.str side)), none, none, none, none] := rfl
  have e12 := fun M => other_ok (k := k - 1) (c := s) (M := M) (by omega) hsa
  have nq : ((ctR side R : Int) - (dg R s : Int)) = (rlen (mvR s side R) : Int) - (rlen R : Int) := ru.symm
  have b3 : (mvR s side R).flatten.length ≤ 16777216 := by omega
  have b4 : R.flatten.length ≤ 16777216 := by omega
  have rt' : P.rp (rowD (mvR s side R)) = some t := rt
  have hpl : isPlain (rowD (mvR s side R)) = true := by
    unfold rowD
    rw [show isPlain (.tup ((mvR s side R).map D.str)) = plain 40 (.tup ((mvR s side R).map D.str)) from rfl, pl_tup]
    exact pl_map fun w hw => pl_str fun c hc => by have := alph_ascii (hm w hw c hc); omega
  have he := eqF_self hpl
  have hmv : ∀ t u, D.tup [.str [109, 111, 118, 101], .str [t], .str u] = mvD t u := fun _ _ => rfl
  have hlen2 : (restL r side).length ≤ 16777216 := by
    have := List.length_filter_le (fun c => !inS side c) (alph r)
    have := alph_len r
    unfold restL; omega
  rw [C162 (by omega)]
  simp [b162, hb, e1, e2, e3, e4, RCs.bi_len, len_str b3, len_str b4, l3, l4, e5, e6, e7, nq, e8, rt', e10, join_ok hlen2, e12, hmv, e9, he]
theorem small_row_wp {k n p r most : Nat} {M : Store} {Φ : Res D → Prop} (hk : 5 ≤ k) (h : St p n M) (hn : n + 1 + 3 * (most + 1) < 1000000) (h2 : 2 ≤ r) (h4 : r ≤ 4) (hm2 : 1 ≤ most) (hm3 : most ≤ 20) (hc : ∀ R M', Rw r R → R.length ≤ 3 → (∀ w ∈ R, List.length w ≤ most) → St p (n + 1 + 3 * (most + 1)) M' → Φ (.ok (rowD R) M')) : wp (callF P k 60 [.ref p, .int r, .int most] M) Φ := by
  have h' := h
  obtain ⟨ns, hp, hs⟩ := h
  obtain ⟨R, ns', e, h1, h3, h5, h6⟩ := small_row_ok hk hp hs hn h2 h4 hm2 hm3
  rw [e]
  exact hc R _ h1 h3 h5 (h'.set h6)
theorem mv_items {ms : List (Nat × List Nat)} {r : Nat} (hr : r ≤ 4) (h : ∀ t ∈ ms, Side r t.1 t.2) : plainAll 39 (ms.map fun t => mvD t.1 t.2) = true :=
  pl_map fun t ht => mv_plain (alph_ascii (alph_sub hr (h t ht).mem)) fun c hc => alph_ascii ((h t ht).sub c hc)
theorem slc40 {zs : List D} : slcF (.lst zs) none (some 40) = some (.lst (slcL zs none (some 40))) := rfl
theorem slc40_sub {zs : List D} : ∀ z ∈ slcL zs none (some (40 : Int)), z ∈ zs := fun z hz => by
  unfold slcL cutL at hz
  exact List.mem_of_mem_drop (List.mem_of_mem_take hz)
theorem law66 (ns : List Int) : ∃ M, callF P 40 163 [.lst (ns.map .int)] [] = .ok (.bl true) M := by
  have h : wp (callF P 40 163 [.lst (ns.map .int)] []) (fun o => ∃ M, o = .ok (.bl true) M) := by
    rw [C163 (by omega), b163]
    simp
    refine source_wp (j := 0) (by omega) (by omega) fun p M1 h1 => ?_
    simp
    refine next_wp (by omega) h1 (by omega) (by omega) (by omega) fun v M2 hv h2 => ?_
    simp
    have er : (2 : Int) + (v : Int) = ((2 + v : Nat) : Int) := by omega
    rw [er]
    have hr2 : 2 ≤ 2 + v := by omega
    have hr4 : 2 + v ≤ 4 := by omega
    generalize 2 + v = r at hr2 hr4
    refine small_row_wp (most := 4) (by omega) h2 (by omega) hr2 hr4 (by omega) (by omega) fun R M3 hR hl hw h3 => ?_
    simp
    refine every_move_wp (by omega) hr2 hr4 fun ms hms hml => ?_
    simp
    refine mixed_wp (by omega) h3 (by simp; omega) (by simp; omega) (mv_items hr4 hms) fun zs M4 hz hzl h4 => ?_
    have h60 : ∀ s side, rlen (mvR s side R) ≤ 60 := fun s side => by
      have := mvR_len (s := s) (side := side) R
      have := rlen_le hw
      have : R.length * 4 ≤ 3 * 4 := Nat.mul_le_mul_right _ hl
      omega
    have hzl' : (slcL zs none (some (40 : Int))).length ≤ 16777216 := by
      have : (slcL zs none (some (40 : Int))).length ≤ zs.length := by
        unfold slcL cutL
        rw [List.length_take, List.length_drop]
        omega
      simp at hzl
      omega
    have e1 : ev (P.cfg 39) L163_0 [some (.v (.lst (ns.map .int))), some (.v (.ref p)), some (.v (.int r)), some (.v (rowD R)), some (.v (.lst (slcL zs none (some (40 : Int))))), none] M4 = .ok (.lst (((slcL zs none (some (40 : Int))).filter fun _ => false).map fun z => z)) M4 :=
      ev_lcif (xs := slcL zs none (some (40 : Int))) (fun z => z) (fun z => z) (fun _ => false) (by simp) hzl' fun z hz' => by
        obtain ⟨t, ht, rfl⟩ := List.mem_map.mp (hz z (slc40_sub z hz'))
        exact ⟨_, rfl, by simp [move_right_ok (k := 39) (M := M4) (by omega) hr2 hr4 (hms t ht) hR (h60 _ _)], fun q => by cases q⟩
    have ef : ((slcL zs none (some (40 : Int))).filter fun _ => false) = [] := List.filter_eq_nil_iff.mpr fun _ _ => by simp
    rw [ef] at e1
    simp [slc40, e1]
  exact h
end RC

set_option Elab.async false
set_option linter.all false
set_option autoImplicit false
set_option maxRecDepth 100000
set_option maxHeartbeats 4000000
namespace KL
open PySem PySem.Spec PyProof.Rows L2 RC
theorem ck0 : CRowOk cr0 := ⟨by decide, .inl rfl⟩
theorem ck1 : CRowOk cr1 := ⟨by decide, .inl rfl⟩
theorem ck3 : CRowOk cr3 := ⟨by decide, .inl rfl⟩
theorem ck4 : CRowOk cr4 := ⟨by decide, .inl rfl⟩
theorem ck6 : CRowOk cr6 := ⟨by decide, .inl rfl⟩
theorem ck8 : CRowOk cr8 := ⟨by decide, .inr ⟨ce8, rfl, by decide +kernel, fun K fa fd F => F.bindsN fun _ _ _ _ _ _ us hl => match us, hl with | [_, _], _ => rfl⟩⟩
theorem ck13 : CRowOk cr13 := ⟨by decide, .inr ⟨ce13, rfl, by decide +kernel, fun K fa fd F => F.bindsN fun _ _ _ _ _ _ us hl => match us, hl with | [_, _], _ => rfl⟩⟩
theorem k0 : RowOk tb r0 := ⟨by decide +kernel, fun K fa fd F => F.bindsN fun _ _ _ _ _ _ us hl => match us, hl with | [_], _ => rfl⟩
theorem k1 : RowOk tb r1 := ⟨by decide +kernel, fun K fa fd F => F.bindsN fun _ _ _ _ _ _ us hl => match us, hl with | [_], _ => rfl⟩
theorem k2 : RowOk tb r2 := ⟨by decide +kernel, fun K fa fd F => F.bindsN fun _ _ _ _ _ _ us hl => match us, hl with | [_], _ => rfl⟩
theorem k3 : RowOk tb r3 := ⟨by decide +kernel, fun K fa fd F => F.bindsN fun _ _ _ _ _ _ us hl => match us, hl with | [_], _ => rfl⟩
theorem k4 : RowOk tb r4 := ⟨by decide +kernel, fun K fa fd F => F.bindsN fun _ _ _ _ _ _ us hl => match us, hl with | [_, _], _ => rfl⟩
theorem k5 : RowOk tb r5 := ⟨by decide +kernel, fun K fa fd F => F.bindsN fun _ _ _ _ _ _ us hl => match us, hl with | [_, _], _ => rfl⟩
theorem k10 : RowOk tb r10 := ⟨by decide +kernel, fun K fa fd F => F.bindsN fun _ _ _ _ _ _ us hl => match us, hl with | [_, _], _ => rfl⟩
theorem k11 : RowOk tb r11 := ⟨by decide +kernel, fun K fa fd F => F.bindsN fun _ _ _ _ _ _ us hl => match us, hl with | [_, _], _ => rfl⟩
theorem k25 : RowOk tb r25 := ⟨by decide +kernel, fun K fa fd F => F.bindsN fun _ _ _ _ _ _ us hl => match us, hl with | [_, _], _ => rfl⟩
theorem k26 : RowOk tb r26 := ⟨by decide +kernel, fun K fa fd F => F.bindsN fun _ _ _ _ _ _ us hl => match us, hl with | [_, _], _ => rfl⟩
theorem k27 : RowOk tb r27 := ⟨by decide +kernel, fun K fa fd F => F.bindsN fun _ _ _ _ _ _ us hl => match us, hl with | [_], _ => rfl⟩
theorem k28 : RowOk tb r28 := ⟨by decide +kernel, fun K fa fd F => F.bindsN fun _ _ _ _ _ _ us hl => match us, hl with | [_], _ => rfl⟩
theorem k29 : RowOk tb r29 := ⟨by decide +kernel, fun K fa fd F => F.bindsN fun _ _ _ _ _ _ us hl => match us, hl with | [_, _, _], _ => rfl⟩
theorem k35 : RowOk tb r35 := ⟨by decide +kernel, fun K fa fd F => F.bindsN fun _ _ _ _ _ _ us hl => match us, hl with | [_], _ => rfl⟩
theorem k38 : RowOk tb r38 := ⟨by decide +kernel, fun K fa fd F => F.bindsN fun _ _ _ _ _ _ us hl => match us, hl with | [_], _ => rfl⟩
theorem k39 : RowOk tb r39 := ⟨by decide +kernel, fun K fa fd F => F.bindsN fun _ _ _ _ _ _ us hl => match us, hl with | [_], _ => rfl⟩
theorem k40 : RowOk tb r40 := ⟨by decide +kernel, fun K fa fd F => F.bindsN fun _ _ _ _ _ _ us hl => match us, hl with | [_], _ => rfl⟩
theorem k42 : RowOk tb r42 := ⟨by decide +kernel, fun K fa fd F => F.bindsN fun _ _ _ _ _ _ us hl => match us, hl with | [_], _ => rfl⟩
theorem k43 : RowOk tb r43 := ⟨by decide +kernel, fun K fa fd F => F.bindsN fun _ _ _ _ _ _ us hl => match us, hl with | [_], _ => rfl⟩
theorem k44 : RowOk tb r44 := ⟨by decide +kernel, fun K fa fd F => F.bindsN fun _ _ _ _ _ _ us hl => match us, hl with | [_], _ => rfl⟩
theorem k45 : RowOk tb r45 := ⟨by decide +kernel, fun K fa fd F => F.bindsN fun _ _ _ _ _ _ us hl => match us, hl with | [_, _], _ => rfl⟩
theorem k50 : RowOk tb r50 := ⟨by decide +kernel, fun K fa fd F => F.bindsN fun _ _ _ _ _ _ us hl => match us, hl with | [_, _], _ => rfl⟩
theorem k51 : RowOk tb r51 := ⟨by decide +kernel, fun K fa fd F => F.bindsN fun _ _ _ _ _ _ us hl => match us, hl with | [_, _], _ => rfl⟩
theorem k52 : RowOk tb r52 := ⟨by decide +kernel, fun K fa fd F => F.bindsN fun _ _ _ _ _ _ us hl => match us, hl with | [_], _ => rfl⟩
theorem k53 : RowOk tb r53 := ⟨by decide +kernel, fun K fa fd F => F.bindsN fun _ _ _ _ _ _ us hl => match us, hl with | [_, _], _ => rfl⟩
theorem k54 : RowOk tb r54 := ⟨by decide +kernel, fun K fa fd F => F.bindsN fun _ _ _ _ _ _ us hl => match us, hl with | [_, _], _ => rfl⟩
theorem k55 : RowOk tb r55 := ⟨by decide +kernel, fun K fa fd F => F.bindsN fun _ _ _ _ _ _ us hl => match us, hl with | [_], _ => rfl⟩
theorem k56 : RowOk tb r56 := ⟨by decide +kernel, fun K fa fd F => F.bindsN fun _ _ _ _ _ _ us hl => match us, hl with | [_, _], _ => rfl⟩
theorem k58 : RowOk tb r58 := ⟨by decide +kernel, fun K fa fd F => F.bindsN fun _ _ _ _ _ _ us hl => match us, hl with | [_, _, _], _ => rfl⟩
theorem k59 : RowOk tb r59 := ⟨by decide +kernel, fun K fa fd F => F.bindsN fun _ _ _ _ _ _ us hl => match us, hl with | [_, _, _, _], _ => rfl⟩
theorem k60 : RowOk tb r60 := ⟨by decide +kernel, fun K fa fd F => F.bindsN fun _ _ _ _ _ _ us hl => match us, hl with | [_, _, _], _ => rfl⟩
theorem k70 : RowOk tb r70 := ⟨by decide +kernel, fun K fa fd F => F.bindsN fun _ _ _ _ _ _ us hl => match us, hl with | [_], _ => rfl⟩
theorem k78 : RowOk tb r78 := ⟨by decide +kernel, fun K fa fd F => F.bindsN fun _ _ _ _ _ _ us hl => match us, hl with | [_, _], _ => rfl⟩
theorem k117 : RowOk tb r117 := ⟨by decide +kernel, fun K fa fd F => F.bindsN fun _ _ _ _ _ _ us hl => match us, hl with | [_], _ => rfl⟩
theorem k118 : RowOk tb r118 := ⟨by decide +kernel, fun K fa fd F => F.bindsN fun _ _ _ _ _ _ us hl => match us, hl with | [_, _], _ => rfl⟩
theorem k119 : RowOk tb r119 := ⟨by decide +kernel, fun K fa fd F => F.bindsN fun _ _ _ _ _ _ us hl => match us, hl with | [_, _], _ => rfl⟩
theorem k120 : RowOk tb r120 := ⟨by decide +kernel, fun K fa fd F => F.bindsN fun _ _ _ _ _ _ us hl => match us, hl with | [_, _], _ => rfl⟩
theorem k121 : RowOk tb r121 := ⟨by decide +kernel, fun K fa fd F => F.bindsN fun _ _ _ _ _ _ us hl => match us, hl with | [_, _], _ => rfl⟩
theorem k129 : RowOk tb r129 := ⟨by decide +kernel, fun K fa fd F => F.bindsN fun _ _ _ _ _ _ us hl => match us, hl with | [_, _], _ => rfl⟩
theorem k130 : RowOk tb r130 := ⟨by decide +kernel, fun K fa fd F => F.bindsN fun _ _ _ _ _ _ us hl => match us, hl with | [_, _], _ => rfl⟩
theorem k138 : RowOk tb r138 := ⟨by decide +kernel, fun K fa fd F => F.bindsN fun _ _ _ _ _ _ us hl => match us, hl with | [_, _], _ => rfl⟩
theorem k139 : RowOk tb r139 := ⟨by decide +kernel, fun K fa fd F => F.bindsN fun _ _ _ _ _ _ us hl => match us, hl with | [_, _], _ => rfl⟩
theorem k141 : RowOk tb r141 := ⟨by decide +kernel, fun K fa fd F => F.bindsN fun _ _ _ _ _ _ us hl => match us, hl with | [_, _], _ => rfl⟩
theorem k152 : RowOk tb r152 := ⟨by decide +kernel, fun K fa fd F => F.bindsN fun _ _ _ _ _ _ us hl => match us, hl with | [_, _, _], _ => rfl⟩
theorem k153 : RowOk tb r153 := ⟨by decide +kernel, fun K fa fd F => F.bindsN fun _ _ _ _ _ _ us hl => match us, hl with | [_], _ => rfl⟩
theorem k154 : RowOk tb r154 := ⟨by decide +kernel, fun K fa fd F => F.bindsN fun _ _ _ _ _ _ us hl => match us, hl with | [_, _, _], _ => rfl⟩
theorem k155 : RowOk tb r155 := ⟨by decide +kernel, fun K fa fd F => F.bindsN fun _ _ _ _ _ _ us hl => match us, hl with | [_, _], _ => rfl⟩
theorem k156 : RowOk tb r156 := ⟨by decide +kernel, fun K fa fd F => F.bindsN fun _ _ _ _ _ _ us hl => match us, hl with | [_, _], _ => rfl⟩
theorem k157 : RowOk tb r157 := ⟨by decide +kernel, fun K fa fd F => F.bindsN fun _ _ _ _ _ _ us hl => match us, hl with | [_, _], _ => rfl⟩
theorem k158 : RowOk tb r158 := ⟨by decide +kernel, fun K fa fd F => F.bindsN fun _ _ _ _ _ _ us hl => match us, hl with | [_, _, _], _ => rfl⟩
theorem k159 : RowOk tb r159 := ⟨by decide +kernel, fun K fa fd F => F.bindsN fun _ _ _ _ _ _ us hl => match us, hl with | [_, _, _], _ => rfl⟩
theorem k160 : RowOk tb r160 := ⟨by decide +kernel, fun K fa fd F => F.bindsN fun _ _ _ _ _ _ us hl => match us, hl with | [_], _ => rfl⟩
theorem k161 : RowOk tb r161 := ⟨by decide +kernel, fun K fa fd F => F.bindsN fun _ _ _ _ _ _ us hl => match us, hl with | [_], _ => rfl⟩
theorem k162 : RowOk tb r162 := ⟨by decide +kernel, fun K fa fd F => F.bindsN fun _ _ _ _ _ _ us hl => match us, hl with | [_, _, _], _ => rfl⟩
theorem k163 : RowOk tb r163 := ⟨by decide +kernel, fun K fa fd F => F.bindsN fun _ _ _ _ _ _ us hl => match us, hl with | [_], _ => rfl⟩
theorem all : AllE tb tb.rows := ⟨k0, ⟨k1, ⟨k2, ⟨k3, ⟨k4, ⟨k5, ⟨k10, ⟨k11, ⟨k25, ⟨k26, ⟨k27, ⟨k28, ⟨k29, ⟨k35, ⟨k38, ⟨k39, ⟨k40, ⟨k42, ⟨k43, ⟨k44, ⟨k45, ⟨k50, ⟨k51, ⟨k52, ⟨k53, ⟨k54, ⟨k55, ⟨k56, ⟨k58, ⟨k59, ⟨k60, ⟨k70, ⟨k78, ⟨k117, ⟨k118, ⟨k119, ⟨k120, ⟨k121, ⟨k129, ⟨k130, ⟨k138, ⟨k139, ⟨k141, ⟨k152, ⟨k153, ⟨k154, ⟨k155, ⟨k156, ⟨k157, ⟨k158, ⟨k159, ⟨k160, ⟨k161, ⟨k162, ⟨k163, trivial⟩⟩⟩⟩⟩⟩⟩⟩⟩⟩⟩⟩⟩⟩⟩⟩⟩⟩⟩⟩⟩⟩⟩⟩⟩⟩⟩⟩⟩⟩⟩⟩⟩⟩⟩⟩⟩⟩⟩⟩⟩⟩⟩⟩⟩⟩⟩⟩⟩⟩⟩⟩⟩⟩⟩
theorem allc : AllC tb.cls := ⟨ck0, ⟨ck1, ⟨ck3, ⟨ck4, ⟨ck6, ⟨ck8, ⟨ck13, trivial⟩⟩⟩⟩⟩⟩⟩
theorem tb_P : tb.P = P := Tb.P_eq rfl rfl
end KL
open PySem PySem.W PySem.Calls PyProof.Rows in
theorem KL.holds (hlaw : ∀ ns : List Int, ns.length ≤ 63 → ∃ M, RC.callF KL.tb.P 40 163 [.lst (ns.map .int)] [] = .ok (.bl true) M) : PySem.Challenge.rw_ringleast_k66_whole_rule_of_change.Holds := by
  w_on; o_law
  refine HandSHeadRun.head_any (r := OpenLaw.row PySem.Challenge.rw_ringleast_k66_whole_rule_of_change) (q := view (OpenLaw.row PySem.Challenge.rw_ringleast_k66_whole_rule_of_change).prog [74]) (H := KL.hk) (ob := KL.ob) (M := 8000) (loose := KL.loose) (d := HandSHeadRun.topDef (OpenLaw.row PySem.Challenge.rw_ringleast_k66_whole_rule_of_change).prog 74) (kwd := []) KL.ob_eq
    (by kernel_rfl) (fun s => by kernel_rfl) KL.run (by kernel_rfl) (by kernel_rfl) (by kernel_rfl) (by rfl) (by first | assumption | decide +kernel) (by decide +kernel) ⟨rfl, rfl, rfl, rfl, rfl, by decide +kernel⟩ ?hw ?hc
  case hw => w_witness2
  case hc => exact RC.law_walk (n := 63) (k := 40) (flaw := 163) (t := KL.tb) rfl (by decide) (by kernel_rfl) KL.all KL.allc ⟨rfl, by decide, by decide⟩ (by kernel_rfl) hlaw
theorem PySem.Challenge.cw_ringleast_k66_whole_rule_of_change_holds : PySem.Challenge.rw_ringleast_k66_whole_rule_of_change.Holds :=
  KL.holds fun ns _ => by rw [KL.tb_P]; exact RC.law66 ns
