import PyProof.Rows.All
import HandS.ForMost
import HandS.ForExc
import HandS.Wide
import HandS.Gcd
import HandS.Defaults
import HandS.IsInst
import HandS.TupAny
import HandS.Codes
import HandS.Text
import KE.KBits
import HandS.TupLe
import HandS.TupLen
import KE.KTupSum
import HandS.Small
import HandS.RaiseMore
import HandS.HotCalls
import HandS.Walk
import HandS.ExcField
import KE.KExcIs
import HandS.ExcInit
import HandS.ClsMeth
import HandS.ExcInitHot
import KE.KExcSuper
import HandS.StrMore
import HandS.Replace
import PyProof.ReprLen
import PyProof.ReprRoads
import KE.KStateDown
import HandS.Ends
import HandS.More
import HandS.Head0
import HandS.Head1
import HandS.Head2
import HandS.HeadEnd
import HandS.HeadHook1
import HandS.HeadHook2
import PyProof.Rows.RegStrFacts
import HandS.Head3
import HandS.Words
import HandS.WordsExc
import PySem.Challenge.RW_linefactor_k85_words
set_option Elab.async false
section
set_option autoImplicit false
set_option linter.all false
/-! Layer A: a small language with slots, its values as trees (a list is owned by one slot, or frozen), its evaluator. Plain Lean. -/
namespace PL

abbrev Txt := List Nat

inductive PV where
  | non
  | bl (b : Bool)
  | int (i : Int)
  | str (s : Txt)
  | tup (w : Bool) (l : List PV)
  | fls (l : List PV)
  | fdc (t : Bool) (ks vs : List PV)
  | exc (c f : Txt) (v : PV)
  | sls (l : List Int)
  deriving Inhabited

inductive MV where
  | p (v : PV)
  | l (xs : List MV)
  | d (t : Bool) (ks vs : List PV)
  deriving Inhabited

def LIM : Nat := 16777216

/-! ### values -/
mutual
def eqv : PV → PV → Bool
  | .non, .non => true
  | .bl a, .bl b => a == b
  | .int a, .int b => decide (a = b)
  | .bl a, .int b => decide ((if a then (1 : Int) else 0) = b)
  | .int a, .bl b => decide (a = (if b then (1 : Int) else 0))
  | .str a, .str b => decide (a = b)
  | .tup _ a, .tup _ b => eqvL a b
  | .fls a, .fls b => eqvL a b
  | _, _ => false
def eqvL : List PV → List PV → Bool
  | [], [] => true
  | x :: xs, y :: ys => eqv x y && eqvL xs ys
  | _, _ => false
end
/-! the same value, to the sorts of its parts -/
mutual
def same : PV → PV → Bool
  | .non, .non => true
  | .bl a, .bl b => a == b
  | .int a, .int b => decide (a = b)
  | .str a, .str b => decide (a = b)
  | .tup _ a, .tup _ b => sameL a b
  | .fls a, .fls b => sameL a b
  | _, _ => false
def sameL : List PV → List PV → Bool
  | [], [] => true
  | x :: xs, y :: ys => same x y && sameL xs ys
  | _, _ => false
end
/-! plain data: it may be compared -/
mutual
def okData : PV → Bool
  | .non => true
  | .bl _ => true
  | .int _ => true
  | .str s => s.all fun c => decide (c < 1114112)
  | .tup _ l => okDataL l
  | .fls l => okDataL l
  | _ => false
def okDataL : List PV → Bool
  | [] => true
  | x :: xs => okData x && okDataL xs
end
mutual
def dep : PV → Nat
  | .tup _ l => depL l + 1
  | .fls l => depL l + 1
  | _ => 0
def depL : List PV → Nat
  | [] => 0
  | x :: xs => max (dep x) (depL xs)
end
/-! what repr shows of it: its numbers are not too long; a bound of the length -/
mutual
def shw : PV → Bool
  | .int i => decide (i.natAbs.log2 < 1920)
  | .tup _ l => shwL l
  | .fls l => shwL l
  | _ => true
def shwL : List PV → Bool
  | [] => true
  | x :: xs => shw x && shwL xs
end
mutual
def cst : PV → Nat
  | .str s => 10 * s.length + 2
  | .int _ => 1921
  | .tup _ l => cstL l + 3
  | .fls l => cstL l + 3
  | _ => 5
def cstL : List PV → Nat
  | [] => 0
  | x :: xs => cst x + 2 + cstL xs
end
def isData (v : PV) : Bool := okData v && decide (dep v ≤ 64)
def isDataL (l : List PV) : Bool := okDataL l && decide (depL l ≤ 63)
mutual
def frz : MV → PV
  | .p v => v
  | .l xs => .fls (frzL xs)
  | .d t ks vs => .fdc t ks vs
def frzL : List MV → List PV
  | [] => []
  | x :: xs => frz x :: frzL xs
end
/-- the items, if all are frozen -/
def unpL : List MV → Option (List PV)
  | [] => some []
  | .p v :: r => match unpL r with
    | some vs => some (v :: vs)
    | none => none
  | _ :: _ => none
def seqP : PV → Option (List PV)
  | .tup _ l => some l
  | .fls l => some l
  | .str s => some (s.map fun c => .str [c])
  | _ => none
/-- a list's or tuple's items, frozen -/
def seqV : MV → Option (List PV)
  | .p (.tup _ l) => some l
  | .p (.fls l) => some l
  | .l xs => unpL xs
  | _ => none
/-- a list's items, frozen -/
def lstV : MV → Option (List PV)
  | .p (.fls l) => some l
  | .l xs => unpL xs
  | _ => none
def truF : MV → Option Bool
  | .p .non => some false
  | .p (.bl b) => some b
  | .p (.int i) => some (i != 0)
  | .p (.str s) => if s.length ≤ LIM then some (!s.isEmpty) else none
  | .p (.tup _ l) => some (!l.isEmpty)
  | .p (.fls l) => some (!l.isEmpty)
  | .l xs => some (!xs.isEmpty)
  | .d false ks _ => some (!ks.isEmpty)
  | _ => none
def isFlatK : PV → Bool
  | .int _ => true
  | .str _ => true
  | _ => false
/-- a key of a dict: an int, a text, a tuple of such -/
def isKey : PV → Bool
  | .int _ => true
  | .str _ => true
  | .tup false l => l.all isFlatK
  | _ => false
def isTupK : PV → Bool
  | .tup _ _ => true
  | _ => false
/-- all keys of one sort -/
def sameSort (t : Bool) (k : PV) : Bool := isKey k && (isTupK k == t)
def dget : List PV → List PV → PV → Option PV
  | k :: ks, v :: vs, x => if eqv k x then some v else dget ks vs x
  | _, _, _ => none
def dput : List PV → List PV → PV → PV → List PV × List PV
  | k :: ks, v :: vs, x, y => if eqv k x then (k :: ks, y :: vs) else let r := dput ks vs x y; (k :: r.1, v :: r.2)
  | _, _, x, y => ([x], [y])
/-- the place of an index, from the end if it is negative -/
def ixN (n : Nat) (i : Int) : Option Nat := if 0 ≤ i then (if i < n then some i.toNat else none) else (if 0 ≤ i + n then some (i + n).toNat else none)
def sIx (n d : Nat) : Option Int → Nat
  | none => d
  | some v => if v < 0 then (v + (n : Int)).toNat else min v.toNat n
def cutL {α : Type} (l : List α) (lo hi : Option Int) : List α := (l.drop (sIx l.length 0 lo)).take (sIx l.length l.length hi - sIx l.length 0 lo)

/-! ### texts -/
def splitC (c : Nat) : Txt → List Txt
  | [] => [[]]
  | x :: r => if x = c then [] :: splitC c r else match splitC c r with
    | [] => [[x]]
    | w :: ws => (x :: w) :: ws
def partC (c : Nat) : Txt → Option (Txt × Txt)
  | [] => none
  | x :: r => if x = c then some ([], r) else match partC c r with
    | some (a, b) => some (x :: a, b)
    | none => none
def joinT (s : Txt) : List Txt → Txt
  | [] => []
  | [x] => x
  | x :: r => x ++ s ++ joinT s r
def strsOf : List PV → Option (List Txt)
  | [] => some []
  | .str s :: r => match strsOf r with
    | some l => some (s :: l)
    | none => none
  | _ :: _ => none
def intsOf : List PV → Option (List Int)
  | [] => some []
  | .int i :: r => match intsOf r with
    | some l => some (i :: l)
    | none => none
  | _ :: _ => none
def blsOf : List PV → Option (List Bool)
  | [] => some []
  | .bl i :: r => match blsOf r with
    | some l => some (i :: l)
    | none => none
  | _ :: _ => none
def natTxt (n : Nat) : Txt := (Nat.toDigits 10 n).map Char.toNat
def intTxt (i : Int) : Txt := if i < 0 then 45 :: natTxt i.natAbs else natTxt i.natAbs
def isDig (c : Nat) : Bool := decide (48 ≤ c) && decide (c ≤ 57)
def valT (s : Txt) : Nat := s.foldl (fun a c => a * 10 + (c - 48)) 0
def idxC (c : Nat) : Txt → Option Nat
  | [] => none
  | x :: r => if x = c then some 0 else match idxC c r with
    | some n => some (n + 1)
    | none => none
def idxV (v : PV) : List PV → Option Nat
  | [] => none
  | x :: r => if eqv x v then some 0 else match idxV v r with
    | some n => some (n + 1)
    | none => none
def zfill (s : Txt) (n : Nat) : Txt := List.replicate (n - s.length) 48 ++ s

/-! ### operators by values -/
inductive BOp where
  | add | sub | mul | smul | fdiv | mod | pow | shl | shr | band | bor
  deriving DecidableEq
inductive COp where
  | eq | ne | lt | le | gt | ge | isIn | notIn | is | isNot
  deriving DecidableEq
def binF : BOp → MV → MV → Option MV
  | .add, .p (.int a), .p (.int b) => some (.p (.int (a + b)))
  | .add, .p (.str a), .p (.str b) => if a.length + b.length ≤ LIM then some (.p (.str (a ++ b))) else none
  | .add, .p (.tup false a), .p (.tup false b) => if a.length + b.length ≤ LIM then some (.p (.tup false (a ++ b))) else none
  | .add, a, b => match lstV a, lstV b with
    | some x, some y => if x.length + y.length ≤ LIM then some (.l ((x ++ y).map .p)) else none
    | _, _ => none
  | .sub, .p (.int a), .p (.int b) => some (.p (.int (a - b)))
  | .mul, .p (.int a), .p (.int b) => if a.natAbs.log2 + b.natAbs.log2 < 1000000 then some (.p (.int (a * b))) else none
  | .smul, .p (.str a), .p (.int b) => if a.length * b.toNat ≤ LIM ∧ -(2 ^ 63) ≤ b ∧ b < 2 ^ 63 then some (.p (.str (List.replicate b.toNat a).flatten)) else none
  | .fdiv, .p (.int a), .p (.int b) => if 0 < b ∧ b.natAbs.log2 < 9000 then some (.p (.int (a / b))) else none
  | .mod, .p (.int a), .p (.int b) => if 0 < b then some (.p (.int (a % b))) else none
  | .pow, .p (.int a), .p (.int b) => if 0 ≤ b ∧ b ≤ 1000000 ∧ a.natAbs < 2 ^ 64 then some (.p (.int (a ^ b.toNat))) else none
  | .shl, .p (.int a), .p (.int b) => if 0 ≤ b ∧ b ≤ 1000000 ∧ a.natAbs < 2 ^ 64 then some (.p (.int (a * 2 ^ b.toNat))) else none
  | .shr, .p (.int a), .p (.int b) => if 0 ≤ b then some (.p (.int (a / 2 ^ b.toNat))) else none
  | .band, .p (.int a), .p (.int b) => if 0 ≤ a ∧ 0 ≤ b then some (.p (.int ((a.toNat &&& b.toNat : Nat) : Int))) else none
  | .bor, .p (.int a), .p (.int b) => if 0 ≤ a ∧ 0 ≤ b then some (.p (.int ((a.toNat ||| b.toNat : Nat) : Int))) else none
  | _, _, _ => none
/-- lists of ints in order -/
def lexLt : List Int → List Int → Bool
  | [], [] => false
  | [], _ :: _ => true
  | _ :: _, [] => false
  | x :: xs, y :: ys => if x = y then lexLt xs ys else decide (x < y)
def isFlat : PV → Bool
  | .non => true
  | .bl _ => true
  | .int _ => true
  | .str _ => true
  | _ => false
def memF (v : PV) : MV → Option Bool
  | .d t ks _ => if sameSort t v then some (ks.any fun k => eqv k v) else none
  | .p (.fdc t ks _) => if sameSort t v then some (ks.any fun k => eqv k v) else none
  | .p (.str s) => match v with
    | .str [c] => some (s.contains c)
    | _ => none
  | m => match seqV m with
    | some l => if isFlat v && l.all isFlat then some (l.any fun k => eqv k v) else none
    | none => none
def isNonP : PV → Bool
  | .non => true
  | _ => false
def cmpF : COp → MV → MV → Option Bool
  | .eq, a, b => if isData (frz a) && isData (frz b) then some (eqv (frz a) (frz b)) else none
  | .ne, a, b => if isData (frz a) && isData (frz b) then some (!eqv (frz a) (frz b)) else none
  | .lt, .p (.int a), .p (.int b) => some (decide (a < b))
  | .le, .p (.int a), .p (.int b) => some (decide (a ≤ b))
  | .gt, .p (.int a), .p (.int b) => some (decide (b < a))
  | .ge, .p (.int a), .p (.int b) => some (decide (b ≤ a))
  | .lt, .p (.tup _ a), .p (.tup _ b) => match intsOf a, intsOf b with
    | some x, some y => some (lexLt x y)
    | _, _ => none
  | .isIn, .p a, b => memF a b
  | .notIn, .p a, b => match memF a b with
    | some c => some (!c)
    | none => none
  | .is, .p a, .p .non => some (isNonP a)
  | .is, .l _, .p .non => some false
  | .is, .p (.bl a), .p (.bl b) => some (a == b)
  | .isNot, .p a, .p .non => some (!isNonP a)
  | .isNot, .l _, .p .non => some true
  | .isNot, .p (.bl a), .p (.bl b) => some (!(a == b))
  | _, _, _ => none

inductive Blt where
  | len | abs | min2 | max2 | int1 | str1 | tuple1 | list1 | sum1 | all1 | any1 | sorted1 | max1 | min1 | gcd | repr1
  deriving DecidableEq
inductive Cls where
  | int | bool | str | tuple | list | own (c : Txt)
  deriving DecidableEq
inductive Mth where
  | split | join | partition | zfill | get2 | index | count
  deriving DecidableEq
inductive Mut where
  | append | extend | insert | pop | popAt | reverse | remove
  deriving DecidableEq

def insI (x : Int) : List Int → List Int
  | [] => [x]
  | y :: r => if x ≤ y then x :: y :: r else y :: insI x r
def sortI : List Int → List Int
  | [] => []
  | x :: r => insI x (sortI r)
def insT (x : List Int) : List (List Int) → List (List Int)
  | [] => [x]
  | y :: r => if lexLt y x then y :: insT x r else x :: y :: r
def sortT : List (List Int) → List (List Int)
  | [] => []
  | x :: r => insT x (sortT r)
def tupsOf : List PV → Option (List (List Int))
  | [] => some []
  | .tup _ t :: r => match intsOf t, tupsOf r with
    | some x, some l => some (x :: l)
    | _, _ => none
  | _ :: _ => none
def maxI : Int → List Int → Int
  | m, [] => m
  | m, x :: r => maxI (if m < x then x else m) r
def minI : Int → List Int → Int
  | m, [] => m
  | m, x :: r => minI (if x < m then x else m) r
def lenF : MV → Option Nat
  | .p (.str s) => if s.length ≤ LIM then some s.length else none
  | .p (.tup _ l) => some l.length
  | .p (.fls l) => some l.length
  | .p (.fdc _ ks _) => some ks.length
  | .l xs => some xs.length
  | .d _ ks _ => some ks.length
  | _ => none
def bltF : Blt → List MV → Option MV
  | .len, [x] => match lenF x with
    | some n => some (.p (.int (n : Int)))
    | none => none
  | .abs, [.p (.int i)] => some (.p (.int (if i < 0 then -i else i)))
  | .min2, [.p (.int i), .p (.int j)] => some (.p (.int (if j < i then j else i)))
  | .max2, [.p (.int i), .p (.int j)] => some (.p (.int (if j > i then j else i)))
  | .gcd, [.p (.int i), .p (.int j)] => some (.p (.int ((Nat.gcd i.natAbs j.natAbs : Nat) : Int)))
  | .int1, [.p (.int i)] => some (.p (.int i))
  | .int1, [.p (.bl b)] => some (.p (.int (if b then 1 else 0)))
  | .int1, [.p (.str s)] => if s.all isDig && !s.isEmpty && decide (s.length ≤ 640) then some (.p (.int (valT s : Nat))) else none
  | .str1, [.p (.int i)] => if i.natAbs.log2 < 1920 then some (.p (.str (intTxt i))) else none
  | .str1, [.p (.str s)] => some (.p (.str s))
  | .tuple1, [.p (.tup w l)] => some (.p (.tup w l))
  | .tuple1, [x] => match lstV x with
    | some l => some (.p (.tup false l))
    | none => none
  | .list1, [x] => match seqV x with
    | some l => some (.l (l.map .p))
    | none => none
  | .sum1, [x] => match seqV x with
    | some l => match intsOf l with
      | some z => some (.p (.int z.sum))
      | none => none
    | none => none
  | .all1, [x] => match lstV x with
    | some l => match blsOf l with
      | some z => some (.p (.bl (z.all id)))
      | none => none
    | none => none
  | .any1, [x] => match lstV x with
    | some l => match blsOf l with
      | some z => some (.p (.bl (z.any id)))
      | none => none
    | none => none
  | .sorted1, [x] => match seqV x with
    | some l => match intsOf l with
      | some z => some (.l ((sortI z).map fun i => .p (.int i)))
      | none => match tupsOf l with
        | some z => some (.l ((sortT z).map fun t => .p (.tup false (t.map .int))))
        | none => none
    | none => none
  | .max1, [x] => match lstV x with
    | some l => match intsOf l with
      | some (z :: zs) => some (.p (.int (maxI z zs)))
      | _ => none
    | none => none
  | .min1, [x] => match lstV x with
    | some l => match intsOf l with
      | some (z :: zs) => some (.p (.int (minI z zs)))
      | _ => none
    | none => none
  | _, _ => none
/-- the classes above a class of the program's own -/
def isSub (par : List (Txt × Txt)) : Nat → Txt → Txt → Bool
  | 0, c, d => decide (c = d)
  | n + 1, c, d => decide (c = d) || match par.lookup c with
    | some b => isSub par n b d
    | none => false
inductive Tg where
  | non | bl | int | str | tup | lst
def tagOf : MV → Option Tg
  | .p .non => some .non
  | .p (.bl _) => some .bl
  | .p (.int _) => some .int
  | .p (.str _) => some .str
  | .p (.tup _ _) => some .tup
  | .p (.fls _) => some .lst
  | .p (.sls _) => some .lst
  | .l _ => some .lst
  | _ => none
def tagIs : Tg → Cls → Option Bool
  | .int, .int => some true
  | .bl, .int => some true
  | .bl, .bool => some true
  | .str, .str => some true
  | .tup, .tuple => some true
  | .lst, .list => some true
  | _, .own _ => none
  | _, _ => some false
def isaF (par : List (Txt × Txt)) : MV → Cls → Option Bool
  | .p (.exc c _ _), .own d => some (isSub par 8 c d)
  | v, c => match tagOf v with
    | some t => tagIs t c
    | none => none
def isasF (par : List (Txt × Txt)) (v : MV) : List Cls → Option Bool
  | [] => some false
  | c :: r => match isaF par v c, isasF par v r with
    | some a, some b => some (a || b)
    | _, _ => none
def metF : Mth → MV → List MV → Option MV
  | .split, .p (.str s), [.p (.str [c])] => if s.length + 2 ≤ LIM then some (.l ((splitC c s).map fun w => .p (.str w))) else none
  | .partition, .p (.str s), [.p (.str [c])] => if s.length ≤ LIM then match partC c s with
      | some (a, b) => some (.p (.tup false [.str a, .str [c], .str b]))
      | none => some (.p (.tup false [.str s, .str [], .str []]))
    else none
  | .join, .p (.str s), [x] => match seqV x with
    | some l => match strsOf l with
      | some z => if (z.map (·.length)).sum + z.length * s.length ≤ LIM then some (.p (.str (joinT s z))) else none
      | none => none
    | none => none
  | .zfill, .p (.str s), [.p (.int n)] => if s.all isDig && decide (0 ≤ n) && decide (n ≤ 1000) then some (.p (.str (zfill s n.toNat))) else none
  | .index, .p (.str s), [.p (.str [c])] => match idxC c s with
    | some n => some (.p (.int (n : Int)))
    | none => none
  | .index, x, [.p v] => match lstV x with
    | some l => if isData v && isDataL l then match idxV v l with
        | some n => some (.p (.int (n : Int)))
        | none => none
      else none
    | none => none
  | .get2, .d t ks vs, [.p k, .p z] => if sameSort t k then match dget ks vs k with
      | some v => some (.p v)
      | none => some (.p z)
    else none
  | .count, x, [.p v] => match seqV x with
    | some l => if isData v && isDataL l then some (.p (.int ((l.countP fun z => eqv z v : Nat) : Int))) else none
    | none => none
  | _, _, _ => none
/-- a list changed: (what is handed back, the items behind) -/
def mutF : Mut → List MV → List MV → Option (MV × List MV)
  | .append, xs, [v] => if xs.length < LIM then some (.p .non, xs ++ [v]) else none
  | .extend, xs, [v] => match lstV v with
    | some l => if xs.length + l.length ≤ LIM then some (.p .non, xs ++ l.map .p) else none
    | none => none
  | .insert, xs, [.p (.int i), v] => if xs.length < LIM ∧ 0 ≤ i ∧ i ≤ xs.length then some (.p .non, xs.take i.toNat ++ v :: xs.drop i.toNat) else none
  | .pop, xs, [] => match xs.getLast? with
    | some v => some (v, xs.dropLast)
    | none => none
  | .popAt, xs, [.p (.int i)] => match ixN xs.length i with
    | some k => match xs[k]? with
      | some v => some (v, xs.eraseIdx k)
      | none => none
    | none => none
  | .reverse, xs, [] => some (.p .non, xs.reverse)
  | _, _, _ => none

/-! ### the language -/
inductive Tgt where
  | nm (i : Nat)
  | tp (is : List Nat)
mutual
inductive IE where
  | var (i : Nat)
  | con (v : PV)
  | glo (x : Txt) (v : PV)
  | bin (o : BOp) (a b : IE)
  | neg (a : IE)
  | cmp (o : COp) (a b : IE)
  | chn (o o' : COp) (a b c : IE)
  | andv (a b : IE)
  | orv (a b : IE)
  | notv (a : IE)
  | ife (t : IT) (a b : IE)
  | call (f : Nat) (es : IEs)
  | blt (b : Blt) (es : IEs)
  | isa (a : IE) (cs : List Cls)
  | met (m : Mth) (a : IE) (es : IEs)
  | mut (m : Mut) (i : Nat) (es : IEs)
  | mut2 (m : Mut) (i : Nat) (k : IE) (es : IEs)
  | req (a b : IE)
  | ix (a i : IE)
  | ix2 (v : Nat) (i j : IE)
  | slc (a : IE) (lo hi : IE)
  | tup (es : IEs)
  | lst (es : IEs)
  | dct (t : Bool)
  | dct1 (a b : IE)
  | comp (own : List Nat) (tg : Tgt) (it : II) (tt : IT) (elt : IE)
  | atr (a : IE) (f : Txt)
inductive IEs where
  | nil
  | cons (e : IE) (r : IEs)
inductive IT where
  | tt
  | tv (e : IE)
  | tn (t : IT)
  | ta (t u : IT)
  | to (t u : IT)
inductive II where
  | val (e : IE)
  | mv (i : Nat)
  | rng1 (a : IE)
  | rng2 (a b : IE)
  | rng3 (a b c : IE)
  | zip (a b : IE)
  | rev (e : IE)
end
mutual
inductive IS where
  | set (i : Nat) (e : IE)
  | unp (is : List Nat) (e : IE)
  | par (i j : Nat) (a b : IE)
  | six (i : Nat) (k e : IE)
  | six2 (i : Nat) (j k e : IE)
  | exp (e : IE)
  | ret (e : IE)
  | rtv (i : Nat)
  | ret0
  | ife (t : IT) (a b : ISs)
  | fo (tg : Tgt) (it : II) (body : ISs)
  | wh (t : IT) (body : ISs)
  | pas
  | cnt
  | brk
  | rai (c f : Txt) (es : IEs)
  | try (body : ISs) (c : Txt) (slot : Option Nat) (h : ISs)
  | dead
inductive ISs where
  | nil
  | cons (s : IS) (r : ISs)
end

/-! ### the evaluator -/
abbrev Env := List (Option MV)
inductive Res (α : Type) where
  | ok (a : α) (ε : Env)
  | ex (e : PV) (ε : Env)
  | bad
def Res.bind {α β : Type} (r : Res α) (f : α → Env → Res β) : Res β := match r with
  | .ok a ε => f a ε
  | .ex e ε => .ex e ε
  | .bad => .bad
/-- no error leaves -/
def Res.noex {α : Type} (r : Res α) : Res α := match r with
  | .ex _ _ => .bad
  | r => r
def Res.opt {α : Type} (o : Option α) (ε : Env) : Res α := match o with
  | some a => .ok a ε
  | none => .bad
/-- what a call gives: the value and what the arguments' lists are now -/
inductive CRes where
  | ok (v : MV) (back : List (Option MV))
  | ex (e : PV)
  | bad
structure Ctx where
  call : Nat → List MV → CRes
  fuel : Nat
  lock : List Nat
  par : List (Txt × Txt)
def Env.at (ε : Env) (i : Nat) : Option MV := match ε[i]? with
  | some o => o
  | none => none
/-- an operand: a slot's own value, looked at when the operation is done; a new value -/
inductive Opd where
  | sl (i : Nat)
  | tm (v : MV)
def Opd.get (ε : Env) : Opd → Option MV
  | .sl i => ε.at i
  | .tm v => some v
def gets (ε : Env) : List Opd → Option (List MV)
  | [] => some []
  | o :: r => match o.get ε, gets ε r with
    | some v, some vs => some (v :: vs)
    | _, _ => none
def isP : MV → Bool
  | .p _ => true
  | _ => false
def pvs : List MV → List PV := frzL
/-- the value of a slot, as a value: an own list is frozen -/
def readV (ε : Env) (i : Nat) : Res MV := match ε.at i with
  | some (.p v) => .ok (.p v) ε
  | some m => .ok (.p (frz m)) (ε.set i (some (.p (frz m))))
  | none => .bad
/-- item i of a list or tuple that is frozen, of a text, of a dict -/
def ixF : MV → MV → Option MV
  | .p (.str s), .p (.int i) => if s.length ≤ LIM then match ixN s.length i with
      | some k => match s[k]? with
        | some c => some (.p (.str [c]))
        | none => none
      | none => none
    else none
  | .p (.tup _ l), .p (.int i) => match ixN l.length i with
    | some k => (l[k]?).map .p
    | none => none
  | .p (.fls l), .p (.int i) => match ixN l.length i with
    | some k => (l[k]?).map .p
    | none => none
  | .l xs, .p (.int i) => match ixN xs.length i with
    | some k => match xs[k]? with
      | some (.p v) => some (.p v)
      | some m => some (.p (frz m))
      | none => none
    | none => none
  | .d t ks vs, .p k => if sameSort t k then (dget ks vs k).map .p else none
  | .p (.fdc t ks vs), .p k => if sameSort t k then (dget ks vs k).map .p else none
  | _, _ => none
/-- an item that is an own list is frozen where it stands -/
def ixFrz (ε : Env) : Opd → MV → MV → Env
  | .sl i, .l xs, .p (.int j) => match ixN xs.length j with
    | some k => match xs[k]? with
      | some (.p _) => ε
      | some m => ε.set i (some (.l (xs.set k (.p (frz m)))))
      | none => ε
    | none => ε
  | _, _, _ => ε
/-- the item is no own list -/
def ixO : MV → MV → Bool
  | .l xs, .p (.int i) => match ixN xs.length i with
    | some k => match xs[k]? with
      | some m => isP m
      | none => true
    | none => true
  | _, _ => true
def slF : MV → Option Int → Option Int → Option MV
  | .p (.str s), lo, hi => if s.length ≤ LIM then some (.p (.str (cutL s lo hi))) else none
  | .p (.tup false l), lo, hi => some (.p (.tup false (cutL l lo hi)))
  | .p (.fls l), lo, hi => some (.l ((cutL l lo hi).map .p))
  | .p (.sls l), lo, hi => some (.l ((cutL l lo hi).map fun i => .p (.int i)))
  | .l xs, lo, hi => match unpL xs with
    | some l => some (.l ((cutL l lo hi).map .p))
    | none => none
  | _, _, _ => none
/-- a slice's part is left out -/
def nonE : IE → Bool
  | .con .non => true
  | _ => false
def optI (b : Bool) : MV → Option (Option Int)
  | .p (.int i) => some (some i)
  | .p .non => if b then some none else none
  | _ => none
/-- a value into a target's slots; a slot of the caller's list is not stored to -/
def putS (lock : List Nat) (ε : Env) (i : Nat) (v : MV) : Option Env := if lock.contains i || !(decide (i < ε.length)) then none else some (ε.set i (some v))
def putSs (lock : List Nat) : Env → List Nat → List PV → Option Env
  | ε, [], [] => some ε
  | ε, i :: is, v :: vs => match putS lock ε i (.p v) with
    | some ε' => putSs lock ε' is vs
    | none => none
  | _, _, _ => none
def putT (lock : List Nat) (ε : Env) : Tgt → PV → Option Env
  | .nm i, v => putS lock ε i (.p v)
  | .tp is, .tup _ l => putSs lock ε is l
  | _, _ => none
/-- what a loop walks: the items, the slot whose list is lent, and that list -/
structure Walk where
  items : List PV
  lent : Option (Nat × MV)
def giveBack (ε : Env) : Option (Nat × MV) → Env
  | some (i, m) => ε.set i (some m)
  | none => ε
def rngL (a : Int) (n : Nat) (c : Int) : List PV := (List.range n).map fun (i : Nat) => .int (a + (i : Int) * c)
def rngN (a b c : Int) : Nat := if 0 < c then (if a < b then ((b - a - 1) / c).toNat + 1 else 0) else (if b < a then ((a - b - 1) / (-c)).toNat + 1 else 0)
def small62 (a : Int) : Bool := decide (-(2 ^ 62) ≤ a) && decide (a < 2 ^ 62)
def zipP : List PV → List PV → List PV
  | x :: xs, y :: ys => .tup false [x, y] :: zipP xs ys
  | _, _ => []
/-- the list's loop: a turn gives what is added, if anything -/
def compL (step : PV → Env → Res (Option MV)) : List PV → Env → Res (List MV)
  | [], ε => .ok [] ε
  | x :: r, ε => (step x ε).bind fun o ε1 => (compL step r ε1).bind fun l ε2 => .ok (match o with
    | some m => m :: l
    | none => l) ε2
def wipeE (ε : Env) : List Nat → Env
  | [] => ε
  | i :: is => (wipeE ε is).set i none
/-- the slots of a block's own names as they were -/
def noOwn (ε : Env) (own : List Nat) : Bool := own.all fun i => match ε.at i with
  | none => true
  | some (.p _) => true
  | _ => false
def restE (ε0 ε : Env) : List Nat → Env
  | [] => ε
  | i :: is => (restE ε0 ε is).set i (ε0.at i)
/-- the arguments that are slots with own lists are lent: the callee's, and what stays -/
def lend (ε : Env) : List Opd → Option (List MV × Env)
  | [] => some ([], ε)
  | .tm v :: r => match lend ε r with
    | some (vs, ε') => some (v :: vs, ε')
    | none => none
  | .sl i :: r => match ε.at i with
    | some (.p v) => match lend ε r with
      | some (vs, ε') => some (.p v :: vs, ε')
      | none => none
    | some m => match lend (ε.set i none) r with
      | some (vs, ε') => some (m :: vs, ε')
      | none => none
    | none => none
/-- behind the call -/
def unlend (ε0 : Env) : List Opd → List (Option MV) → Env → Env
  | .sl i :: r, b :: bs, ε => match ε0.at i with
    | some (.p _) => unlend ε0 r bs ε
    | _ => unlend (ε0.set i none) r bs (ε.set i b)
  | .tm _ :: r, _ :: bs, ε => unlend ε0 r bs ε
  | _, _, ε => ε

mutual
def ev (C : Ctx) : IE → Env → Res MV
  | .var i, ε => readV ε i
  | .con v, ε => .ok (.p v) ε
  | .glo _ v, ε => .ok (.p v) ε
  | .bin o a b, ε => (opd C a ε).bind fun x ε1 => (opd C b ε1).bind fun y ε2 => match x.get ε2, y.get ε2 with
    | some u, some v => .opt (binF o u v) ε2
    | _, _ => .bad
  | .neg a, ε => (ev C a ε).bind fun x ε1 => match x with
    | .p (.int i) => .ok (.p (.int (-i))) ε1
    | _ => .bad
  | .cmp o a b, ε => (opd C a ε).bind fun x ε1 => (opd C b ε1).bind fun y ε2 => match x.get ε2, y.get ε2 with
    | some u, some v => match cmpF o u v with
      | some c => .ok (.p (.bl c)) ε2
      | none => .bad
    | _, _ => .bad
  | .chn o o' a b c, ε => (opd C a ε).bind fun x ε1 => (opd C b ε1).bind fun y ε2 => match x.get ε2, y.get ε2 with
    | some u, some v => match cmpF o u v with
      | some true => (opd C c ε2).bind fun z ε3 => match y.get ε3, z.get ε3 with
        | some v', some w => match cmpF o' v' w with
          | some c => .ok (.p (.bl c)) ε3
          | none => .bad
        | _, _ => .bad
      | some false => .ok (.p (.bl false)) ε2
      | none => .bad
    | _, _ => .bad
  | .andv a b, ε => (ev C a ε).bind fun x ε1 => match x with
    | .p (.bl true) => ev C b ε1
    | .p (.bl false) => .ok (.p (.bl false)) ε1
    | _ => .bad
  | .orv a b, ε => (ev C a ε).bind fun x ε1 => match x with
    | .p (.bl true) => .ok (.p (.bl true)) ε1
    | .p (.bl false) => ev C b ε1
    | _ => .bad
  | .notv a, ε => (ev C a ε).bind fun x ε1 => match x with
    | .p (.bl b) => .ok (.p (.bl (!b))) ε1
    | _ => .bad
  | .ife t a b, ε => (evT C t ε).bind fun c ε1 => match c with
    | true => ev C a ε1
    | false => ev C b ε1
  | .call f es, ε => (opds C es ε).bind fun os ε1 => match lend ε1 os with
    | some (vs, ε2) => match C.call f vs with
      | .ok v back => .ok v (unlend ε1 os back ε2)
      | .ex e => .ex e ε2
      | .bad => .bad
    | none => .bad
  | .blt b es, ε => (opds C es ε).bind fun os ε1 => match gets ε1 os with
    | some vs => .opt (bltF b vs) ε1
    | none => .bad
  | .isa a cs, ε => (opd C a ε).bind fun x ε1 => match x.get ε1 with
    | some u => match isasF C.par u cs with
      | some b => .ok (.p (.bl b)) ε1
      | none => .bad
    | none => .bad
  | .met m a es, ε => (opd C a ε).bind fun x ε1 => (opds C es ε1).bind fun os ε2 => match x.get ε2, gets ε2 os with
    | some u, some vs => .opt (metF m u vs) ε2
    | _, _ => .bad
  | .mut m i es, ε => match ε.at i with
    | some (.l _) => (evs C es ε).bind fun vs ε1 => match ε1.at i with
      | some (.l xs) => match mutF m xs vs with
        | some (r, xs') => .ok r (ε1.set i (some (.l xs')))
        | none => .bad
      | _ => .bad
    | _ => .bad
  | .mut2 m i k es, ε => (ev C k ε).bind fun j ε0 => (evs C es ε0).bind fun vs ε1 => match ε1.at i, j with
    | some (.l xs), .p (.int j) => match ixN xs.length j with
      | some k => match xs[k]? with
        | some (.l ys) => match mutF m ys vs with
          | some (r, ys') => .ok r (ε1.set i (some (.l (xs.set k (.l ys')))))
          | none => .bad
        | _ => .bad
      | none => .bad
    | _, _ => .bad
  | .ix a i, ε => (opd C a ε).bind fun x ε1 => (ev C i ε1).bind fun k ε2 => match x.get ε2 with
    | some u => match ixF u k with
      | some v => .ok v (ixFrz ε2 x u k)
      | none => .bad
    | none => .bad
  | .ix2 v i j, ε => match ε.at v with
    | none => .bad
    | some _ => (ev C i ε).bind fun a ε1 => (ev C j ε1).bind fun b ε2 => match ε2.at v, a, b with
    | some (.l xs), .p (.int i), .p (.int j) => match ixN xs.length i with
      | some k => match xs[k]? with
        | some m => if ixO m (.p (.int j)) then match ixF m (.p (.int j)) with
          | some (.p r) => .ok (.p r) ε2
          | _ => .bad
          else .bad
        | none => .bad
      | none => .bad
    | some (.p u), a, .p (.int j) => match ixF (.p u) a with
      | some m => match ixF m (.p (.int j)) with
        | some (.p r) => .ok (.p r) ε2
        | _ => .bad
      | none => .bad
    | _, _, _ => .bad
  | .slc a lo hi, ε => (opd C a ε).bind fun x ε1 => (ev C lo ε1).bind fun l ε2 => match optI (nonE lo) l with
    | some l => (ev C hi ε2).bind fun h ε3 => match x.get ε3, optI (nonE hi) h with
      | some u, some h => .opt (slF u l h) ε3
      | _, _ => .bad
    | none => .bad
  | .tup es, ε => (evs C es ε).bind fun vs ε1 => .ok (.p (.tup false (pvs vs))) ε1
  | .lst es, ε => (evs C es ε).bind fun vs ε1 => .ok (.l vs) ε1
  | .dct t, ε => .ok (.d t [] []) ε
  | .dct1 a b, ε => (ev C a ε).bind fun x ε1 => (ev C b ε1).bind fun y ε2 => match x with
    | .p k => if isKey k then .ok (.d (isTupK k) [k] [frz y]) ε2 else .bad
    | _ => .bad
  | .comp own tg it t elt, ε => (evI C it ε).bind fun w ε1 => if decide (w.items.length ≤ LIM) && noOwn ε1 own then (compL (fun x ε2 => match putT C.lock (wipeE ε2 own) tg x with
      | some ε3 => (evT C t ε3).noex.bind fun b ε4 => match b with
        | true => (ev C elt ε4).noex.bind fun m ε5 => .ok (some m) (restE ε2 ε5 own)
        | false => .ok none (restE ε2 ε4 own)
      | none => .bad) w.items ε1).bind fun l ε6 => .ok (.l l) (giveBack ε6 w.lent) else .bad
  | .req a b, ε => (opd C a ε).bind fun x ε1 => (opd C b ε1).bind fun y ε2 => match x.get ε2, y.get ε2 with
    | some (.p u), some (.p v) => if isData u && same u v && shw u && decide (dep u ≤ 40) && decide (cst u ≤ LIM) then .ok (.p (.bl true)) ε2 else .bad
    | _, _ => .bad
  | .atr a f, ε => (ev C a ε).bind fun x ε1 => match x with
    | .p (.exc _ g v) => if f = g then .ok (.p v) ε1 else .bad
    | _ => .bad
def opd (C : Ctx) : IE → Env → Res Opd
  | .var i, ε => match ε.at i with
    | some _ => .ok (.sl i) ε
    | none => .bad
  | e, ε => (ev C e ε).bind fun v ε1 => .ok (.tm v) ε1
def opds (C : Ctx) : IEs → Env → Res (List Opd)
  | .nil, ε => .ok [] ε
  | .cons e r, ε => (opd C e ε).bind fun o ε1 => (opds C r ε1).bind fun os ε2 => .ok (o :: os) ε2
def evs (C : Ctx) : IEs → Env → Res (List MV)
  | .nil, ε => .ok [] ε
  | .cons e r, ε => (ev C e ε).bind fun v ε1 => (evs C r ε1).bind fun vs ε2 => .ok (v :: vs) ε2
def evT (C : Ctx) : IT → Env → Res Bool
  | .tt, ε => .ok true ε
  | .tv e, ε => (opd C e ε).bind fun x ε1 => match x.get ε1 with
    | some u => .opt (truF u) ε1
    | none => .bad
  | .tn t, ε => (evT C t ε).bind fun b ε1 => .ok (!b) ε1
  | .ta t u, ε => (evT C t ε).bind fun b ε1 => match b with
    | true => evT C u ε1
    | false => .ok false ε1
  | .to t u, ε => (evT C t ε).bind fun b ε1 => match b with
    | true => .ok true ε1
    | false => evT C u ε1
def evI (C : Ctx) : II → Env → Res Walk
  | .val e, ε => (ev C e ε).bind fun v ε1 => match seqP (frz v) with
    | some l => .ok ⟨l, none⟩ ε1
    | none => .bad
  | .mv i, ε => match ε.at i with
    | some (.p v) => match seqP v with
      | some l => .ok ⟨l, none⟩ ε
      | none => .bad
    | some (.l xs) => match unpL xs with
      | some l => .ok ⟨l, some (i, .l xs)⟩ (ε.set i none)
      | none => .ok ⟨frzL xs, none⟩ (ε.set i (some (.p (.fls (frzL xs)))))
    | _ => .bad
  | .rng1 a, ε => (ev C a ε).bind fun x ε1 => match x with
    | .p (.int n) => if small62 n then .ok ⟨rngL 0 n.toNat 1, none⟩ ε1 else .bad
    | _ => .bad
  | .rng2 a b, ε => (ev C a ε).bind fun x ε1 => (ev C b ε1).bind fun y ε2 => match x, y with
    | .p (.int m), .p (.int n) => if small62 m && small62 n then .ok ⟨rngL m (n - m).toNat 1, none⟩ ε2 else .bad
    | _, _ => .bad
  | .rng3 a b c, ε => (ev C a ε).bind fun x ε1 => (ev C b ε1).bind fun y ε2 => (ev C c ε2).bind fun z ε3 => match x, y, z with
    | .p (.int m), .p (.int n), .p (.int k) => if small62 m && small62 n && decide (k ≠ 0) && decide (k.natAbs < 1073741824) then .ok ⟨rngL m (rngN m n k) k, none⟩ ε3 else .bad
    | _, _, _ => .bad
  | .zip a b, ε => (ev C a ε).bind fun x ε1 => (ev C b ε1).bind fun y ε2 => match seqV x, seqV y with
    | some l, some m => .ok ⟨zipP l m, none⟩ ε2
    | _, _ => .bad
  | .rev e, ε => (ev C e ε).bind fun v ε1 => match seqV v with
    | some l => .ok ⟨l.reverse, none⟩ ε1
    | none => .bad
end

/-! ### statements -/
inductive Flow where
  | nx | bk | ct
  | rt (v : MV)
/-- the slot that is walked is not stored to -/
def lockI : II → List Nat → List Nat
  | .mv i, l => i :: l
  | _, l => l
def forL (step : PV → Env → Res Flow) : List PV → Env → Res Flow
  | [], ε => .ok .nx ε
  | x :: r, ε => (step x ε).bind fun f ε1 => match f with
    | .nx => forL step r ε1
    | .ct => forL step r ε1
    | .bk => .ok .bk ε1
    | .rt v => .ok (.rt v) ε1
def whL (test : Env → Res Bool) (body : Env → Res Flow) : Nat → Env → Res Flow
  | 0, _ => .bad
  | n + 1, ε => (test ε).bind fun b ε1 => match b with
    | false => .ok .nx ε1
    | true => (body ε1).bind fun f ε2 => match f with
      | .nx => whL test body n ε2
      | .ct => whL test body n ε2
      | .bk => .ok .nx ε2
      | .rt v => .ok (.rt v) ε2
/-- the field named "what" -/
def whatF : Txt := [119, 104, 97, 116]
/-- the field named "row" -/
def rowF : Txt := [114, 111, 119]
/-- the one argument of an error: a text for `what`, else a number or a row; none where the error has no field -/
def excArg (f : Txt) : List MV → Option PV
  | [] => if f = [] then some .non else none
  | [.p (.str s)] => if f = whatF ∧ s.length ≤ 1000 then some (.str s) else none
  | [.p (.int i)] => if f ≠ whatF ∧ f ≠ rowF ∧ f ≠ [] ∧ i.natAbs.log2 < 1000 then some (.int i) else none
  | [.p (.tup w l)] => if f = rowF then some (.tup w l) else none
  | _ => none
/-! no error is a part of it -/
mutual
def clnP : PV → Bool
  | .non => true
  | .bl _ => true
  | .int _ => true
  | .str _ => true
  | .tup _ l => clnPs l
  | .fls l => clnPs l
  | .fdc _ _ vs => clnPs vs
  | .exc _ _ _ => false
  | .sls _ => true
def clnPs : List PV → Bool
  | [] => true
  | x :: xs => clnP x && clnPs xs
end
mutual
def clnM : MV → Bool
  | .p v => clnP v
  | .l xs => clnMs xs
  | .d _ _ vs => clnPs vs
def clnMs : List MV → Bool
  | [] => true
  | x :: xs => clnM x && clnMs xs
end
/-- what is told of the slots behind an except suite -/
def clnE (ε : Env) : Env := ε.map fun o => match o with
  | some m => if clnM m then some m else none
  | none => none
/-- what leaves an except suite -/
def clnF : Flow → Env → Res Flow
  | .rt v, ε => if clnM v then .ok (.rt v) (clnE ε) else .bad
  | f, ε => .ok f (clnE ε)
mutual
def evS (C : Ctx) : IS → Env → Res Flow
  | .set i e, ε => (ev C e ε).bind fun v ε1 => match putS C.lock ε1 i v with
    | some ε2 => .ok .nx ε2
    | none => .bad
  | .unp is e, ε => (ev C e ε).bind fun v ε1 => match putT C.lock ε1 (.tp is) (frz v) with
    | some ε2 => .ok .nx ε2
    | none => .bad
  | .par i j a b, ε => (ev C a ε).bind fun x ε1 => (ev C b ε1).bind fun y ε2 => match putS C.lock ε2 i x with
    | some ε3 => match putS C.lock ε3 j y with
      | some ε4 => .ok .nx ε4
      | none => .bad
    | none => .bad
  | .six i k e, ε => if (ε.at i).isNone then .bad else (ev C e ε).bind fun v ε1 => (ev C k ε1).bind fun j ε2 => match ε2.at i, j with
    | some (.l xs), .p (.int j) => match ixN xs.length j with
      | some k => .ok .nx (ε2.set i (some (.l (xs.set k v))))
      | none => .bad
    | some (.d t ks vs), .p k => if sameSort t k && decide (ks.length < LIM) then let r := dput ks vs k (frz v); .ok .nx (ε2.set i (some (.d t r.1 r.2))) else .bad
    | _, _ => .bad
  | .six2 i j k e, ε => if (ε.at i).isNone then .bad else (ev C e ε).bind fun v ε1 => (ev C j ε1).bind fun a ε2 => (ev C k ε2).bind fun b ε3 => match ε3.at i, a, b with
    | some (.l xs), .p (.int a), .p (.int b) => match ixN xs.length a with
      | some n => match xs[n]? with
        | some (.l ys) => match ixN ys.length b with
          | some m => .ok .nx (ε3.set i (some (.l (xs.set n (.l (ys.set m v))))))
          | none => .bad
        | _ => .bad
      | none => .bad
    | _, _, _ => .bad
  | .exp e, ε => (ev C e ε).bind fun _ ε1 => .ok .nx ε1
  | .ret e, ε => (ev C e ε).bind fun v ε1 => .ok (.rt v) ε1
  | .rtv i, ε => match ε.at i with
    | some (.p v) => .ok (.rt (.p v)) ε
    | some m => if C.lock.contains i then .bad else .ok (.rt m) (ε.set i none)
    | none => .bad
  | .ret0, ε => .ok (.rt (.p .non)) ε
  | .ife t a b, ε => (evT C t ε).bind fun c ε1 => match c with
    | true => evSs C a ε1
    | false => evSs C b ε1
  | .fo tg it body, ε => (evI C it ε).bind fun w ε1 => (forL (fun x ε2 => match putT (lockI it C.lock) ε2 tg x with
      | some ε3 => evSs { C with lock := lockI it C.lock } body ε3
      | none => .bad) w.items ε1).bind fun f ε4 => .ok (match f with
        | .bk => .nx
        | f => f) (giveBack ε4 w.lent)
  | .wh t body, ε => whL (evT C t) (evSs C body) C.fuel ε
  | .pas, ε => .ok .nx ε
  | .cnt, ε => .ok .ct ε
  | .brk, ε => .ok .bk ε
  | .rai c f es, ε => (evs C es ε).bind fun vs ε1 => match excArg f vs with
    | some v => .ex (.exc c f v) ε1
    | none => .bad
  | .try body c slot h, ε => match evSs C body ε with
    | .ok f ε1 => .ok f ε1
    | .bad => .bad
    | .ex e ε1 => match e with
      | .exc d g v => if isSub C.par 8 d c then match slot with
          | none => (evSs C h ε1).noex.bind clnF
          | some i => match putS C.lock ε1 i (.p (.exc d g v)) with
            | some ε2 => (evSs C h ε2).noex.bind fun f ε3 => clnF f (ε3.set i none)
            | none => .bad
        else .ex e ε1
      | _ => .bad
  | .dead, _ => .bad
def evSs (C : Ctx) : ISs → Env → Res Flow
  | .nil, ε => .ok .nx ε
  | .cons s r, ε => (evS C s ε).bind fun f ε1 => match f with
    | .nx => evSs C r ε1
    | f => .ok f ε1
end

/-! ### defs -/
structure Def where
  np : Nat
  nl : Nat
  body : ISs
def lockOf : Nat → List MV → List Nat
  | _, [] => []
  | i, .p _ :: r => lockOf (i + 1) r
  | i, _ :: r => i :: lockOf (i + 1) r
def runDef (C : Ctx) (d : Def) (args : List MV) : CRes := if args.length = d.np then
    match evSs { C with lock := lockOf 0 args } d.body (args.map some ++ List.replicate (d.nl - d.np) none) with
    | .ok (.rt v) ε => .ok v (ε.take d.np)
    | .ok .nx ε => .ok (.p .non) (ε.take d.np)
    | .ok _ _ => .bad
    | .ex e _ => .ex e
    | .bad => .bad
  else .bad
def callF (T : List Def) (par : List (Txt × Txt)) (L : Nat) : Nat → Nat → List MV → CRes
  | 0, _, _ => .bad
  | n + 1, f, args => match T[f]? with
    | some d => runDef ⟨callF T par L n, L, [], par⟩ d args
    | none => .bad
end PL

end
section
set_option Elab.async false
set_option linter.all false
set_option maxRecDepth 100000
/-! Layer B, 0: what a tree stands for in the abstract heap; what stays. -/
namespace LB
open PySem PySem.Spec PyProof.Rows L2
open PL (PV MV Txt)

/-- the written part, and which exceptions are known by their address: class, own dict -/
structure Kx where
  K : PySem.W.Frag
  ex : Addr → Txt → Option Addr → Prop
  cl : Txt → Option Addr
  /-- the module's constants that are tuples -/
  gl : List (V × PV)

def strOf (t : Txt) : Str := ⟨t.toArray⟩
def keyOf : PV → Option Key
  | .int i => some (.inl i)
  | .str s => some (.inr (strOf s))
  | _ => none
def keysOf : List PV → Option (List Key)
  | [] => some []
  | p :: r => match keyOf p, keysOf r with
    | some k, some ks => some (k :: ks)
    | _, _ => none
def keyT : PV → Option (List Key)
  | .tup false l => keysOf l
  | _ => none

/-- the dict at a: the keys, each once, and their values; t: its keys are tuples -/
def DicAt (t : Bool) (H : Hp) (a : Addr) (ks : List PV) (vs : List V) : Prop := match t with
  | false => ∃ kk : List Key, ks.map keyOf = kk.map some ∧ kk.length = vs.length ∧ kk.Nodup ∧ H a = some (.dK (kk.zip vs))
  | true => ∃ kk : List (List Key), ks.map keyT = kk.map some ∧ kk.length = vs.length ∧ kk.Nodup ∧ H a = some (.dT (kk.zip vs))
theorem DicAt.there {t : Bool} {H : Hp} {a : Addr} {ks : List PV} {vs : List V} (d : DicAt t H a ks vs) : ∃ o, H a = some o ∧ ((∃ kvs, o = .dK kvs) ∨ ∃ kvs, o = .dT kvs) := by
  cases t with
  | false => obtain ⟨kk, _, _, _, q⟩ := d; exact ⟨_, q, .inl ⟨_, rfl⟩⟩
  | true => obtain ⟨kk, _, _, _, q⟩ := d; exact ⟨_, q, .inr ⟨_, rfl⟩⟩
theorem DicAt.same {t : Bool} {H H' : Hp} {a : Addr} {ks : List PV} {vs : List V} (d : DicAt t H a ks vs) (h : ∀ o, H a = some o → H' a = some o) : DicAt t H' a ks vs := by
  cases t with
  | false => obtain ⟨kk, e1, e2, e3, q⟩ := d; exact ⟨kk, e1, e2, e3, h _ q⟩
  | true => obtain ⟨kk, e1, e2, e3, q⟩ := d; exact ⟨kk, e1, e2, e3, h _ q⟩
mutual
def RepP (k : Kx) (H : Hp) (B : Addr → Prop) : PV → V → Prop
  | .non, x => x = .non
  | .bl b, x => x = .bl b
  | .int i, x => x = .int i
  | .str s, x => x = .str (strOf s)
  | .tup w l, x => ∃ a vs, x = .ref a ∧ SqT k.K H a vs ∧ (w = false → H a = some (.tup vs)) ∧ RepPs k H B l vs
  | .fls l, x => ∃ a vs, x = .ref a ∧ H a = some (.lst vs) ∧ ¬ B a ∧ RepPs k H B l vs
  | .sls l, x => ∃ a, x = .ref a ∧ ((∃ o, H a = some (.frz o (.lst (l.map V.int)))) ∨ ∃ (o : Obj) (its : Array Value) (n : Nat), k.K.lookup a = some o ∧ o.cls = .type "list" ∧ o.dict = none ∧ o.data = .seq its n ∧ its.size ≤ sizeLine ∧ Vals (l.map V.int) its.toList)
  | .fdc t ks ws, x => ∃ a vs, x = .ref a ∧ ¬ B a ∧ RepPs k H B ws vs ∧ DicAt t H a ks vs
  | .exc c f w, x => ∃ a d, x = .ref a ∧ k.ex a c d ∧ ((f = [] ∧ d = none) ∨ ∃ dd y, d = some dd ∧ H dd = some (.xd [(strOf f, y)]) ∧ RepP k H B w y)
def RepPs (k : Kx) (H : Hp) (B : Addr → Prop) : List PV → List V → Prop
  | [], vs => vs = []
  | p :: r, vs => ∃ v vs', vs = v :: vs' ∧ RepP k H B p v ∧ RepPs k H B r vs'
end
mutual
def RepM (k : Kx) (H : Hp) (B : Addr → Prop) : MV → V → List Addr → Prop
  | .p v, x, O => RepP k H B v x ∧ O = []
  | .l xs, x, O => ∃ a vs O', x = .ref a ∧ H a = some (.lst vs) ∧ RepMs k H B xs vs O' ∧ O = a :: O'
  | .d t ks ws, x, O => ∃ a vs, x = .ref a ∧ RepPs k H B ws vs ∧ O = [a] ∧ DicAt t H a ks vs
def RepMs (k : Kx) (H : Hp) (B : Addr → Prop) : List MV → List V → List Addr → Prop
  | [], vs, O => vs = [] ∧ O = []
  | m :: r, vs, O => ∃ v vs' O1 O2, vs = v :: vs' ∧ RepM k H B m v O1 ∧ RepMs k H B r vs' O2 ∧ O = O1 ++ O2
end

/-- what is changed is a list or a dict -/
def Chg (H : Hp) (S : Addr → Prop) : Prop := ∀ a o, S a → H a = some o → (∃ xs, o = .lst xs) ∨ (∃ kvs, o = .dK kvs) ∨ ∃ kvs, o = .dT kvs
/-- from H to H': all outside S stands -/
structure Stay (H H' : Hp) (S : Addr → Prop) : Prop where
  keep : ∀ a o, H a = some o → ¬ S a → H' a = some o
  chg : Chg H S
section
variable {k : Kx} {H H' : Hp} {B B' S : Addr → Prop}
theorem Stay.sqT (st : Stay H H' S) {K : PySem.W.Frag} {a : Addr} {xs : List V} (h : SqT K H a xs) : SqT K H' a xs := by
  rcases h with (h | ⟨o, h⟩) | h
  · refine .inl (.inl (st.keep a _ h fun s => ?_))
    rcases st.chg a _ s h with ⟨_, e⟩ | ⟨_, e⟩ | ⟨_, e⟩ <;> cases e
  · refine .inl (.inr ⟨o, st.keep a _ h fun s => ?_⟩)
    rcases st.chg a _ s h with ⟨_, e⟩ | ⟨_, e⟩ | ⟨_, e⟩ <;> cases e
  · exact .inr h
theorem Stay.tup (st : Stay H H' S) {a : Addr} {xs : List V} (h : H a = some (.tup xs)) : H' a = some (.tup xs) := by
  refine st.keep a _ h fun s => ?_
  rcases st.chg a _ s h with ⟨_, e⟩ | ⟨_, e⟩ | ⟨_, e⟩ <;> cases e
/-- frozen things are outside what changes, and stay unbanned -/
def Okb (H : Hp) (B B' S : Addr → Prop) : Prop := ∀ a, H a ≠ none → ¬ B a → ¬ S a ∧ ¬ B' a
mutual
theorem RepP.stay (st : Stay H H' S) (ob : Okb H B B' S) : ∀ {p : PV} {x : V}, RepP k H B p x → RepP k H' B' p x
  | .non, _, h => h
  | .bl _, _, h => h
  | .int _, _, h => h
  | .str _, _, h => h
  | .tup w l, _, h => by
    obtain ⟨a, vs, e, q, q2, r⟩ := h
    exact ⟨a, vs, e, st.sqT q, fun z => st.tup (q2 z), RepPs.stay st ob r⟩
  | .fls l, _, h => by
    obtain ⟨a, vs, e, q, b, r⟩ := h
    exact ⟨a, vs, e, st.keep a _ q (ob a (by rw [q]; simp) b).1, (ob a (by rw [q]; simp) b).2, RepPs.stay st ob r⟩
  | .sls l, _, h => by
    obtain ⟨a, e, q⟩ := h
    refine ⟨a, e, ?_⟩
    rcases q with ⟨o, q⟩ | q
    · refine .inl ⟨o, st.keep a _ q fun s => ?_⟩
      rcases st.chg a _ s q with ⟨_, e⟩ | ⟨_, e⟩ | ⟨_, e⟩ <;> cases e
    · exact .inr q
  | .fdc t ks ws, _, h => by
    obtain ⟨a, vs, e, b, r, q⟩ := h
    obtain ⟨o, ho, _⟩ := q.there
    obtain ⟨ns, nb⟩ := ob a (by rw [ho]; simp) b
    exact ⟨a, vs, e, nb, RepPs.stay st ob r, q.same fun o ho => st.keep a o ho ns⟩
  | .exc c f w, _, h => by
    obtain ⟨a, d, e, q, r⟩ := h
    refine ⟨a, d, e, q, ?_⟩
    rcases r with r | ⟨dd, y, e1, e2, r⟩
    · exact .inl r
    · refine .inr ⟨dd, y, e1, st.keep dd _ e2 fun s => ?_, RepP.stay st ob r⟩
      rcases st.chg dd _ s e2 with ⟨_, e⟩ | ⟨_, e⟩ | ⟨_, e⟩ <;> cases e
theorem RepPs.stay (st : Stay H H' S) (ob : Okb H B B' S) : ∀ {p : List PV} {x : List V}, RepPs k H B p x → RepPs k H' B' p x
  | [], _, h => h
  | p :: r, _, h => by
    obtain ⟨v, vs', e, q, t⟩ := h
    exact ⟨v, vs', e, RepP.stay st ob q, RepPs.stay st ob t⟩
end
mutual
theorem RepM.stay (st : Stay H H' S) (ob : Okb H B B' S) : ∀ {m : MV} {x : V} {O : List Addr}, (∀ a ∈ O, ¬ S a) → RepM k H B m x O → RepM k H' B' m x O
  | .p v, _, _, _, h => ⟨RepP.stay st ob h.1, h.2⟩
  | .l xs, _, _, no, h => by
    obtain ⟨a, vs, O', e, q, r, eo⟩ := h
    subst eo
    exact ⟨a, vs, O', e, st.keep a _ q (no a (by simp)), RepMs.stay st ob (fun b hb => no b (by simp [hb])) r, rfl⟩
  | .d t ks ms, _, _, no, h => by
    obtain ⟨a, vs, e, r, eo, q⟩ := h
    subst eo
    exact ⟨a, vs, e, RepPs.stay st ob r, rfl, q.same fun o ho => st.keep a o ho (no a (by simp))⟩
theorem RepMs.stay (st : Stay H H' S) (ob : Okb H B B' S) : ∀ {m : List MV} {x : List V} {O : List Addr}, (∀ a ∈ O, ¬ S a) → RepMs k H B m x O → RepMs k H' B' m x O
  | [], _, _, _, h => h
  | m :: r, _, _, no, h => by
    obtain ⟨v, vs', O1, O2, e, q, t, eo⟩ := h
    subst eo
    exact ⟨v, vs', O1, O2, e, RepM.stay st ob (fun b hb => no b (by simp [hb])) q, RepMs.stay st ob (fun b hb => no b (by simp [hb])) t, rfl⟩
end
/-! an owned address holds a list or a dict -/
mutual
theorem RepM.own : ∀ {m : MV} {x : V} {O : List Addr}, RepM k H B m x O → ∀ a ∈ O, ∃ o, H a = some o ∧ ((∃ xs, o = .lst xs) ∨ (∃ kvs, o = .dK kvs) ∨ ∃ kvs, o = .dT kvs)
  | .p v, _, _, h, a, ha => by rw [h.2] at ha; cases ha
  | .l xs, _, _, h, b, hb => by
    obtain ⟨a, vs, O', e, q, r, eo⟩ := h
    subst eo
    rcases List.mem_cons.mp hb with z | z
    · subst z; exact ⟨_, q, .inl ⟨_, rfl⟩⟩
    · exact RepMs.own r b z
  | .d t ks ms, _, _, h, b, hb => by
    obtain ⟨a, vs, e, r, eo, q⟩ := h
    subst eo
    have z : b = a := by simpa using hb
    subst z
    obtain ⟨o, ho, h⟩ := q.there
    exact ⟨o, ho, .inr h⟩
theorem RepMs.own : ∀ {m : List MV} {x : List V} {O : List Addr}, RepMs k H B m x O → ∀ a ∈ O, ∃ o, H a = some o ∧ ((∃ xs, o = .lst xs) ∨ (∃ kvs, o = .dK kvs) ∨ ∃ kvs, o = .dT kvs)
  | [], _, _, h, a, ha => by rw [h.2] at ha; cases ha
  | m :: r, _, _, h, b, hb => by
    obtain ⟨v, vs', O1, O2, e, q, t, eo⟩ := h
    subst eo
    rcases List.mem_append.mp hb with z | z
    · exact RepM.own q b z
    · exact RepMs.own t b z
end
/-! frozen: nothing is owned any more, what was owned is not banned -/
mutual
theorem RepM.frz (hb : ∀ a, H a ≠ none → ¬ B a → ¬ B' a) : ∀ {m : MV} {x : V} {O : List Addr}, (∀ a ∈ O, ¬ B' a) → RepM k H B m x O → RepP k H B' (PL.frz m) x
  | .p v, _, _, _, h => RepP.stay (S := fun _ => False) ⟨fun _ _ e _ => e, fun _ _ z => z.elim⟩ (fun a ne nb => ⟨id, hb a ne nb⟩) h.1
  | .l xs, _, _, no, h => by
    obtain ⟨a, vs, O', e, q, r, eo⟩ := h
    subst eo
    exact ⟨a, vs, e, q, no a (by simp), RepMs.frz hb (fun b hb' => no b (by simp [hb'])) r⟩
  | .d t ks ms, _, _, no, h => by
    obtain ⟨a, vs, e, r, eo, q⟩ := h
    subst eo
    exact ⟨a, vs, e, no a (by simp), RepPs.stay (S := fun _ => False) ⟨fun _ _ e _ => e, fun _ _ z => z.elim⟩ (fun a ne nb => ⟨id, hb a ne nb⟩) r, q⟩
theorem RepMs.frz (hb : ∀ a, H a ≠ none → ¬ B a → ¬ B' a) : ∀ {m : List MV} {x : List V} {O : List Addr}, (∀ a ∈ O, ¬ B' a) → RepMs k H B m x O → RepPs k H B' (PL.frzL m) x
  | [], _, _, _, h => h.1
  | m :: r, _, _, no, h => by
    obtain ⟨v, vs', O1, O2, e, q, t, eo⟩ := h
    subst eo
    exact ⟨v, vs', e, RepM.frz hb (fun b hb' => no b (by simp [hb'])) q, RepMs.frz hb (fun b hb' => no b (by simp [hb'])) t⟩
end
end
end LB

end
section
set_option Elab.async false
set_option linter.all false
set_option maxRecDepth 100000
/-! Layer B, 1: a frame's slots as trees; how a step moves them; the readings of the language. -/
namespace LB
open PySem PySem.Spec PyProof.Rows L2
open PL (PV MV Txt IE IEs IT II IS ISs)

def Own (fo : Nat → List Addr) (a : Addr) : Prop := ∃ i, a ∈ fo i
def bn (fo : Nat → List Addr) (R : Addr → Prop) (a : Addr) : Prop := Own fo a ∨ R a
structure EnvOk (k : Kx) (R : Addr → Prop) (H : Hp) (env : PL.Env) (σ : L2.St) (fo : Nat → List Addr) : Prop where
  len : env.length = σ.length
  rep : ∀ i m, env.at i = some m → ∃ x, σ[i]? = some (some x) ∧ RepM k H (bn fo R) m x (fo i)
  nil : ∀ i, env.at i = none → fo i = []
  nd : ∀ i, (fo i).Nodup
  dj : ∀ i j a, a ∈ fo i → a ∈ fo j → i = j
  rs : ∀ i a, a ∈ fo i → ¬ R a
  al : ∀ a, R a → H a ≠ none
  gl : ∀ q ∈ k.gl, RepP k H (fun _ => True) q.2 q.1
structure Tr (H : Hp) (own : Addr → Prop) (H' : Hp) (own' : Addr → Prop) : Prop where
  keep : ∀ a o, H a = some o → ¬ own a → H' a = some o
  new : ∀ a, own' a → own a ∨ H a = none
structure At (k : Kx) (R : Addr → Prop) (σ : L2.St) (H : Hp) (own : Addr → Prop) (env : PL.Env) (fo : Nat → List Addr) (R' : Addr → Prop) (H' : Hp) : Prop where
  ok : EnvOk k R' H' env σ fo
  sub : ∀ a, R a → R' a
  tr : Tr H own H' fun a => Own fo a ∨ (R' a ∧ ¬ R a)
section
variable {k : Kx} {R R' R1 R2 : Addr → Prop} {σ : L2.St} {H H' H1 H2 : Hp} {own : Addr → Prop} {env env1 env2 : PL.Env} {fo fo1 fo2 : Nat → List Addr}
theorem EnvOk.chg (e : EnvOk k R H env σ fo) : Chg H (Own fo) := fun a o ⟨i, hi⟩ h => by
  cases q : env.at i with
  | none => rw [e.nil i q] at hi; cases hi
  | some m =>
    obtain ⟨x, _, r⟩ := e.rep i m q
    obtain ⟨o', h', z⟩ := r.own a hi
    rw [h] at h'; cases h'; exact z
theorem EnvOk.alO (e : EnvOk k R H env σ fo) {a : Addr} (h : Own fo a) : H a ≠ none := by
  obtain ⟨i, hi⟩ := h
  cases q : env.at i with
  | none => rw [e.nil i q] at hi; cases hi
  | some m =>
    obtain ⟨x, _, r⟩ := e.rep i m q
    obtain ⟨o', h', z⟩ := r.own a hi
    rw [h']; simp
theorem RepM.ban {B B' : Addr → Prop} {m : MV} {x : V} {O : List Addr} (h : ∀ a, B' a → B a) (r : RepM k H B m x O) : RepM k H B' m x O :=
  r.stay (S := fun _ => False) ⟨fun _ _ e _ => e, fun _ _ z => z.elim⟩ (fun a _ nb => ⟨id, fun z => nb (h a z)⟩) (fun _ _ => id)
theorem RepP.ban {B B' : Addr → Prop} {m : PV} {x : V} (h : ∀ a, B' a → B a) (r : RepP k H B m x) : RepP k H B' m x :=
  r.stay (S := fun _ => False) ⟨fun _ _ e _ => e, fun _ _ z => z.elim⟩ (fun a _ nb => ⟨id, fun z => nb (h a z)⟩)
/-- fewer are others' -/
theorem EnvOk.drop (e : EnvOk k R H env σ fo) (h : ∀ a, R' a → R a) : EnvOk k R' H env σ fo :=
  ⟨e.len, fun i m q => let ⟨x, h1, r⟩ := e.rep i m q; ⟨x, h1, r.ban fun a z => z.elim .inl fun z => .inr (h a z)⟩, e.nil, e.nd, e.dj, fun i a q z => e.rs i a q (h a z), fun a z => e.al a (h a z), e.gl⟩
theorem Tr.refl : Tr H own H own := ⟨fun _ _ e _ => e, fun _ h => .inl h⟩
theorem At.refl (e : EnvOk k R H env σ fo) : At k R σ H (Own fo) env fo R H :=
  ⟨e, fun _ h => h, ⟨fun _ _ e _ => e, fun a h => h.elim .inl fun z => absurd z.1 z.2⟩⟩
theorem At.step (a : At k R σ H own env1 fo1 R1 H1) (b : At k R1 σ H1 (Own fo1) env2 fo2 R2 H2) : At k R σ H own env2 fo2 R2 H2 := by
  have up : ∀ c, Own fo1 c ∨ H1 c = none → own c ∨ H c = none := fun c hc => by
    rcases hc with hc | hc
    · exact a.tr.new c (.inl hc)
    · cases q : H c with
      | none => exact .inr rfl
      | some o =>
        by_cases ho : own c
        · exact .inl ho
        · rw [a.tr.keep c o q ho] at hc; cases hc
  refine ⟨b.ok, fun c h => b.sub c (a.sub c h), ⟨fun c o h n => b.tr.keep c o (a.tr.keep c o h n) fun hc => ?_, fun c hc => ?_⟩⟩
  · rcases a.tr.new c (.inl hc) with z | z
    · exact n z
    · rw [z] at h; cases h
  · rcases hc with hc | ⟨h2, h3⟩
    · exact up c (b.tr.new c (.inl hc))
    · by_cases h1 : R1 c
      · exact a.tr.new c (.inr ⟨h1, h3⟩)
      · exact up c (b.tr.new c (.inr ⟨h2, h1⟩))
theorem At.stay (e : EnvOk k R1 H1 env1 σ fo1) (b : At k R1 σ H1 (Own fo1) env2 fo2 R2 H2) : Stay H1 H2 (Own fo1) := ⟨b.tr.keep, e.chg⟩
theorem At.okb (e : EnvOk k R1 H1 env1 σ fo1) (b : At k R1 σ H1 (Own fo1) env2 fo2 R2 H2) : Okb H1 (bn fo1 R1) (bn fo2 R2) (Own fo1) := fun a ne nb => by
  refine ⟨fun z => nb (.inl z), fun z => ?_⟩
  have key : Own fo2 a ∨ (R2 a ∧ ¬ R1 a) := by
    rcases z with z | z
    · exact .inl z
    · exact .inr ⟨z, fun q => nb (.inr q)⟩
  rcases b.tr.new a key with z | z
  · exact nb (.inl z)
  · exact ne z
/-- a value of ours stands behind a step -/
theorem At.val (e : EnvOk k R1 H1 env1 σ fo1) (b : At k R1 σ H1 (Own fo1) env2 fo2 R2 H2) {m : MV} {x : V} {O : List Addr} (hO : ∀ a ∈ O, R1 a) (r : RepM k H1 (bn fo1 R1) m x O) : RepM k H2 (bn fo2 R2) m x O :=
  r.stay (At.stay e b) (At.okb e b) fun a ha ⟨i, hi⟩ => e.rs i a hi (hO a ha)
/-- dropped temps -/
theorem At.drop (a : At k R σ H own env1 fo1 R1 H1) (h : ∀ c, R' c → R1 c) (s : ∀ c, R c → R' c) : At k R σ H own env1 fo1 R' H1 :=
  ⟨a.ok.drop h, s, ⟨a.tr.keep, fun c hc => a.tr.new c (hc.imp id fun z => ⟨h c z.1, z.2⟩)⟩⟩
end

/-! ### what an operand, a value is -/
def OpdRep (k : Kx) (H : Hp) (B : Addr → Prop) (σ : L2.St) (env : PL.Env) : PL.Opd → V → List Addr → Prop
  | .sl i, x, O => σ[i]? = some (some x) ∧ O = []
  | .tm v, x, O => RepM k H B v x O
/-- temps: ours, once each -/
structure Tmp (R R' : Addr → Prop) (O : List Addr) : Prop where
  nd : O.Nodup
  mem : ∀ a ∈ O, R' a ∧ ¬ R a
def PostV (k : Kx) (R : Addr → Prop) (σ : L2.St) (H : Hp) (own : Addr → Prop) (env' : PL.Env) (v : MV) (x : V) (H' : Hp) : Prop :=
  ∃ fo R' O, At k R σ H own env' fo R' H' ∧ RepM k H' (bn fo R') v x O ∧ Tmp R R' O
def PostO (k : Kx) (R : Addr → Prop) (σ : L2.St) (H : Hp) (own : Addr → Prop) (env' : PL.Env) (o : PL.Opd) (x : V) (H' : Hp) : Prop :=
  ∃ fo R' O, At k R σ H own env' fo R' H' ∧ OpdRep k H' (bn fo R') σ env' o x O ∧ Tmp R R' O
/-- an exception -/
def XRep (k : Kx) (H : Hp) (B : Addr → Prop) (e : PV) (cls : Value) (d : Option Addr) : Prop :=
  ∃ c f w C, e = .exc c f w ∧ k.cl c = some C ∧ cls = .ref C ∧ ((f = [] ∧ d = none) ∨ ∃ dd y, d = some dd ∧ H dd = some (.xd [(strOf f, y)]) ∧ RepP k H B w y)
def PostX (k : Kx) (R : Addr → Prop) (σ : L2.St) (H : Hp) (own : Addr → Prop) (env' : PL.Env) (e : PV) (cls : Value) (d : Option Addr) (H' : Hp) : Prop :=
  ∃ fo, At k R σ H own env' fo R H' ∧ XRep k H' (bn fo R) e cls d
/-- what is to be shown of an outcome -/
def Outc {α : Type} (k : Kx) (W : WX) (R : Addr → Prop) (σ : L2.St) (H : Hp) (own : Addr → Prop) (P : α → PL.Env → Prop) : PL.Res α → Prop
  | .ok a env' => P a env'
  | .ex e env' => ∀ cls d H', PostX k R σ H own env' e cls d H' → W cls d σ H'
  | .bad => False
def tE (k : Kx) (W : WX) (C : PL.Ctx) (ie : IE) : TE := fun σ H Q => ∃ env fo R, EnvOk k R H env σ fo ∧ Outc k W R σ H (Own fo) (fun v env' => ∀ x H', PostV k R σ H (Own fo) env' v x H' → Q x H') (PL.ev C ie env)
def tO (k : Kx) (W : WX) (C : PL.Ctx) (ie : IE) : TE := fun σ H Q => ∃ env fo R, EnvOk k R H env σ fo ∧ Outc k W R σ H (Own fo) (fun o env' => ∀ x H', PostO k R σ H (Own fo) env' o x H' → Q x H') (PL.opd C ie env)
def tT (k : Kx) (W : WX) (C : PL.Ctx) (it : IT) : TT := fun σ H Q => ∃ env fo R, EnvOk k R H env σ fo ∧ Outc k W R σ H (Own fo) (fun b env' => ∀ H', (∃ fo' R', At k R σ H (Own fo) env' fo' R' H') → Q b H') (PL.evT C it env)

section
variable {k : Kx} {W : WX} {R R' R1 R2 : Addr → Prop} {σ : L2.St} {H H' H1 H2 : Hp} {own : Addr → Prop} {env env1 env2 : PL.Env} {fo fo1 fo2 : Nat → List Addr} {α β : Type}
/-- an exception behind a step -/
theorem PostX.step (a : At k R σ H own env1 fo1 R1 H1) {env' : PL.Env} {e : PV} {cls : Value} {d : Option Addr} (p : PostX k R1 σ H1 (Own fo1) env' e cls d H') : PostX k R σ H own env' e cls d H' := by
  obtain ⟨fo, b, c, f, w, C, e1, e2, e3, r⟩ := p
  have s := (a.step b).drop (R' := R) (fun c h => a.sub c h) fun _ h => h
  refine ⟨fo, s, c, f, w, C, e1, e2, e3, ?_⟩
  rcases r with r | ⟨dd, y, h1, h2, r⟩
  · exact .inl r
  · exact .inr ⟨dd, y, h1, h2, r.ban fun q z => z.imp id fun z => a.sub q z⟩
theorem Outc.step (a : At k R σ H own env1 fo1 R1 H1) {P P' : α → PL.Env → Prop} {r : PL.Res α} (o : Outc k W R σ H own P r) (h : ∀ v e, P v e → P' v e) : Outc k W R1 σ H1 (Own fo1) P' r := by
  cases r with
  | ok v e => exact h v e o
  | ex e ε => exact fun cls d H' p => o cls d H' (p.step a)
  | bad => exact o
theorem PostV.step (a : At k R σ H own env1 fo1 R1 H1) {v : MV} {x : V} (p : PostV k R1 σ H1 (Own fo1) env2 v x H2) : PostV k R σ H own env2 v x H2 := by
  obtain ⟨fo, R', O, b, r, t⟩ := p
  exact ⟨fo, R', O, a.step b, r, t.nd, fun c hc => ⟨(t.mem c hc).1, fun z => (t.mem c hc).2 (a.sub c z)⟩⟩
/-- what an operand is when it is looked at -/
theorem OpdRep.look (e : EnvOk k R' H env σ fo) {o : PL.Opd} {x : V} {O : List Addr} {v : MV} (r : OpdRep k H (bn fo R') σ env o x O) (g : o.get env = some v) : ∃ O', RepM k H (bn fo R') v x O' := by
  cases o with
  | sl i =>
    obtain ⟨y, h1, h2⟩ := e.rep i v g
    rw [r.1] at h1; cases h1
    exact ⟨_, h2⟩
  | tm w =>
    cases g
    exact ⟨_, r⟩
theorem OpdRep.stay (e : EnvOk k R1 H1 env1 σ fo1) (b : At k R1 σ H1 (Own fo1) env2 fo2 R2 H2) {o : PL.Opd} {x : V} {O : List Addr} (hO : ∀ a ∈ O, R1 a) (r : OpdRep k H1 (bn fo1 R1) σ env1 o x O) : OpdRep k H2 (bn fo2 R2) σ env2 o x O := by
  cases o with
  | sl i => exact r
  | tm v => exact At.val e b hO r
end
end LB

end
section
set_option Elab.async false
set_option linter.all false
set_option maxRecDepth 100000
set_option maxHeartbeats 1000000
/-! Layer B, 2: the operators, by values. -/
namespace LB
open PySem PySem.Spec PyProof.Rows L2
open PL (PV MV Txt IE IEs IT II IS ISs)

theorem lim_eq : PL.LIM = sizeLine := by rw [sizeLine_eq]; rfl
theorem strOf_len (s : Txt) : (strOf s).length = s.length := by
  show s.toArray.size = s.length
  simp
theorem strOf_app (a b : Txt) : strOf a ++ strOf b = strOf (a ++ b) := by
  show (⟨a.toArray ++ b.toArray⟩ : Str) = ⟨(a ++ b).toArray⟩
  simp
theorem strOf_inj {a b : Txt} (h : strOf a = strOf b) : a = b := by
  have h1 : a.toArray = b.toArray := congrArg (fun s : Str => s.cps) h
  simpa using congrArg Array.toList h1
section
variable {k : Kx} {R R' : Addr → Prop} {σ : L2.St} {H H' : Hp} {own : Addr → Prop} {env env' : PL.Env} {fo : Nat → List Addr} {B : Addr → Prop}

/-! ### results -/
theorem PostV.pure (a : At k R σ H own env fo R' H') {v : PV} {x : V} (r : RepP k H' (bn fo R') v x) : PostV k R σ H own env (.p v) x H' :=
  ⟨fo, R', [], a, ⟨r, rfl⟩, List.nodup_nil, fun _ h => nomatch h⟩
theorem lay_stay {p : Addr} {o : HO} (hp : H p = none) : Stay H (upd H p o) fun _ => False :=
  ⟨fun a o' h _ => by rw [upd_ne (ne_of_none h hp)]; exact h, fun _ _ z => z.elim⟩
theorem lay_okb {p : Addr} (hp : H p = none) : Okb H (bn fo R) (bn fo fun c => c = p ∨ R c) fun _ => False := fun a ne nb =>
  ⟨id, fun z => by
    rcases z with z | z | z
    · exact nb (.inl z)
    · rw [z] at ne; exact ne hp
    · exact nb (.inr z)⟩
theorem RepP.lay {p : Addr} {o : HO} (hp : H p = none) {v : PV} {x : V} (r : RepP k H (bn fo R) v x) : RepP k (upd H p o) (bn fo fun c => c = p ∨ R c) v x := r.stay (lay_stay hp) (lay_okb hp)
theorem RepPs.lay {p : Addr} {o : HO} (hp : H p = none) {v : List PV} {x : List V} (r : RepPs k H (bn fo R) v x) : RepPs k (upd H p o) (bn fo fun c => c = p ∨ R c) v x := r.stay (lay_stay hp) (lay_okb hp)
theorem RepM.lay {p : Addr} {o : HO} (hp : H p = none) {v : MV} {x : V} {O : List Addr} (r : RepM k H (bn fo R) v x O) : RepM k (upd H p o) (bn fo fun c => c = p ∨ R c) v x O := r.stay (lay_stay hp) (lay_okb hp) fun _ _ => id
theorem RepMs.lay {p : Addr} {o : HO} (hp : H p = none) {v : List MV} {x : List V} {O : List Addr} (r : RepMs k H (bn fo R) v x O) : RepMs k (upd H p o) (bn fo fun c => c = p ∨ R c) v x O := r.stay (lay_stay hp) (lay_okb hp) fun _ _ => id
/-- a new object: at p, ours -/
theorem At.lay (a : At k R σ H own env fo R' H') {p : Addr} {o : HO} (hp : H' p = none) : At k R σ H own env fo (fun c => c = p ∨ R' c) (upd H' p o) := by
  have e := a.ok
  have np : ∀ c, Own fo c → c ≠ p := fun c hc z => e.alO hc (by rw [z]; exact hp)
  refine ⟨⟨e.len, fun i m q => ?_, e.nil, e.nd, e.dj, fun i c hc z => ?_, fun c z => ?_, ?_⟩, fun c z => .inr (a.sub c z), ⟨fun c o' h n => ?_, fun c hc => ?_⟩⟩
  · obtain ⟨x, h1, r⟩ := e.rep i m q
    exact ⟨x, h1, r.lay hp⟩
  · rcases z with z | z
    · exact np c ⟨i, hc⟩ z
    · exact e.rs i c hc z
  · by_cases hc : c = p
    · rw [hc, upd_same]; simp
    · rw [upd_ne hc]
      exact z.elim (fun z => absurd z hc) (e.al c)
  · exact fun q hq => (e.gl q hq).stay (lay_stay hp) fun _ _ nb => (nb trivial).elim
  · have h' := a.tr.keep c o' h n
    rw [upd_ne (ne_of_none h' hp)]
    exact h'
  · rcases hc with hc | ⟨hc | hc, nr⟩
    · exact a.tr.new c (.inl hc)
    · rw [hc]
      cases q : H p with
      | none => exact .inr rfl
      | some o' =>
        by_cases ho : own p
        · exact .inl ho
        · have h' := a.tr.keep p o' q ho
          rw [hp] at h'; cases h'
    · exact a.tr.new c (.inr ⟨hc, nr⟩)
/-- .. which is a tuple -/
theorem PostV.tup (a : At k R σ H own env fo R' H') {l : List PV} {vs : List V} (r : RepPs k H' (bn fo R') l vs) {p : Addr} (hp : H' p = none) : PostV k R σ H own env (.p (.tup false l)) (.ref p) (upd H' p (.tup vs)) :=
  .pure (a.lay hp) ⟨p, vs, rfl, SqT.of upd_same, fun _ => upd_same, r.lay hp⟩
/-- .. which is a list of values ms at vs, whose own lists are temps -/
theorem PostV.lst (a : At k R σ H own env fo R' H') {l : List MV} {vs : List V} {O : List Addr} (r : RepMs k H' (bn fo R') l vs O) (t : Tmp R R' O) {p : Addr} (hp : H' p = none) : PostV k R σ H own env (.l l) (.ref p) (upd H' p (.lst vs)) := by
  refine ⟨fo, _, p :: O, a.lay hp, ⟨p, vs, O, rfl, upd_same, r.lay hp, rfl⟩, ?_, fun c hc => ?_⟩
  · refine List.nodup_cons.mpr ⟨fun hm => ?_, t.nd⟩
    obtain ⟨o, ho, _⟩ := r.own p hm
    rw [hp] at ho; cases ho
  · rcases List.mem_cons.mp hc with z | z
    · subst z
      exact ⟨.inl rfl, fun q => a.ok.al c (a.sub c q) hp⟩
    · exact ⟨.inr (t.mem c z).1, (t.mem c z).2⟩
theorem repMs_map : ∀ {l : List PV} {vs : List V}, RepPs k H B l vs → RepMs k H B (l.map .p) vs []
  | [], _, h => ⟨h, rfl⟩
  | p :: r, _, h => by
    obtain ⟨v, vs', e, q, t⟩ := h
    exact ⟨v, vs', [], [], e, ⟨q, rfl⟩, repMs_map t, rfl⟩
theorem PostV.lstP (a : At k R σ H own env fo R' H') {l : List PV} {vs : List V} (r : RepPs k H' (bn fo R') l vs) {p : Addr} (hp : H' p = none) : PostV k R σ H own env (.l (l.map .p)) (.ref p) (upd H' p (.lst vs)) :=
  .lst a (repMs_map r) ⟨List.nodup_nil, fun _ h => nomatch h⟩ hp

/-! ### looks -/
theorem RepPs.len : ∀ {l : List PV} {vs : List V}, RepPs k H B l vs → l.length = vs.length
  | [], _, h => by
    have h : _ = [] := h
    rw [h]; rfl
  | _ :: _, _, h => by
    obtain ⟨v, vs', e, _, t⟩ := h
    rw [e, List.length_cons, List.length_cons, t.len]
theorem RepMs.len : ∀ {l : List MV} {vs : List V} {O : List Addr}, RepMs k H B l vs O → l.length = vs.length
  | [], _, _, h => by rw [h.1]; rfl
  | _ :: _, _, _, h => by
    obtain ⟨v, vs', _, _, e, _, t, _⟩ := h
    rw [e, List.length_cons, List.length_cons, t.len]
theorem RepPs.app : ∀ {l m : List PV} {vs ws : List V}, RepPs k H B l vs → RepPs k H B m ws → RepPs k H B (l ++ m) (vs ++ ws)
  | [], _, _, _, h, g => by
    have h : _ = [] := h
    rw [h]; exact g
  | _ :: _, _, _, _, h, g => by
    obtain ⟨v, vs', e, q, t⟩ := h
    rw [e]
    exact ⟨v, _, rfl, q, t.app g⟩
theorem RepPs.get : ∀ {l : List PV} {vs : List V} {i : Nat} {p : PV}, RepPs k H B l vs → l[i]? = some p → ∃ v, vs[i]? = some v ∧ RepP k H B p v
  | [], _, _, _, _, e => by simp at e
  | _ :: _, _, 0, _, h, e => by
    obtain ⟨v, vs', e', q, t⟩ := h
    simp at e
    subst e e'
    exact ⟨v, rfl, q⟩
  | _ :: r, _, i + 1, p, h, e => by
    obtain ⟨v, vs', e', q, t⟩ := h
    subst e'
    obtain ⟨w, h1, h2⟩ := RepPs.get (i := i) (p := p) t (by simpa using e)
    exact ⟨w, by simpa using h1, h2⟩
theorem RepPs.take : ∀ {l : List PV} {vs : List V} (n : Nat), RepPs k H B l vs → RepPs k H B (l.take n) (vs.take n)
  | [], _, n, h => by
    have h : _ = [] := h
    rw [h]; simp; rfl
  | _ :: _, _, 0, _ => rfl
  | _ :: _, _, n + 1, h => by
    obtain ⟨v, vs', e, q, t⟩ := h
    subst e
    exact ⟨v, _, rfl, q, t.take n⟩
theorem RepPs.drop : ∀ {l : List PV} {vs : List V} (n : Nat), RepPs k H B l vs → RepPs k H B (l.drop n) (vs.drop n)
  | [], _, n, h => by
    have h : _ = [] := h
    rw [h]; simp; rfl
  | _ :: _, _, 0, h => h
  | _ :: _, _, n + 1, h => by
    obtain ⟨v, vs', e, q, t⟩ := h
    subst e
    exact t.drop n
theorem unpL_rep : ∀ {xs : List MV} {l : List PV} {vs : List V} {O : List Addr}, PL.unpL xs = some l → RepMs k H B xs vs O → RepPs k H B l vs ∧ O = []
  | [], l, _, _, e, h => by
    cases e
    exact ⟨h.1, h.2⟩
  | .p v :: r, l, _, _, e, h => by
    obtain ⟨x, vs', O1, O2, e', q, t, eo⟩ := h
    unfold PL.unpL at e
    cases z : PL.unpL r with
    | none => rw [z] at e; cases e
    | some m =>
      rw [z] at e
      cases e
      obtain ⟨t1, t2⟩ := unpL_rep z t
      exact ⟨⟨x, vs', e', q.1, t1⟩, by rw [eo, q.2, t2]; rfl⟩
  | .l _ :: _, _, _, _, e, _ => by cases e
  | .d _ _ _ :: _, _, _, _, e, _ => by cases e
theorem unpL_eq : ∀ {xs : List MV} {l : List PV}, PL.unpL xs = some l → xs = l.map .p
  | [], _, e => by cases e; rfl
  | .p v :: r, l, e => by
    unfold PL.unpL at e
    cases z : PL.unpL r with
    | none => rw [z] at e; cases e
    | some m =>
      rw [z] at e
      cases e
      rw [unpL_eq z]; rfl
  | .l _ :: _, _, e => by cases e
  | .d _ _ _ :: _, _, e => by cases e
/-- a list looked at -/
theorem lstV_rep {m : MV} {l : List PV} {x : V} {O : List Addr} (e : PL.lstV m = some l) (h : RepM k H B m x O) : ∃ a vs, x = .ref a ∧ H a = some (.lst vs) ∧ RepPs k H B l vs := by
  match m, e with
  | .p (.fls l'), e =>
    cases e
    obtain ⟨a, vs, e, q, _, r⟩ := h.1
    exact ⟨a, vs, e, q, r⟩
  | .l xs, e =>
    obtain ⟨a, vs, O', e', q, r, _⟩ := h
    exact ⟨a, vs, e', q, (unpL_rep e r).1⟩
theorem seqV_rep {m : MV} {l : List PV} {x : V} {O : List Addr} (e : PL.seqV m = some l) (h : RepM k H B m x O) : ∃ a vs, x = .ref a ∧ (SqL k.K H a vs ∨ SqT k.K H a vs) ∧ RepPs k H B l vs := by
  match m, e with
  | .p (.tup w l'), e =>
    cases e
    obtain ⟨a, vs, e, q, _, r⟩ := h.1
    exact ⟨a, vs, e, .inr q, r⟩
  | .p (.fls l'), e =>
    cases e
    obtain ⟨a, vs, e, q, _, r⟩ := h.1
    exact ⟨a, vs, e, .inl (SqL.of q), r⟩
  | .l xs, e =>
    obtain ⟨a, vs, O', e', q, r, _⟩ := h
    exact ⟨a, vs, e', .inl (SqL.of q), (unpL_rep e r).1⟩
theorem ints_rep : ∀ {l : List PV} {ns : List Int} {vs : List V}, PL.intsOf l = some ns → RepPs k H B l vs → vs = ns.map V.int
  | [], _, _, e, h => by
    cases e
    exact h
  | .int i :: r, ns, _, e, h => by
    obtain ⟨v, vs', e', q, t⟩ := h
    unfold PL.intsOf at e
    cases z : PL.intsOf r with
    | none => rw [z] at e; cases e
    | some m =>
      rw [z] at e
      cases e
      have q : v = V.int i := q
      rw [e', q, ints_rep z t]; rfl
  | .non :: _, _, _, e, _ => by cases e
  | .bl _ :: _, _, _, e, _ => by cases e
  | .str _ :: _, _, _, e, _ => by cases e
  | .tup _ _ :: _, _, _, e, _ => by cases e
  | .fls _ :: _, _, _, e, _ => by cases e
  | .fdc _ _ _ :: _, _, _, e, _ => by cases e
  | .exc _ _ _ :: _, _, _, e, _ => by cases e
  | .sls _ :: _, _, _, e, _ => by cases e
theorem bls_rep : ∀ {l : List PV} {ns : List Bool} {vs : List V}, PL.blsOf l = some ns → RepPs k H B l vs → vs = ns.map V.bl
  | [], _, _, e, h => by
    cases e
    exact h
  | .bl i :: r, ns, _, e, h => by
    obtain ⟨v, vs', e', q, t⟩ := h
    unfold PL.blsOf at e
    cases z : PL.blsOf r with
    | none => rw [z] at e; cases e
    | some m =>
      rw [z] at e
      cases e
      have q : v = V.bl i := q
      rw [e', q, bls_rep z t]; rfl
  | .non :: _, _, _, e, _ => by cases e
  | .int _ :: _, _, _, e, _ => by cases e
  | .str _ :: _, _, _, e, _ => by cases e
  | .tup _ _ :: _, _, _, e, _ => by cases e
  | .fls _ :: _, _, _, e, _ => by cases e
  | .fdc _ _ _ :: _, _, _, e, _ => by cases e
  | .exc _ _ _ :: _, _, _, e, _ => by cases e
  | .sls _ :: _, _, _, e, _ => by cases e
theorem rep_ints : ∀ (ns : List Int), RepPs k H B (ns.map .int) (ns.map V.int)
  | [] => rfl
  | n :: r => ⟨_, _, rfl, rfl, rep_ints r⟩
end

/-! ### two operands -/
/-- what an operator's reading may lean on, what it must give -/
def OpS (k : Kx) (o : PL.BOp) (r : R2) : Prop := ∀ (R : Addr → Prop) (σ : L2.St) (H : Hp) (env : PL.Env) (fo : Nat → List Addr), EnvOk k R H env σ fo → ∀ (u v w : MV) (x y : V) (O1 O2 : List Addr) (Q : VK),
  RepM k H (bn fo R) u x O1 → RepM k H (bn fo R) v y O2 → PL.binF o u v = some w → (∀ z H', PostV k R σ H (Own fo) env w z H' → Q z H') → r x y H Q
section
variable {X : Cx} {k : Kx}
/-- a result that is plain -/
theorem EnvOk.plain {R : Addr → Prop} {σ : L2.St} {H : Hp} {env : PL.Env} {fo : Nat → List Addr} (e : EnvOk k R H env σ fo) {v : PV} {x : V} (r : RepP k H (bn fo R) v x) : PostV k R σ H (Own fo) env (.p v) x H := .pure (.refl e) r
def rAddK (K : PySem.W.Frag) : R2 := fun x y H Q => rI0 (fun i j => .int (i + j)) x y H Q ∨ (∃ i j, x = .str i ∧ y = .str j ∧ i.length + j.length ≤ sizeLine ∧ Q (.str (i ++ j)) H) ∨ rCatA K x y H Q ∨ rCat x y H Q
theorem op_addK : OpR X (binaryOp .Add) (rAddK X.K) := OpR.or op_add (OpR.or op_add_str (OpR.or op_catA op_cat))
end
end LB

end
section
set_option Elab.async false
set_option linter.all false
set_option maxRecDepth 100000
set_option maxHeartbeats 1000000
/-! Layer B, 3: the binary operators. -/
namespace LB
open PySem PySem.Spec PyProof.Rows L2
open PL (PV MV Txt IE IEs IT II IS ISs)
section
variable {X : Cx} {k : Kx}
theorem ops_add : OpS k .add (rAddK k.K) := by
  intro R σ H env fo e u v w x y O1 O2 Q r1 r2 hb q
  unfold PL.binF at hb
  split at hb <;> try contradiction
  · -- ints
    cases hb
    have h1 : x = _ := r1.1
    have h2 : y = _ := r2.1
    exact .inl ⟨_, _, h1, h2, q _ _ (e.plain rfl)⟩
  · split at hb
    · rename_i hl
      cases hb
      have h1 : x = _ := r1.1
      have h2 : y = _ := r2.1
      refine .inr (.inl ⟨_, _, h1, h2, by rw [strOf_len, strOf_len, ← lim_eq]; exact hl, ?_⟩)
      rw [strOf_app]
      exact q _ _ (e.plain rfl)
    · cases hb
  · split at hb
    · rename_i a b hl
      cases hb
      obtain ⟨p1, vs, e1, s1, g1, t1⟩ := r1.1
      obtain ⟨p2, ws, e2, s2, g2, t2⟩ := r2.1
      have l1 := t1.len
      have l2 := t2.len
      refine .inr (.inr (.inl ⟨p1, p2, vs, ws, e1, e2, s1, s2, by rw [← l1, ← l2, ← lim_eq]; exact hl, fun z => ?_, fun _ z => ?_, fun _ _ p hp => ?_⟩))
      · refine q _ _ (e.plain ⟨p2, ws, rfl, s2, g2, ?_⟩)
        have := t1.app t2
        rw [z] at this
        exact this
      · refine q _ _ (e.plain ⟨p1, vs, rfl, s1, g1, ?_⟩)
        have := t1.app t2
        rw [z, List.append_nil] at this
        exact this
      · exact q _ _ (.tup (.refl e) (t1.app t2) hp)
    · cases hb
  · split at hb
    · rename_i l m h1 h2
      split at hb
      · rename_i hl
        cases hb
        obtain ⟨p1, vs, e1, s1, t1⟩ := lstV_rep h1 r1
        obtain ⟨p2, ws, e2, s2, t2⟩ := lstV_rep h2 r2
        have l1 := t1.len
        have l2 := t2.len
        refine .inr (.inr (.inr ⟨p1, p2, vs, ws, e1, e2, s1, s2, by rw [← l1, ← l2, ← lim_eq]; exact hl, fun p hp => ?_⟩))
        exact q _ _ (.lstP (.refl e) (t1.app t2) hp)
      · cases hb
    · cases hb
theorem ops_sub : OpS k .sub (rI0 fun i j => .int (i - j)) := by
  intro R σ H env fo e u v w x y O1 O2 Q r1 r2 hb q
  unfold PL.binF at hb
  split at hb <;> try contradiction
  · cases hb
    have h1 : x = _ := r1.1
    have h2 : y = _ := r2.1
    exact ⟨_, _, h1, h2, q _ _ (e.plain rfl)⟩

theorem ops_mul : OpS k .mul (rI CMulW fun i j => .int (i * j)) := by
  intro R σ H env fo e u v w x y O1 O2 Q r1 r2 hb q
  unfold PL.binF at hb
  split at hb <;> try contradiction
  split at hb
  · rename_i hc
    cases hb
    have h1 : x = _ := r1.1
    have h2 : y = _ := r2.1
    exact ⟨_, _, h1, h2, hc, q _ _ (e.plain rfl)⟩
  · cases hb
theorem ops_fdiv : OpS k .fdiv (rI CDivW fun i j => .int (i / j)) := by
  intro R σ H env fo e u v w x y O1 O2 Q r1 r2 hb q
  unfold PL.binF at hb
  split at hb <;> try contradiction
  split at hb
  · rename_i hc
    cases hb
    have h1 : x = _ := r1.1
    have h2 : y = _ := r2.1
    exact ⟨_, _, h1, h2, hc, q _ _ (e.plain rfl)⟩
  · cases hb
theorem ops_mod : OpS k .mod (rI (fun _ j => 0 < j) fun i j => .int (i % j)) := by
  intro R σ H env fo e u v w x y O1 O2 Q r1 r2 hb q
  unfold PL.binF at hb
  split at hb <;> try contradiction
  split at hb
  · rename_i hc
    cases hb
    have h1 : x = _ := r1.1
    have h2 : y = _ := r2.1
    exact ⟨_, _, h1, h2, hc, q _ _ (e.plain rfl)⟩
  · cases hb
theorem ops_pow : OpS k .pow (rI CPow fun i j => .int (i ^ j.toNat)) := by
  intro R σ H env fo e u v w x y O1 O2 Q r1 r2 hb q
  unfold PL.binF at hb
  split at hb <;> try contradiction
  split at hb
  · rename_i hc
    cases hb
    have h1 : x = _ := r1.1
    have h2 : y = _ := r2.1
    exact ⟨_, _, h1, h2, hc, q _ _ (e.plain rfl)⟩
  · cases hb
theorem ops_shl : OpS k .shl (rI CPow fun i j => .int (i * 2 ^ j.toNat)) := by
  intro R σ H env fo e u v w x y O1 O2 Q r1 r2 hb q
  unfold PL.binF at hb
  split at hb <;> try contradiction
  split at hb
  · rename_i hc
    cases hb
    have h1 : x = _ := r1.1
    have h2 : y = _ := r2.1
    exact ⟨_, _, h1, h2, hc, q _ _ (e.plain rfl)⟩
  · cases hb
theorem ops_shr : OpS k .shr (rI (fun _ j => 0 ≤ j) fun i j => .int (i / 2 ^ j.toNat)) := by
  intro R σ H env fo e u v w x y O1 O2 Q r1 r2 hb q
  unfold PL.binF at hb
  split at hb <;> try contradiction
  split at hb
  · rename_i hc
    cases hb
    have h1 : x = _ := r1.1
    have h2 : y = _ := r2.1
    exact ⟨_, _, h1, h2, hc, q _ _ (e.plain rfl)⟩
  · cases hb

/-! ### comparisons -/
mutual
def toD : PV → PyData
  | .non => .none
  | .bl b => .bool b
  | .int i => .int i
  | .str s => .str (strOf s)
  | .tup _ l => .tuple (toDs l)
  | .fls l => .list (toDs l)
  | _ => .none
def toDs : List PV → List PyData
  | [] => []
  | x :: r => toD x :: toDs r
end
mutual
theorem dp_of {H : Hp} {B : Addr → Prop} : ∀ {p : PV} {x : V}, PL.okData p = true → RepP k H B p x → Dp k.K H x (toD p)
  | .non, _, _, h => by
    have h : _ = V.non := h
    rw [h]; exact .non
  | .bl b, _, _, h => by
    have h : _ = V.bl b := h
    rw [h]; exact .bl b
  | .int i, _, _, h => by
    have h : _ = V.int i := h
    rw [h]; exact .int i
  | .str s, _, _, h => by
    have h : _ = V.str (strOf s) := h
    rw [h]; exact .str _
  | .tup _ l, _, o, h => by
    obtain ⟨a, vs, e, q, _, r⟩ := h
    rw [e]
    exact .tup q (dps_of (show PL.okDataL l = true from o) r)
  | .fls l, _, o, h => by
    obtain ⟨a, vs, e, q, _, r⟩ := h
    rw [e]
    exact .lst (SqL.of q) (dps_of (show PL.okDataL l = true from o) r)
  | .fdc _ _ _, _, o, _ => by cases o
  | .exc _ _ _, _, o, _ => by cases o
  | .sls _, _, o, _ => by cases o
theorem dps_of {H : Hp} {B : Addr → Prop} : ∀ {p : List PV} {x : List V}, PL.okDataL p = true → RepPs k H B p x → DpAll k.K H x (toDs p)
  | [], _, _, h => by
    have h : _ = [] := h
    rw [h]; exact .nil
  | p :: r, _, o, h => by
    obtain ⟨v, vs', e, q, t⟩ := h
    have o : (PL.okData p && PL.okDataL r) = true := o
    rw [Bool.and_eq_true] at o
    rw [e]
    exact .cons (dp_of o.1 q) (dps_of o.2 t)
end
mutual
theorem canLay_of : ∀ {p : PV}, PL.okData p = true → (toD p).canLay0 = true
  | .non, _ => rfl
  | .bl _, _ => rfl
  | .int _, _ => rfl
  | .str s, o => by
    have o : (s.all fun c => decide (c < 1114112)) = true := o
    show (s.toArray.all fun c => decide (c < 0x110000)) = true
    rw [List.all_toArray]
    exact o
  | .tup _ l, o => canLays_of (show PL.okDataL l = true from o)
  | .fls l, o => canLays_of (show PL.okDataL l = true from o)
  | .fdc _ _ _, o => by cases o
  | .exc _ _ _, o => by cases o
  | .sls _, o => by cases o
theorem canLays_of : ∀ {p : List PV}, PL.okDataL p = true → PyData.canLayAll0 (toDs p) = true
  | [], _ => rfl
  | p :: r, o => by
    have o : (PL.okData p && PL.okDataL r) = true := o
    rw [Bool.and_eq_true] at o
    show ((toD p).canLay0 && PyData.canLayAll0 (toDs r)) = true
    rw [canLay_of o.1, canLays_of o.2]; rfl
end
mutual
theorem depth_of : ∀ (p : PV), (toD p).depth = PL.dep p
  | .non => rfl
  | .bl _ => rfl
  | .int _ => rfl
  | .str _ => rfl
  | .tup _ l => by
    show PyData.depthAll (toDs l) + 1 = PL.depL l + 1
    rw [depths_of]
  | .fls l => by
    show PyData.depthAll (toDs l) + 1 = PL.depL l + 1
    rw [depths_of]
  | .fdc _ _ _ => rfl
  | .exc _ _ _ => rfl
  | .sls _ => rfl
theorem depths_of : ∀ (p : List PV), PyData.depthAll (toDs p) = PL.depL p
  | [] => rfl
  | p :: r => by
    show max (toD p).depth (PyData.depthAll (toDs r)) = max (PL.dep p) (PL.depL r)
    rw [depth_of, depths_of]
end
theorem shaped_of {p : PV} (h : PL.isData p = true) : SeqAt.shaped (toD p) = true := by
  unfold PL.isData at h
  rw [Bool.and_eq_true] at h
  unfold SeqAt.shaped
  rw [canLay_of h.1, depth_of]
  exact h.2
theorem strOf_beq (a b : Txt) : (strOf a == strOf b) = decide (a = b) := by
  by_cases h : a = b
  · subst h; simp
  · have : strOf a ≠ strOf b := fun z => h (strOf_inj z)
    simp [h, this]
mutual
theorem eqv_of : ∀ {p q : PV}, PL.okData p = true → PL.okData q = true → PyData.eqv (toD p) (toD q) = PL.eqv p q
  | .non, q, _, o => by cases q <;> first | rfl | cases o
  | .bl a, q, _, o => by
    cases q <;> first | rfl | cases o
  | .int a, q, _, o => by
    cases q <;> first | rfl | cases o
  | .str a, q, _, o => by
    cases q <;> first | rfl | cases o | skip
    exact strOf_beq _ _
  | .tup _ a, q, o1, o => by
    cases q <;> first | rfl | cases o | skip
    exact eqvs_of (show PL.okDataL a = true from o1) o
  | .fls a, q, o1, o => by
    cases q <;> first | rfl | cases o | skip
    exact eqvs_of (show PL.okDataL a = true from o1) o
  | .fdc _ _ _, _, o, _ => by cases o
  | .exc _ _ _, _, o, _ => by cases o
  | .sls _, _, o, _ => by cases o
theorem eqvs_of : ∀ {p q : List PV}, PL.okDataL p = true → PL.okDataL q = true → PyData.eqvAll (toDs p) (toDs q) = PL.eqvL p q
  | [], [], _, _ => rfl
  | [], _ :: _, _, _ => rfl
  | _ :: _, [], _, _ => rfl
  | p :: r, q :: s, o1, o2 => by
    have o1 : (PL.okData p && PL.okDataL r) = true := o1
    have o2 : (PL.okData q && PL.okDataL s) = true := o2
    rw [Bool.and_eq_true] at o1 o2
    show (PyData.eqv (toD p) (toD q) && PyData.eqvAll (toDs r) (toDs s)) = (PL.eqv p q && PL.eqvL r s)
    rw [eqv_of o1.1 o2.1, eqvs_of o1.2 o2.2]
end
/-- a look at a value as frozen data -/
theorem RepM.data {H : Hp} {B : Addr → Prop} {m : MV} {x : V} {O : List Addr} (r : RepM k H B m x O) : RepP k H (fun _ => False) (PL.frz m) x := r.frz (fun _ _ _ => id) fun _ _ => id
def CmS (k : Kx) (o : PL.COp) (r : R2) : Prop := ∀ (R : Addr → Prop) (H : Hp) (fo : Nat → List Addr) (u v : MV) (c : Bool) (x y : V) (O1 O2 : List Addr) (Q : VK),
  RepM k H (bn fo R) u x O1 → RepM k H (bn fo R) v y O2 → PL.cmpF o u v = some c → Q (.bl c) H → r x y H Q
theorem cms_eq : CmS k .eq (rEqD k.K) := by
  intro R H fo u v c x y O1 O2 Q r1 r2 hc q
  unfold PL.cmpF at hc
  split at hc <;> try contradiction
  split at hc
  · rename_i h
    rw [Bool.and_eq_true] at h
    cases hc
    have o1 := h.1
    have o2 := h.2
    unfold PL.isData at o1 o2
    rw [Bool.and_eq_true] at o1 o2
    refine ⟨_, _, dp_of o1.1 r1.data, dp_of o2.1 r2.data, shaped_of h.1, shaped_of h.2, ?_⟩
    rw [eqv_of o1.1 o2.1]
    exact q
  · cases hc
theorem cms_ne : CmS k .ne (rNeD k.K) := by
  intro R H fo u v c x y O1 O2 Q r1 r2 hc q
  unfold PL.cmpF at hc
  split at hc <;> try contradiction
  split at hc
  · rename_i h
    rw [Bool.and_eq_true] at h
    cases hc
    have o1 := h.1
    have o2 := h.2
    unfold PL.isData at o1 o2
    rw [Bool.and_eq_true] at o1 o2
    refine ⟨_, _, dp_of o1.1 r1.data, dp_of o2.1 r2.data, shaped_of h.1, shaped_of h.2, ?_⟩
    rw [eqv_of o1.1 o2.1]
    exact q
  · cases hc
theorem lexLt_eq : ∀ a b : List Int, HT.lexLt a b = PL.lexLt a b
  | [], [] => rfl
  | [], _ :: _ => rfl
  | _ :: _, [] => rfl
  | x :: xs, y :: ys => by
    show (if x = y then HT.lexLt xs ys else decide (x < y)) = (if x = y then PL.lexLt xs ys else decide (x < y))
    rw [lexLt_eq xs ys]
def rLtK (K : PySem.W.Frag) : R2 := fun x y H Q => rI0 (fun i j => .bl (decide (i < j))) x y H Q ∨ rLtT K x y H Q
theorem op_ltK (hu : X.A.units < cLine) : OpR X (compareOp .Lt) (rLtK X.K) := OpR.or op_lt (op_ltT hu)
theorem cms_lt : CmS k .lt (rLtK k.K) := by
  intro R H fo u v c x y O1 O2 Q r1 r2 hc q
  unfold PL.cmpF at hc
  split at hc <;> try contradiction
  · cases hc
    exact .inl ⟨_, _, r1.1, r2.1, q⟩
  · split at hc
    · rename_i h1 h2
      cases hc
      obtain ⟨a, vs, e1, s1, _, t1⟩ := r1.1
      obtain ⟨b, ws, e2, s2, _, t2⟩ := r2.1
      have z1 := ints_rep h1 t1
      have z2 := ints_rep h2 t2
      subst z1 z2
      refine .inr ⟨a, b, _, _, e1, e2, s1, s2, ?_⟩
      rw [lexLt_eq]; exact q
    · cases hc
theorem cms_le : CmS k .le (rI0 fun i j => .bl (decide (i ≤ j))) := by
  intro R H fo u v c x y O1 O2 Q r1 r2 hc q
  unfold PL.cmpF at hc
  split at hc <;> try contradiction
  cases hc
  exact ⟨_, _, r1.1, r2.1, q⟩
theorem cms_gt : CmS k .gt (rI0 fun i j => .bl (decide (j < i))) := by
  intro R H fo u v c x y O1 O2 Q r1 r2 hc q
  unfold PL.cmpF at hc
  split at hc <;> try contradiction
  cases hc
  exact ⟨_, _, r1.1, r2.1, q⟩
theorem cms_ge : CmS k .ge (rI0 fun i j => .bl (decide (j ≤ i))) := by
  intro R H fo u v c x y O1 O2 Q r1 r2 hc q
  unfold PL.cmpF at hc
  split at hc <;> try contradiction
  cases hc
  exact ⟨_, _, r1.1, r2.1, q⟩
end
end LB

end
section
set_option Elab.async false
set_option linter.all false
set_option maxRecDepth 100000
set_option maxHeartbeats 1000000
/-! Layer B, 4: is, in; dicts; truth; the built-in functions. -/
namespace LB
open PySem PySem.Spec PyProof.Rows L2
open PL (PV MV Txt IE IEs IT II IS ISs)
section
variable {X : Cx} {k : Kx} {H : Hp} {B : Addr → Prop}
/-! ### is -/
theorem RepP.non_iff {p : PV} {x : V} (r : RepP k H B p x) : decide (x = V.non) = PL.isNonP p := by
  cases p with
  | non => have r : x = _ := r; rw [r]; rfl
  | bl b => have r : x = _ := r; rw [r]; rfl
  | int i => have r : x = _ := r; rw [r]; rfl
  | str s => have r : x = _ := r; rw [r]; rfl
  | tup w l => obtain ⟨a, _, e, _⟩ := r; rw [e]; rfl
  | fls l => obtain ⟨a, _, e, _⟩ := r; rw [e]; rfl
  | fdc t ks ws => obtain ⟨a, _, e, _⟩ := r; rw [e]; rfl
  | exc c f w => obtain ⟨a, _, e, _⟩ := r; rw [e]; rfl
  | sls l => obtain ⟨a, e, _⟩ := r; rw [e]; rfl
def rIsK : R2 := fun x y H Q => (y = .non ∧ Q (.bl (decide (x = .non))) H) ∨ ∃ a b, x = .bl a ∧ y = .bl b ∧ Q (.bl (decide (a = b))) H
theorem op_isK : OpR X (compareOp .Is) rIsK := OpR.or op_isN op_is_bl
def rIsNotK : R2 := fun x y H Q => (y = .non ∧ Q (.bl (!decide (x = .non))) H) ∨ ∃ a b, x = .bl a ∧ y = .bl b ∧ Q (.bl (!decide (a = b))) H
theorem op_isNotK : OpR X (compareOp .IsNot) rIsNotK := OpR.or op_notN op_isnot_bl
theorem cms_is : CmS k .is rIsK := by
  intro R H fo u v c x y O1 O2 Q r1 r2 hc q
  unfold PL.cmpF at hc
  split at hc <;> try contradiction
  · rename_i a
    have e := r1.1.non_iff
    have hy : y = V.non := r2.1
    refine .inl ⟨hy, ?_⟩
    cases hc
    rw [e]; exact q
  · cases hc
    obtain ⟨a, _, _, e, _⟩ := r1
    have hy : y = V.non := r2.1
    refine .inl ⟨hy, ?_⟩
    rw [e]; exact q
  · cases hc
    have h1 : x = _ := r1.1
    have h2 : y = _ := r2.1
    refine .inr ⟨_, _, h1, h2, ?_⟩
    rw [Bool.beq_eq_decide_eq] at q
    exact q
theorem cms_isNot : CmS k .isNot rIsNotK := by
  intro R H fo u v c x y O1 O2 Q r1 r2 hc q
  unfold PL.cmpF at hc
  split at hc <;> try contradiction
  · rename_i a
    have e := r1.1.non_iff
    have hy : y = V.non := r2.1
    refine .inl ⟨hy, ?_⟩
    cases hc
    rw [e]; exact q
  · cases hc
    obtain ⟨a, _, _, e, _⟩ := r1
    have hy : y = V.non := r2.1
    refine .inl ⟨hy, ?_⟩
    rw [e]; exact q
  · cases hc
    have h1 : x = _ := r1.1
    have h2 : y = _ := r2.1
    refine .inr ⟨_, _, h1, h2, ?_⟩
    rw [Bool.beq_eq_decide_eq] at q
    exact q

/-! ### in -/
theorem flat_rep {p : PV} {x : V} (h : PL.isFlat p = true) (r : RepP k H B p x) : flatV x = true := by
  cases p with
  | non => have r : x = _ := r; rw [r]; rfl
  | bl b => have r : x = _ := r; rw [r]; rfl
  | int i => have r : x = _ := r; rw [r]; rfl
  | str s => have r : x = _ := r; rw [r]; rfl
  | _ => cases h
theorem eqV_rep {p q : PV} {x y : V} (hp : PL.isFlat p = true) (hq : PL.isFlat q = true) (r : RepP k H B p x) (s : RepP k H B q y) : eqV x y = PL.eqv p q := by
  have key : ∀ a b : Txt, (strOf a == strOf b) = decide (a = b) := strOf_beq
  cases p with
  | non => have r : x = _ := r; cases q with
    | non => have s : y = _ := s; rw [r, s]; rfl
    | bl b => have s : y = _ := s; rw [r, s]; rfl
    | int i => have s : y = _ := s; rw [r, s]; rfl
    | str t => have s : y = _ := s; rw [r, s]; rfl
    | _ => cases hq
  | bl a => have r : x = _ := r; cases q with
    | non => have s : y = _ := s; rw [r, s]; rfl
    | bl b => have s : y = _ := s; rw [r, s]; rfl
    | int i => have s : y = _ := s; rw [r, s]; rfl
    | str t => have s : y = _ := s; rw [r, s]; rfl
    | _ => cases hq
  | int a => have r : x = _ := r; cases q with
    | non => have s : y = _ := s; rw [r, s]; rfl
    | bl b => have s : y = _ := s; rw [r, s]; rfl
    | int i => have s : y = _ := s; rw [r, s]; rfl
    | str t => have s : y = _ := s; rw [r, s]; rfl
    | _ => cases hq
  | str a => have r : x = _ := r; cases q with
    | non => have s : y = _ := s; rw [r, s]; rfl
    | bl b => have s : y = _ := s; rw [r, s]; rfl
    | int i => have s : y = _ := s; rw [r, s]; rfl
    | str t => have s : y = _ := s; rw [r, s]; exact key _ _
    | _ => cases hq
  | _ => cases hp
theorem inV_rep {v : PV} {y : V} (hv : PL.isFlat v = true) (s : RepP k H B v y) : ∀ {l : List PV} {xs : List V}, l.all PL.isFlat = true → RepPs k H B l xs → xs.all flatV = true ∧ inV y xs = l.any fun z => PL.eqv z v
  | [], _, _, h => by
    have h : _ = [] := h
    rw [h]; exact ⟨rfl, rfl⟩
  | p :: r, _, hl, h => by
    obtain ⟨x, vs', e, q, t⟩ := h
    rw [List.all_cons, Bool.and_eq_true] at hl
    obtain ⟨h1, h2⟩ := inV_rep hv s hl.2 t
    subst e
    refine ⟨by rw [List.all_cons, flat_rep hl.1 q, h1]; rfl, ?_⟩
    show (eqV x y || inV y vs') = (PL.eqv p v || r.any _)
    rw [eqV_rep hl.1 hv q s, h2]

/-! ### dicts -/
theorem keyOf_eqv {p q : PV} {a b : Key} (h1 : keyOf p = some a) (h2 : keyOf q = some b) : PL.eqv p q = decide (a = b) := by
  cases p with
  | int i =>
    cases h1
    cases q with
    | int j =>
      cases h2
      show decide (i = j) = decide ((Sum.inl i : Key) = Sum.inl j)
      by_cases h : i = j
      · subst h; simp
      · have : ¬ (Sum.inl i : Key) = Sum.inl j := fun z => h (Sum.inl.inj z)
        simp [h, this]
    | str t => cases h2; rfl
    | _ => cases h2
  | str s =>
    cases h1
    cases q with
    | int j => cases h2; rfl
    | str t =>
      cases h2
      show decide (s = t) = decide ((Sum.inr (strOf s) : Key) = Sum.inr (strOf t))
      by_cases h : s = t
      · subst h; simp
      · have : ¬ (Sum.inr (strOf s) : Key) = Sum.inr (strOf t) := fun z => h (strOf_inj (Sum.inr.inj z))
        simp [h, this]
    | _ => cases h2
  | _ => cases h1
theorem keysOf_eqv : ∀ {p q : List PV} {a b : List Key}, keysOf p = some a → keysOf q = some b → PL.eqvL p q = decide (a = b)
  | [], [], _, _, h1, h2 => by cases h1; cases h2; rfl
  | [], y :: q, _, b, h1, h2 => by
    cases h1
    unfold keysOf at h2
    cases e : keyOf y with
    | none => rw [e] at h2; cases h2
    | some k => cases e2 : keysOf q with
      | none => rw [e, e2] at h2; cases h2
      | some ks => rw [e, e2] at h2; cases h2; rfl
  | x :: p, [], a, _, h1, h2 => by
    cases h2
    unfold keysOf at h1
    cases e : keyOf x with
    | none => rw [e] at h1; cases h1
    | some k => cases e2 : keysOf p with
      | none => rw [e, e2] at h1; cases h1
      | some ks => rw [e, e2] at h1; cases h1; rfl
  | x :: p, y :: q, a, b, h1, h2 => by
    unfold keysOf at h1 h2
    cases e : keyOf x with
    | none => rw [e] at h1; cases h1
    | some k => cases e2 : keysOf p with
      | none => rw [e, e2] at h1; cases h1
      | some ks =>
        rw [e, e2] at h1
        cases h1
        cases e3 : keyOf y with
        | none => rw [e3] at h2; cases h2
        | some k' => cases e4 : keysOf q with
          | none => rw [e3, e4] at h2; cases h2
          | some ks' =>
            rw [e3, e4] at h2
            cases h2
            show (PL.eqv x y && PL.eqvL p q) = decide (k :: ks = k' :: ks')
            rw [keyOf_eqv e e3, keysOf_eqv e2 e4]
            by_cases g : k = k'
            · subst g; simp
            · simp [g]
theorem keyT_eqv {p q : PV} {a b : List Key} (h1 : keyT p = some a) (h2 : keyT q = some b) : PL.eqv p q = decide (a = b) := by
  cases p with
  | tup w l =>
    cases w with
    | true => cases h1
    | false =>
      cases q with
      | tup w' l' =>
        cases w' with
        | true => cases h2
        | false => exact keysOf_eqv h1 h2
      | _ => cases h2
  | _ => cases h1
theorem flatKs : ∀ {l : List PV} {vs : List V}, l.all PL.isFlatK = true → RepPs k H B l vs → ∃ ks, keysOf l = some ks ∧ vs = ks.map kV
  | [], _, _, h => by
    have h : _ = [] := h
    exact ⟨[], rfl, h⟩
  | p :: r, _, hl, h => by
    obtain ⟨x, vs', e, q, t⟩ := h
    rw [List.all_cons, Bool.and_eq_true] at hl
    obtain ⟨ks, e1, e2⟩ := flatKs hl.2 t
    unfold keysOf
    cases p with
    | int i =>
      have q : x = _ := q
      exact ⟨.inl i :: ks, by rw [e1]; rfl, by rw [e, q, e2]; rfl⟩
    | str s =>
      have q : x = _ := q
      exact ⟨.inr (strOf s) :: ks, by rw [e1]; rfl, by rw [e, q, e2]; rfl⟩
    | _ => cases hl.1
/-- a key of a dict: its Key, and where it stands -/
theorem key_rep {p : PV} {x : V} (h : PL.isKey p = true) (r : RepP k H B p x) : (PL.isTupK p = false ∧ ∃ κ, keyOf p = some κ ∧ x = kV κ) ∨ (PL.isTupK p = true ∧ ∃ κ b, keyT p = some κ ∧ x = .ref b ∧ H b = some (.tup (κ.map kV))) := by
  cases p with
  | int i => exact .inl ⟨rfl, .inl i, rfl, r⟩
  | str s => exact .inl ⟨rfl, .inr (strOf s), rfl, r⟩
  | tup w l =>
    cases w with
    | true => cases h
    | false =>
      obtain ⟨a, vs, e, _, q, t⟩ := r
      obtain ⟨ks, e1, e2⟩ := flatKs (show l.all PL.isFlatK = true from h) t
      exact .inr ⟨rfl, ks, a, e1, e, by rw [← e2]; exact q rfl⟩
  | _ => cases h
section
variable {κ : Type} [DecidableEq κ]
theorem dget_val {f : PV → Option κ} (hf : ∀ p q a b, f p = some a → f q = some b → PL.eqv p q = decide (a = b)) {x : PV} {c : κ} (hx : f x = some c) : ∀ {ks : List PV} {kk : List κ} {ws : List PV} {vs : List V}, ks.map f = kk.map some → kk.length = vs.length → RepPs k H B ws vs →
    (∀ w, PL.dget ks ws x = some w → ∃ v, valV (kk.zip vs) c = some v ∧ RepP k H B w v) ∧ (PL.dget ks ws x = none → valV (kk.zip vs) c = none)
  | [], kk, ws, vs, e, l, r => by
    cases kk with
    | cons _ _ => cases e
    | nil => exact ⟨fun w h => (by cases ws <;> cases h), fun _ => rfl⟩
  | p :: ks, [], _, _, e, _, _ => by cases e
  | p :: ks, a :: kk, ws, [], e, l, r => by cases l
  | p :: ks, a :: kk, [], v :: vs, e, l, r => by
    have r : v :: vs = [] := r
    cases r
  | p :: ks, a :: kk, w :: ws, v :: vs, e, l, r => by
    obtain ⟨v', vs', e', q, t⟩ := r
    cases e'
    have e1 : f p = some a := (List.cons.inj e).1
    have e2 : ks.map f = kk.map some := (List.cons.inj e).2
    obtain ⟨i1, i2⟩ := dget_val hf hx e2 (Nat.succ.inj l) t
    have he := hf p x a c e1 hx
    by_cases g : a = c
    · rw [decide_eq_true g] at he
      have hd : PL.dget (p :: ks) (w :: ws) x = some w := by
        show (if PL.eqv p x = true then some w else _) = _
        rw [he, if_pos rfl]
      have hv : valV ((a :: kk).zip (v :: vs)) c = some v := valV_pos (p := (a, v)) g
      rw [hd, hv]
      exact ⟨fun w' h => ⟨v, rfl, by cases h; exact q⟩, fun h => by cases h⟩
    · rw [decide_eq_false g] at he
      have hd : PL.dget (p :: ks) (w :: ws) x = PL.dget ks ws x := by
        show (if PL.eqv p x = true then some w else _) = _
        rw [he]; rfl
      have hv : valV ((a :: kk).zip (v :: vs)) c = valV (kk.zip vs) c := by
        unfold valV
        rw [List.zip_cons_cons, List.find?_cons]
        simp [g]
      rw [hd, hv]
      exact ⟨i1, i2⟩
/-- a key is put: in its place, or behind all -/
theorem dput_val {f : PV → Option κ} (hf : ∀ p q a b, f p = some a → f q = some b → PL.eqv p q = decide (a = b)) {x w : PV} {c : κ} {v : V} (hx : f x = some c) (rw' : RepP k H B w v) : ∀ {ks : List PV} {kk : List κ} {ws : List PV} {vs : List V}, ks.map f = kk.map some → kk.length = vs.length → kk.Nodup → RepPs k H B ws vs →
    ∃ (kk' : List κ) (vs' : List V), (PL.dput ks ws x w).1.map f = kk'.map some ∧ kk'.length = vs'.length ∧ kk'.Nodup ∧ RepPs k H B (PL.dput ks ws x w).2 vs' ∧ putK (kk.zip vs) c v = kk'.zip vs' ∧ (∀ z ∈ kk', z ∈ kk ∨ z = c)
  | [], kk, ws, vs, e, l, nd, r => by
    cases kk with
    | cons _ _ => cases e
    | nil =>
      have hz : (PL.dput [] ws x w) = ([x], [w]) := by cases ws <;> rfl
      rw [hz]
      refine ⟨[c], [v], by show [f x] = [some c]; rw [hx], rfl, by simp, ⟨v, [], rfl, rw', rfl⟩, rfl, fun z hz => .inr (by simpa using hz)⟩
  | p :: ks, [], _, _, e, _, _, _ => by cases e
  | p :: ks, a :: kk, ws, [], e, l, _, r => by cases l
  | p :: ks, a :: kk, [], v' :: vs, e, l, _, r => by
    have r : v' :: vs = [] := r
    cases r
  | p :: ks, a :: kk, w' :: ws, v' :: vs, e, l, nd, r => by
    obtain ⟨v'', vs', e', q, t⟩ := r
    cases e'
    have e1 : f p = some a := (List.cons.inj e).1
    have e2 : ks.map f = kk.map some := (List.cons.inj e).2
    obtain ⟨nd1, nd2⟩ := List.nodup_cons.mp nd
    have he := hf p x a c e1 hx
    by_cases g : a = c
    · rw [decide_eq_true g] at he
      have hd : PL.dput (p :: ks) (w' :: ws) x w = (p :: ks, w :: ws) := by
        show (if PL.eqv p x = true then _ else _) = _
        rw [he, if_pos rfl]
      rw [hd]
      refine ⟨a :: kk, v :: vs, e, l, nd, ⟨v, vs, rfl, rw', t⟩, ?_, fun z hz => .inl hz⟩
      unfold putK
      have ha : ((a :: kk).zip (v' :: vs)).any (fun kv => decide (kv.1 = c)) = true := by
        rw [List.zip_cons_cons, List.any_cons]; simp [g]
      rw [if_pos ha, List.zip_cons_cons, List.map_cons, List.zip_cons_cons]
      refine congr (congrArg _ ?_) ?_
      · simp [g]
      · have hn : ∀ kv ∈ kk.zip vs, ¬ kv.1 = c := fun kv hkv z => nd1 (by rw [g, ← z]; exact (List.of_mem_zip hkv).1)
        have : (kk.zip vs).map (fun kv => if kv.1 = c then (kv.1, v) else kv) = (kk.zip vs).map id := List.map_congr_left fun kv hkv => by simp [hn kv hkv]
        rw [this, List.map_id]
    · rw [decide_eq_false g] at he
      have hd : PL.dput (p :: ks) (w' :: ws) x w = (p :: (PL.dput ks ws x w).1, w' :: (PL.dput ks ws x w).2) := by
        show (if PL.eqv p x = true then _ else _) = _
        rw [he]; rfl
      rw [hd]
      obtain ⟨kk', vs'', h1, h2, h3, h4, h5, h6⟩ := dput_val hf hx rw' e2 (Nat.succ.inj l) nd2 t
      refine ⟨a :: kk', v' :: vs'', by rw [List.map_cons, List.map_cons, h1, e1], by rw [List.length_cons, List.length_cons, h2], List.nodup_cons.mpr ⟨fun hm => ?_, h3⟩, ⟨v', vs'', rfl, q, h4⟩, ?_, fun z hz => ?_⟩
      · rcases h6 a hm with z | z
        · exact nd1 z
        · exact g z
      · rw [List.zip_cons_cons, List.zip_cons_cons, ← h5]
        unfold putK
        rw [List.any_cons]
        simp only [decide_eq_false g, Bool.false_or]
        split
        · rw [List.map_cons]; simp [g]
        · rfl
      · rcases List.mem_cons.mp hz with z1 | z1
        · exact .inl (by rw [z1]; exact List.mem_cons_self)
        · exact (h6 z z1).imp (List.mem_cons_of_mem _) id
end
/-- what a dict holds at a key -/
theorem dic_get {t : Bool} {a : Addr} {ks ws : List PV} {vs : List V} {x : PV} {y : V} (d : DicAt t H a ks vs) (r : RepPs k H B ws vs) (hs : PL.sameSort t x = true) (ry : RepP k H B x y) :
    ∃ o, DGet H a y o ∧ (∀ w, PL.dget ks ws x = some w → ∃ v, o = some v ∧ RepP k H B w v) ∧ (PL.dget ks ws x = none → o = none) := by
  unfold PL.sameSort at hs
  rw [Bool.and_eq_true] at hs
  rcases key_rep hs.1 ry with ⟨h1, κ, e1, e2⟩ | ⟨h1, κ, b, e1, e2, e3⟩
  · rw [h1] at hs
    cases t with
    | true => cases hs.2
    | false =>
      obtain ⟨kk, f1, f2, _, f3⟩ := d
      obtain ⟨g1, g2⟩ := dget_val (f := keyOf) (fun _ _ _ _ => keyOf_eqv) e1 f1 f2 r
      exact ⟨_, by rw [e2]; exact DGet.k f3, g1, g2⟩
  · rw [h1] at hs
    cases t with
    | false => cases hs.2
    | true =>
      obtain ⟨kk, f1, f2, _, f3⟩ := d
      obtain ⟨g1, g2⟩ := dget_val (f := keyT) (fun _ _ _ _ => keyT_eqv) e1 f1 f2 r
      exact ⟨_, by rw [e2]; exact DGet.t f3 e3, g1, g2⟩
theorem dic_put {t : Bool} {a : Addr} {ks ws : List PV} {vs : List V} {x w : PV} {y v : V} (d : DicAt t H a ks vs) (r : RepPs k H B ws vs) (hs : PL.sameSort t x = true) (ry : RepP k H B x y) (rv : RepP k H B w v) (hl : ks.length < sizeLine) :
    ∃ o vs', DPut H a y v (upd H a o) ∧ DicAt t (upd H a o) a (PL.dput ks ws x w).1 vs' ∧ RepPs k H B (PL.dput ks ws x w).2 vs' ∧ ((∃ kvs, o = .dK kvs) ∨ ∃ kvs, o = .dT kvs) := by
  unfold PL.sameSort at hs
  rw [Bool.and_eq_true] at hs
  rcases key_rep hs.1 ry with ⟨h1, κ, e1, e2⟩ | ⟨h1, κ, b, e1, e2, e3⟩
  · rw [h1] at hs
    cases t with
    | true => cases hs.2
    | false =>
      obtain ⟨kk, f1, f2, f4, f3⟩ := d
      obtain ⟨kk', vs', g1, g2, g3, g4, g5, _⟩ := dput_val (f := keyOf) (fun _ _ _ _ => keyOf_eqv) e1 rv f1 f2 f4 r
      have l1 : (kk.zip vs).length < sizeLine := by
        rw [List.length_zip, ← f2]
        have := congrArg List.length f1
        rw [List.length_map, List.length_map] at this
        omega
      refine ⟨_, vs', by rw [e2]; exact DPut.k (v := v) f3 l1, ⟨kk', g1, g2, g3, ?_⟩, g4, .inl ⟨_, rfl⟩⟩
      rw [upd_same, g5]
  · rw [h1] at hs
    cases t with
    | false => cases hs.2
    | true =>
      obtain ⟨kk, f1, f2, f4, f3⟩ := d
      obtain ⟨kk', vs', g1, g2, g3, g4, g5, _⟩ := dput_val (f := keyT) (fun _ _ _ _ => keyT_eqv) e1 rv f1 f2 f4 r
      have l1 : (kk.zip vs).length < sizeLine := by
        rw [List.length_zip, ← f2]
        have := congrArg List.length f1
        rw [List.length_map, List.length_map] at this
        omega
      refine ⟨_, vs', by rw [e2]; exact DPut.t (v := v) f3 e3 l1, ⟨kk', g1, g2, g3, ?_⟩, g4, .inr ⟨_, rfl⟩⟩
      rw [upd_same, g5]
end
end LB

end
section
set_option Elab.async false
set_option linter.all false
set_option maxRecDepth 100000
set_option maxHeartbeats 1000000
/-! Layer B, 5: how readings are put together; names, constants, operators. -/
namespace LB
open PySem PySem.Spec PyProof.Rows L2
open PL (PV MV Txt IE IEs IT II IS ISs)

theorem imE {X : Cx} {e : Expr} {t t' : TE} (h : PE X e t) (i : ∀ σ H Q, t' σ H Q → t σ H Q) : PE X e t' := ⟨fun pins s σ H Q I z => h.run pins s σ H Q I (i σ H Q z)⟩
theorem imT {X : Cx} {e : Expr} {t t' : TT} (h : PT X e t) (i : ∀ σ H Q, t' σ H Q → t σ H Q) : PT X e t' := ⟨fun pins s σ H Q I z => h.run pins s σ H Q I (i σ H Q z)⟩
theorem imW {X : Cx} {e : Expr} {t t' : TT} (h : PW X e t) (i : ∀ σ H Q, t' σ H Q → t σ H Q) : PW X e t' := ⟨fun wh pins s σ H Q I z => h.run wh pins s σ H Q I (i σ H Q z)⟩
theorem imA {X : Cx} {e : List Expr} {t t' : TA} (h : PA X e t) (i : ∀ σ H Q, t' σ H Q → t σ H Q) : PA X e t' := ⟨fun pos pins s σ H Q I z => h.run pos pins s σ H Q I (i σ H Q z)⟩
theorem imS {X : Cx} {e : Stmt} {t t' : TS} (h : PS X e t) (i : ∀ D σ H, t' D σ H → t D σ H) : PS X e t' := ⟨fun pins s σ H D I z => h.run pins s σ H D I (i D σ H z)⟩
theorem imSs {X : Cx} {e : List Stmt} {t t' : TS} (h : PSs X e t) (i : ∀ D σ H, t' D σ H → t D σ H) : PSs X e t' := ⟨fun pins s σ H D I z => h.run pins s σ H D I (i D σ H z)⟩

section
variable {k : Kx} {W : WX} {R R' R1 R2 : Addr → Prop} {σ : L2.St} {H H' H1 H2 : Hp} {own : Addr → Prop} {env env1 env2 : PL.Env} {fo fo1 fo2 : Nat → List Addr} {α β : Type}
theorem Outc.bind {P : β → PL.Env → Prop} {r : PL.Res α} {f : α → PL.Env → PL.Res β} (o : Outc k W R σ H own P (r.bind f)) : Outc k W R σ H own (fun a e => Outc k W R σ H own P (f a e)) r := by
  cases r with
  | ok a e => exact o
  | ex e ε => exact o
  | bad => exact o
theorem Outc.imp {P P' : α → PL.Env → Prop} {r : PL.Res α} (o : Outc k W R σ H own P r) (h : ∀ v e, P v e → P' v e) : Outc k W R σ H own P' r := by
  cases r with
  | ok v e => exact h v e o
  | ex e ε => exact o
  | bad => exact o
/-- behind a first step -/
theorem Outc.next (a : At k R σ H own env1 fo1 R1 H1) {P : α → PL.Env → Prop} {P' : α → PL.Env → Prop} {r : PL.Res α} (o : Outc k W R σ H own P r) (h : ∀ v e, P v e → P' v e) : Outc k W R1 σ H1 (Own fo1) P' r := o.step a h
theorem Outc.opt {P : α → PL.Env → Prop} {o : Option α} {ε : PL.Env} (h : Outc k W R σ H own P (PL.Res.opt o ε)) : ∃ v, o = some v ∧ P v ε := by
  cases o with
  | none => exact h.elim
  | some v => exact ⟨v, rfl, h⟩

theorem Tmp.nil : Tmp R R' [] := ⟨List.nodup_nil, fun _ h => nomatch h⟩
theorem PostO.step (a : At k R σ H own env1 fo1 R1 H1) {v : PL.Opd} {x : V} (p : PostO k R1 σ H1 (Own fo1) env2 v x H2) : PostO k R σ H own env2 v x H2 := by
  obtain ⟨fo, R', O, b, r, t⟩ := p
  exact ⟨fo, R', O, a.step b, r, t.nd, fun c hc => ⟨(t.mem c hc).1, fun z => (t.mem c hc).2 (a.sub c z)⟩⟩
/-- operands in a row -/
def OpdReps (k : Kx) (H : Hp) (B : Addr → Prop) (σ : L2.St) (env : PL.Env) : List PL.Opd → List V → List Addr → Prop
  | [], xs, O => xs = [] ∧ O = []
  | o :: r, xs, O => ∃ x xs' O1 O2, xs = x :: xs' ∧ OpdRep k H B σ env o x O1 ∧ OpdReps k H B σ env r xs' O2 ∧ O = O1 ++ O2
def PostOs (k : Kx) (R : Addr → Prop) (σ : L2.St) (H : Hp) (own : Addr → Prop) (env' : PL.Env) (os : List PL.Opd) (xs : List V) (H' : Hp) : Prop :=
  ∃ fo R' O, At k R σ H own env' fo R' H' ∧ OpdReps k H' (bn fo R') σ env' os xs O ∧ Tmp R R' O
def PostVs (k : Kx) (R : Addr → Prop) (σ : L2.St) (H : Hp) (own : Addr → Prop) (env' : PL.Env) (vs : List MV) (xs : List V) (H' : Hp) : Prop :=
  ∃ fo R' O, At k R σ H own env' fo R' H' ∧ RepMs k H' (bn fo R') vs xs O ∧ Tmp R R' O
def tOs (k : Kx) (W : WX) (C : PL.Ctx) (ies : IEs) : TA := fun σ H Q => ∃ env fo R, EnvOk k R H env σ fo ∧ Outc k W R σ H (Own fo) (fun os env' => ∀ xs H', PostOs k R σ H (Own fo) env' os xs H' → Q xs H') (PL.opds C ies env)
def tVs (k : Kx) (W : WX) (C : PL.Ctx) (ies : IEs) : TA := fun σ H Q => ∃ env fo R, EnvOk k R H env σ fo ∧ Outc k W R σ H (Own fo) (fun vs env' => ∀ xs H', PostVs k R σ H (Own fo) env' vs xs H' → Q xs H') (PL.evs C ies env)
theorem PostOs.step (a : At k R σ H own env1 fo1 R1 H1) {v : List PL.Opd} {x : List V} (p : PostOs k R1 σ H1 (Own fo1) env2 v x H2) : PostOs k R σ H own env2 v x H2 := by
  obtain ⟨fo, R', O, b, r, t⟩ := p
  exact ⟨fo, R', O, a.step b, r, t.nd, fun c hc => ⟨(t.mem c hc).1, fun z => (t.mem c hc).2 (a.sub c z)⟩⟩
theorem PostVs.step (a : At k R σ H own env1 fo1 R1 H1) {v : List MV} {x : List V} (p : PostVs k R1 σ H1 (Own fo1) env2 v x H2) : PostVs k R σ H own env2 v x H2 := by
  obtain ⟨fo, R', O, b, r, t⟩ := p
  exact ⟨fo, R', O, a.step b, r, t.nd, fun c hc => ⟨(t.mem c hc).1, fun z => (t.mem c hc).2 (a.sub c z)⟩⟩
/-- temps of two steps -/
theorem Tmp.app {O1 O2 : List Addr} (t1 : Tmp R R1 O1) (t2 : Tmp R1 R2 O2) (s : ∀ c, R1 c → R2 c) (z : ∀ c, R c → R1 c) : Tmp R R2 (O1 ++ O2) := by
  refine ⟨List.nodup_append.mpr ⟨t1.nd, t2.nd, fun a ha b hb e => ?_⟩, fun a ha => ?_⟩
  · subst e
    exact (t2.mem a hb).2 (t1.mem a ha).1
  · rcases List.mem_append.mp ha with h | h
    · exact ⟨s a (t1.mem a h).1, (t1.mem a h).2⟩
    · exact ⟨(t2.mem a h).1, fun q => (t2.mem a h).2 (z a q)⟩
theorem OpdReps.look (e : EnvOk k R' H env σ fo) : ∀ {os : List PL.Opd} {xs : List V} {O : List Addr} {vs : List MV}, OpdReps k H (bn fo R') σ env os xs O → PL.gets env os = some vs → Paired (fun v x => ∃ O', RepM k H (bn fo R') v x O') vs xs
  | [], _, _, _, r, g => by cases g; rw [r.1]; exact .nil
  | o :: os, _, _, vs, r, g => by
    obtain ⟨x, xs', O1, O2, e1, r1, r2, _⟩ := r
    unfold PL.gets at g
    cases h1 : o.get env with
    | none => rw [h1] at g; cases g
    | some v => cases h2 : PL.gets env os with
      | none => rw [h1, h2] at g; cases g
      | some ws =>
        rw [h1, h2] at g
        cases g
        rw [e1]
        exact .cons (r1.look e h1) (OpdReps.look e r2 h2)
/-- the values of two steps -/
theorem RepMs.two {B : Addr → Prop} {m : MV} {ms : List MV} {x : V} {xs : List V} {O1 O2 : List Addr} (r : RepM k H B m x O1) (t : RepMs k H B ms xs O2) : RepMs k H B (m :: ms) (x :: xs) (O1 ++ O2) := ⟨x, xs, O1, O2, rfl, r, t, rfl⟩

/-! ### operands -/
theorem post_o {v : MV} {x : V} (p : PostV k R σ H own env v x H') : PostO k R σ H own env (.tm v) x H' := by
  obtain ⟨fo, R', O, a, r, t⟩ := p
  exact ⟨fo, R', O, a, r, t⟩
end
section
variable {X : Cx} {k : Kx} {W : WX} {C : PL.Ctx} {e a b c : Expr} {ie ia ib ic : IE} {pos : Pos}
def noVar : IE → Bool
  | .var _ => false
  | _ => true
theorem opd_eq (h : noVar ie = true) (env : PL.Env) : PL.opd C ie env = (PL.ev C ie env).bind fun v ε1 => .ok (.tm v) ε1 := by
  cases ie with
  | var i => cases h
  | _ => simp only [PL.opd]
/-- the operand of an expression that is no name -/
theorem eo_of (h : PE X e (tE k W C ie)) (n : noVar ie = true) : PE X e (tO k W C ie) := imE h fun σ H Q ⟨env, fo, R, ok, o⟩ => by
  rw [opd_eq n] at o
  exact ⟨env, fo, R, ok, o.bind.imp fun v e q x H' p => q x H' (post_o p)⟩
theorem eo_var {i : Nat} {x : Str} (hN : X.N[i]? = some x) (hv : Vis X.env.scope x) (hd : (x == ("__debug__" : Str)) = false) (hcd : (x == ("__classdict__" : Str)) = false) : PE X (.Name x pos) (tO k W C (.var i)) := imE (pe_var hN hv hd hcd) fun σ H Q ⟨env, fo, R, ok, o⟩ => by
  unfold PL.opd at o
  cases h : env.at i with
  | none => rw [h] at o; exact o.elim
  | some m =>
    rw [h] at o
    obtain ⟨y, h1, h2⟩ := ok.rep i m h
    exact ⟨y, h1, o y H ⟨fo, R, [], .refl ok, ⟨h1, rfl⟩, .nil⟩⟩
/-- two operands, then an operation -/
theorem rd_two {r : R2} {P : MV → MV → (PL.Env → PL.Res MV) → Prop} {σ : L2.St} {H : Hp} {Q : VK} {f : PL.Opd → PL.Opd → PL.Env → PL.Res MV}
    (hr : ∀ (R : Addr → Prop) (H : Hp) (env : PL.Env) (fo : Nat → List Addr) (o1 o2 : PL.Opd) (x y : V) (O1 O2 : List Addr) (Q : VK), EnvOk k R H env σ fo → OpdRep k H (bn fo R) σ env o1 x O1 → OpdRep k H (bn fo R) σ env o2 y O2 →
      (∀ v ε, f o1 o2 env = .ok v ε → (∀ z H', PostV k R σ H (Own fo) ε v z H' → Q z H') → r x y H Q) ∧ (∀ e ε, f o1 o2 env = .ex e ε → False))
    (h : ∃ env fo R, EnvOk k R H env σ fo ∧ Outc k W R σ H (Own fo) (fun v env' => ∀ x H', PostV k R σ H (Own fo) env' v x H' → Q x H') ((PL.opd C ia env).bind fun x ε1 => (PL.opd C ib ε1).bind fun y ε2 => f x y ε2)) :
    tOp r (tO k W C ia) (tO k W C ib) σ H Q := by
  obtain ⟨env, fo, R, ok, o⟩ := h
  refine ⟨env, fo, R, ok, o.bind.imp fun o1 e1 q1 x H1 p1 => ?_⟩
  obtain ⟨fo1, R1, O1, a1, r1, t1⟩ := p1
  refine ⟨e1, fo1, R1, a1.ok, (q1.bind.step a1 fun _ _ z => z).imp fun o2 e2 q2 y H2 p2 => ?_⟩
  obtain ⟨fo2, R2, O2, a2, r2, t2⟩ := p2
  obtain ⟨k1, k2⟩ := hr R2 H2 e2 fo2 o1 o2 x y O1 O2 Q a2.ok (by
    have := r1.stay a1.ok a2 fun a h => (t1.mem a h).1
    cases o1 with
    | sl i => exact this
    | tm v => exact this) r2
  cases hf : f o1 o2 e2 with
  | ok v ε =>
    rw [hf] at q2
    refine k1 v ε hf fun z H' p => q2 z H' ((p.step a2).step a1)
  | ex e ε => exact (k2 e ε hf).elim
  | bad => rw [hf] at q2; exact q2.elim
theorem ev_bin {o : PL.BOp} {op : Operator} {r : R2} (hs : OpS k o r) (hop : OpR X (binaryOp op) r) (ha : PE X a (tO k W C ia)) (hb : PE X b (tO k W C ib)) : PE X (.BinOp a op b pos) (tE k W C (.bin o ia ib)) :=
  imE (pe_op hop ha hb) fun σ H Q h => by
    refine rd_two (P := fun _ _ _ => True) (f := fun x y ε2 => match x.get ε2, y.get ε2 with
      | some u, some v => .opt (PL.binF o u v) ε2
      | _, _ => .bad) (fun R H env fo o1 o2 x y O1 O2 Q ok r1 r2 => ⟨fun v ε e q => ?_, fun e ε h => ?_⟩) ?_
    · cases h1 : o1.get env with
      | none => rw [h1] at e; cases e
      | some u => cases h2 : o2.get env with
        | none => rw [h1, h2] at e; cases e
        | some w =>
          rw [h1, h2] at e
          change PL.Res.opt (PL.binF o u w) env = _ at e
          cases h3 : PL.binF o u w with
          | none => rw [h3] at e; cases e
          | some z =>
            rw [h3] at e
            cases e
            obtain ⟨O1', s1⟩ := r1.look ok h1
            obtain ⟨O2', s2⟩ := r2.look ok h2
            exact hs R σ H env fo ok u w v x y O1' O2' Q s1 s2 h3 q
    · cases h1 : o1.get env with
      | none => rw [h1] at h; cases h
      | some u => cases h2 : o2.get env with
        | none => rw [h1, h2] at h; cases h
        | some w =>
          rw [h1, h2] at h
          change PL.Res.opt (PL.binF o u w) env = _ at h
          cases h3 : PL.binF o u w with
          | none => rw [h3] at h; cases h
          | some z => rw [h3] at h; cases h
    · obtain ⟨env, fo, R, ok, oc⟩ := h
      refine ⟨env, fo, R, ok, ?_⟩
      unfold PL.ev at oc
      exact oc
/-- a comparison, as a value -/
theorem rd_cmp {o : PL.COp} {r : R2} (hs : CmS k o r) {σ : L2.St} {H : Hp} {Q : VK} (h : tE k W C (.cmp o ia ib) σ H Q) : tOp r (tO k W C ia) (tO k W C ib) σ H Q := by
    refine rd_two (P := fun _ _ _ => True) (f := fun x y ε2 => match x.get ε2, y.get ε2 with
      | some u, some v => match PL.cmpF o u v with
        | some c => .ok (.p (.bl c)) ε2
        | none => .bad
      | _, _ => .bad) (fun R H env fo o1 o2 x y O1 O2 Q ok r1 r2 => ⟨fun v ε e q => ?_, fun e ε h => ?_⟩) ?_
    · cases h1 : o1.get env with
      | none => rw [h1] at e; cases e
      | some u => cases h2 : o2.get env with
        | none => rw [h1, h2] at e; cases e
        | some w =>
          rw [h1, h2] at e
          change (match PL.cmpF o u w with | some c => PL.Res.ok (MV.p (PV.bl c)) env | none => PL.Res.bad) = _ at e
          cases h3 : PL.cmpF o u w with
          | none => rw [h3] at e; cases e
          | some z =>
            rw [h3] at e
            cases e
            obtain ⟨O1', s1⟩ := r1.look ok h1
            obtain ⟨O2', s2⟩ := r2.look ok h2
            exact hs R H fo u w z x y O1' O2' Q s1 s2 h3 (q _ _ (ok.plain rfl))
    · cases h1 : o1.get env with
      | none => rw [h1] at h; cases h
      | some u => cases h2 : o2.get env with
        | none => rw [h1, h2] at h; cases h
        | some w =>
          rw [h1, h2] at h
          change (match PL.cmpF o u w with | some c => PL.Res.ok (MV.p (PV.bl c)) env | none => PL.Res.bad) = _ at h
          cases h3 : PL.cmpF o u w with
          | none => rw [h3] at h; cases h
          | some z => rw [h3] at h; cases h
    · obtain ⟨env, fo, R, ok, oc⟩ := h
      refine ⟨env, fo, R, ok, ?_⟩
      unfold PL.ev at oc
      exact oc
theorem ev_cmp {o : PL.COp} {op : CmpOp} {r : R2} (hs : CmS k o r) (hop : OpR X (compareOp op) r) (ha : PE X a (tO k W C ia)) (hb : PE X b (tO k W C ib)) (hm : behindInMarks op b = false) : PE X (.Compare a [op] [b] pos) (tE k W C (.cmp o ia ib)) :=
  imE (pe_cmpR hop ha hb hm) fun _ _ _ h => rd_cmp hs h
/-! ### tests -/
theorem emp_len {α β : Type} {l : List α} {m : List β} (h : l.length = m.length) : (!l.isEmpty) = !m.isEmpty := by
  cases l <;> cases m <;> first | rfl | simp at h
theorem tru_of {H : Hp} {B : Addr → Prop} {u : MV} {x : V} {O : List Addr} {c : Bool} (h : PL.truF u = some c) (r : RepM k H B u x O) : TruV k.K x H c := by
  unfold PL.truF at h
  split at h <;> try contradiction
  · cases h
    have e : x = _ := r.1
    subst e; rfl
  · cases h
    have e : x = _ := r.1
    subst e; rfl
  · cases h
    have e : x = _ := r.1
    subst e; rfl
  · rename_i s
    split at h
    · rename_i hl
      cases h
      have e : x = _ := r.1
      subst e
      refine ⟨by rw [strOf_len, ← lim_eq]; exact hl, ?_⟩
      rw [strOf_len]
      cases s <;> simp
      omega
    · cases h
  · cases h
    obtain ⟨a, vs, e, q, _, t⟩ := r.1
    subst e
    refine .inr (.inl ⟨vs, q, ?_⟩)
    exact emp_len t.len
  · cases h
    obtain ⟨a, vs, e, q, _, t⟩ := r.1
    subst e
    refine .inl ⟨vs, SqL.of q, ?_⟩
    exact emp_len t.len
  · cases h
    obtain ⟨a, vs, O', e, q, t, _⟩ := r
    subst e
    refine .inl ⟨vs, SqL.of q, ?_⟩
    exact emp_len t.len
  · cases h
    obtain ⟨a, vs, e, t, _, kk, f1, f2, _, f3⟩ := r
    subst e
    refine .inr (.inr ⟨_, f3, ?_⟩)
    have h1 := congrArg List.length f1
    rw [List.length_map, List.length_map] at h1
    exact emp_len (by rw [List.length_zip]; omega)
/-- a test by truth -/
theorem rd_tv {σ : L2.St} {H : Hp} {Q : Bool → Hp → Prop} (h : tT k W C (.tv ie) σ H Q) : tO k W C ie σ H fun x H' => ∃ k', TruV k.K x H' k' ∧ Q k' H' := by
  obtain ⟨env, fo, R, ok, o⟩ := h
  unfold PL.evT at o
  refine ⟨env, fo, R, ok, o.bind.imp fun o1 e1 q1 x H1 p1 => ?_⟩
  obtain ⟨fo1, R1, O1, a1, r1, t1⟩ := p1
  cases hg : o1.get e1 with
  | none => rw [hg] at q1; exact q1.elim
  | some u =>
    rw [hg] at q1
    obtain ⟨c, hc, q⟩ := Outc.opt q1
    obtain ⟨O', r⟩ := r1.look a1.ok hg
    exact ⟨c, tru_of hc r, q H1 ⟨fo1, R1, a1⟩⟩
theorem et_truth (ha : PE X a (tO k W C ia)) (hK : X.K = k.K) (he : ∀ whole, isTrue a X.env whole = (do let v ← whole; standAt a.pos; holding [v] (truthy v))) : PT X a (tT k W C (.tv ia)) :=
  imT (pt_truth ha he) fun σ H Q h => by
    have := rd_tv h
    rw [hK]
    exact this
/-- a comparison as a test -/
theorem et_cmp {o : PL.COp} {op : CmpOp} {r : R2} (hs : CmS k o r) (hop : OpR X (compareOp op) r) (ha : PE X a (tO k W C ia)) (hb : PE X b (tO k W C ib)) (hm : behindInMarks op b = false) : PT X (.Compare a [op] [b] pos) (tT k W C (.tv (.cmp o ia ib))) :=
  imT (pt_cmpR hop ha hb hm) fun σ H Q h => by
    obtain ⟨env, fo, R, ok, oc⟩ := h
    refine rd_cmp (W := W) (C := C) hs (Q := fun x H' => ∃ c, x = .bl c ∧ Q c H') ⟨env, fo, R, ok, ?_⟩
    unfold PL.evT at oc
    rw [opd_eq rfl] at oc
    have ev : ∀ v ε, PL.ev C (.cmp o ia ib) env = .ok v ε → ∃ c, v = .p (.bl c) := fun v ε e => by
      unfold PL.ev at e
      cases h1 : PL.opd C ia env with
      | ex _ _ => rw [h1] at e; cases e
      | bad => rw [h1] at e; cases e
      | ok o1 e1 =>
        rw [h1] at e
        change (PL.Res.bind (PL.opd C ib e1) _) = _ at e
        cases h2 : PL.opd C ib e1 with
        | ex _ _ => rw [h2] at e; cases e
        | bad => rw [h2] at e; cases e
        | ok o2 e2 =>
          rw [h2] at e
          dsimp only [PL.Res.bind] at e
          split at e
          · split at e
            · cases e; exact ⟨_, rfl⟩
            · cases e
          · cases e
    cases hr : PL.ev C (.cmp o ia ib) env with
    | ex e ε => rw [hr] at oc; exact oc
    | bad => rw [hr] at oc; exact oc
    | ok v ε =>
      rw [hr] at oc
      obtain ⟨c, rfl⟩ := ev v ε hr
      intro x H' p
      obtain ⟨fo1, R1, O1, a1, r1, t1⟩ := p
      exact ⟨c, r1.1, oc H' ⟨fo1, R1, a1⟩⟩
end
end LB

end
section
set_option Elab.async false
set_option linter.all false
set_option maxRecDepth 100000
set_option maxHeartbeats 1000000
/-! Layer B, 6: names, constants, and, or, not, if. -/
namespace LB
open PySem PySem.Spec PyProof.Rows L2
open PL (PV MV Txt IE IEs IT II IS ISs)

/-! ### slots -/
theorem at_lt {env : PL.Env} {i : Nat} {m : MV} (h : env.at i = some m) : i < env.length := by
  unfold PL.Env.at at h
  cases q : env[i]? with
  | none => rw [q] at h; cases h
  | some o => exact (List.getElem?_eq_some_iff.mp q).1
theorem at_set {env : PL.Env} {i : Nat} (h : i < env.length) (o : Option MV) : PL.Env.at (env.set i o) i = o := by
  unfold PL.Env.at
  rw [List.getElem?_set_self h]
theorem at_set_ne {env : PL.Env} {i j : Nat} (h : j ≠ i) (o : Option MV) : PL.Env.at (env.set i o) j = env.at j := by
  unfold PL.Env.at
  rw [List.getElem?_set_ne (fun z => h z.symm)]
def fset (fo : Nat → List Addr) (i : Nat) (O : List Addr) : Nat → List Addr := fun j => if j = i then O else fo j
theorem fset_same {fo : Nat → List Addr} {i : Nat} {O : List Addr} : fset fo i O i = O := if_pos rfl
theorem fset_ne {fo : Nat → List Addr} {i j : Nat} {O : List Addr} (h : j ≠ i) : fset fo i O j = fo j := if_neg h
section
variable {X : Cx} {k : Kx} {W : WX} {C : PL.Ctx} {R R' : Addr → Prop} {σ : L2.St} {H H' : Hp} {own : Addr → Prop} {env env' : PL.Env} {fo : Nat → List Addr}
/-- slot i is changed: all else stays -/
theorem EnvOk.put (e : EnvOk k R H env σ fo) {σ' : L2.St} {i : Nat} {o : Option MV} {O' : List Addr} {S : Addr → Prop} (hi : i < env.length) (hl : σ'.length = σ.length) (hσ : ∀ j, j ≠ i → σ'[j]? = σ[j]?) (st : Stay H H' S) (ob : Okb H (bn fo R) (bn (fset fo i O') R') S)
    (ns : ∀ j a, j ≠ i → a ∈ fo j → ¬ S a) (hm : ∀ m, o = some m → ∃ x, σ'[i]? = some (some x) ∧ RepM k H' (bn (fset fo i O') R') m x O') (hn : o = none → O' = []) (nd : O'.Nodup) (dj : ∀ j a, j ≠ i → a ∈ fo j → a ∉ O')
    (rO : ∀ a ∈ O', ¬ R' a) (rs : ∀ j a, j ≠ i → a ∈ fo j → ¬ R' a) (al : ∀ a, R' a → H' a ≠ none) : EnvOk k R' H' (env.set i o) σ' (fset fo i O') := by
  refine ⟨by rw [List.length_set, hl]; exact e.len, fun j m' q => ?_, fun j q => ?_, fun j => ?_, fun j l a ha hb => ?_, fun j a ha => ?_, al, fun q hq => (e.gl q hq).stay st fun _ _ nb => (nb trivial).elim⟩
  · by_cases hj : j = i
    · subst hj
      rw [at_set hi] at q
      rw [fset_same]
      exact hm m' q
    · rw [at_set_ne hj] at q
      obtain ⟨x, h1, r⟩ := e.rep j m' q
      rw [fset_ne hj, hσ j hj]
      exact ⟨x, h1, r.stay st ob fun a ha => ns j a hj ha⟩
  · by_cases hj : j = i
    · subst hj
      rw [at_set hi] at q
      rw [fset_same]; exact hn q
    · rw [fset_ne hj]; rw [at_set_ne hj] at q; exact e.nil j q
  · by_cases hj : j = i
    · subst hj; rw [fset_same]; exact nd
    · rw [fset_ne hj]; exact e.nd j
  · by_cases hj : j = i
    · by_cases hl' : l = i
      · rw [hj, hl']
      · rw [hj, fset_same] at ha
        rw [fset_ne hl'] at hb
        exact absurd ha (dj l a hl' hb)
    · by_cases hl' : l = i
      · rw [hl', fset_same] at hb
        rw [fset_ne hj] at ha
        exact absurd hb (dj j a hj ha)
      · rw [fset_ne hj] at ha; rw [fset_ne hl'] at hb; exact e.dj j l a ha hb
  · by_cases hj : j = i
    · subst hj; rw [fset_same] at ha; exact rO a ha
    · rw [fset_ne hj] at ha; exact rs j a hj ha
theorem stay_refl {S : Addr → Prop} (h : ∀ a, ¬ S a) : Stay H H S := ⟨fun _ _ e _ => e, fun a _ z => (h a z).elim⟩
/-- slot i owns less -/
theorem EnvOk.weak (e : EnvOk k R H env σ fo) {i : Nat} {m : MV} {O' : List Addr} (hi : i < env.length) (nd : O'.Nodup) (sub : ∀ a ∈ O', a ∈ fo i) (hm : ∃ x, σ[i]? = some (some x) ∧ RepM k H (bn (fset fo i O') R) m x O') : EnvOk k R H (env.set i (some m)) σ (fset fo i O') := by
  have down : ∀ a, bn (fset fo i O') R a → bn fo R a := fun a z => by
    rcases z with ⟨j, z⟩ | z
    · by_cases hj : j = i
      · subst hj; rw [fset_same] at z; exact .inl ⟨j, sub a z⟩
      · rw [fset_ne hj] at z; exact .inl ⟨j, z⟩
    · exact .inr z
  exact e.put (S := fun _ => False) hi rfl (fun _ _ => rfl) (stay_refl fun _ => id) (fun a _ nb => ⟨id, fun z => nb (down a z)⟩) (fun _ _ _ _ => id) (fun m' q => by cases q; exact hm) (fun q => by cases q) nd
    (fun j a hj ha hb => hj (e.dj j i a ha (sub a hb))) (fun a ha => e.rs i a (sub a ha)) (fun j a _ ha => e.rs j a ha) e.al
/-- what a slot holds is frozen -/
theorem EnvOk.freeze (e : EnvOk k R H env σ fo) {i : Nat} {m : MV} (h : env.at i = some m) : EnvOk k R H (env.set i (some (.p (PL.frz m)))) σ (fset fo i []) := by
  obtain ⟨x, h1, r⟩ := e.rep i m h
  have nof : ∀ a, bn (fset fo i []) R a → bn fo R a ∧ a ∉ fo i := fun a z => by
    rcases z with ⟨j, z⟩ | z
    · by_cases hj : j = i
      · subst hj; rw [fset_same] at z; cases z
      · rw [fset_ne hj] at z; exact ⟨.inl ⟨j, z⟩, fun q => hj (e.dj j i a z q)⟩
    · exact ⟨.inr z, fun q => e.rs i a q z⟩
  exact e.weak (at_lt h) List.nodup_nil (fun _ h => nomatch h) ⟨x, h1, r.frz (fun a _ nb z => nb (nof a z).1) (fun a ha z => (nof a z).2 ha), rfl⟩
/-- fewer slots own -/
theorem At.less (e : EnvOk k R H env σ fo) {fo' : Nat → List Addr} (e' : EnvOk k R H env' σ fo') (h : ∀ a, Own fo' a → Own fo a) : At k R σ H (Own fo) env' fo' R H :=
  ⟨e', fun _ h => h, ⟨fun _ _ q _ => q, fun a z => z.elim (fun z => .inl (h a z)) fun z => absurd z.1 z.2⟩⟩
theorem own_fset {i : Nat} {a : Addr} (h : Own (fset fo i []) a) : Own fo a := by
  obtain ⟨j, h⟩ := h
  by_cases hj : j = i
  · subst hj; rw [fset_same] at h; cases h
  · rw [fset_ne hj] at h; exact ⟨j, h⟩
theorem readV_post (e : EnvOk k R H env σ fo) {i : Nat} {v : MV} {ε : PL.Env} {x : V} (hx : σ[i]? = some (some x)) (h : PL.readV env i = .ok v ε) : PostV k R σ H (Own fo) ε v x H := by
  unfold PL.readV at h
  cases q : env.at i with
  | none => rw [q] at h; cases h
  | some m =>
    rw [q] at h
    have fr := e.freeze q
    obtain ⟨y, h1, r⟩ := fr.rep i _ (at_set (at_lt q) _)
    rw [hx] at h1
    cases h1
    cases m with
    | p w =>
      cases h
      obtain ⟨z, h2, r2⟩ := e.rep i _ q
      rw [hx] at h2
      cases h2
      exact ⟨fo, R, [], .refl e, ⟨r2.1, rfl⟩, .nil⟩
    | l xs => cases h; exact ⟨_, R, [], .less e fr fun a z => own_fset z, ⟨r.1, rfl⟩, .nil⟩
    | d t ks vs => cases h; exact ⟨_, R, [], .less e fr fun a z => own_fset z, ⟨r.1, rfl⟩, .nil⟩
theorem ev_var {i : Nat} {x : Str} {pos : Pos} (hN : X.N[i]? = some x) (hv : Vis X.env.scope x) (hd : (x == ("__debug__" : Str)) = false) (hcd : (x == ("__classdict__" : Str)) = false) : PE X (.Name x pos) (tE k W C (.var i)) :=
  imE (pe_var hN hv hd hcd) fun σ H Q ⟨env, fo, R, ok, o⟩ => by
    unfold PL.ev at o
    cases q : env.at i with
    | none =>
      unfold PL.readV at o
      rw [q] at o; exact o.elim
    | some m =>
      obtain ⟨y, h1, h2⟩ := ok.rep i m q
      refine ⟨y, h1, ?_⟩
      cases z : PL.readV env i with
      | ok v ε => rw [z] at o; exact o y H (readV_post ok h1 z)
      | ex e ε =>
        unfold PL.readV at z
        rw [q] at z
        cases m <;> cases z
      | bad => rw [z] at o; exact o.elim
/-- a constant of the text -/
theorem ev_con {e : Expr} {v : PV} {x : V} (h : PE X e (tC x)) (r : ∀ H B, RepP k H B v x) : PE X e (tE k W C (.con v)) :=
  imE h fun σ H Q ⟨env, fo, R, ok, o⟩ => by
    unfold PL.ev at o
    exact o x H (ok.plain (r _ _))
theorem ev_glo {n : Txt} {x : Str} {v : PV} {y : V} {u : Value} {pos : Pos} (hg : Gl X x) (hm : X.mg x = some u) (rl : RelV y u) (hv : (y, v) ∈ k.gl) (hd : (x == ("__debug__" : Str)) = false) : PE X (.Name x pos) (tE k W C (.glo n v)) :=
  imE (pe_glob hg hm rl hd) fun σ H Q ⟨env, fo, R, ok, o⟩ => by
    unfold PL.ev at o
    exact o y H (ok.plain ((ok.gl _ hv).ban fun _ _ => trivial))
variable {e a b c : Expr} {ie ia ib ic : IE} {pos : Pos} {t u : IT}
theorem ev_neg (ha : PE X a (tE k W C ia)) : PE X (.UnaryOp .USub a pos) (tE k W C (.neg ia)) :=
  imE (pe_un un_neg ha) fun σ H Q ⟨env, fo, R, ok, o⟩ => by
    unfold PL.ev at o
    refine ⟨env, fo, R, ok, o.bind.imp fun v e q x H1 p => ?_⟩
    split at q
    · obtain ⟨fo1, R1, O1, a1, r1, t1⟩ := p
      exact ⟨_, r1.1, q _ _ (.pure a1 rfl)⟩
    · exact q.elim
/-- an outcome, moved to the place behind a first step -/
theorem seqV {env1 : PL.Env} {fo1 : Nat → List Addr} {R1 : Addr → Prop} {H1 : Hp} {Q : VK} {r : PL.Res MV} (a1 : At k R σ H (Own fo) env1 fo1 R1 H1)
    (o : Outc k W R σ H (Own fo) (fun v env' => ∀ x H', PostV k R σ H (Own fo) env' v x H' → Q x H') r) : Outc k W R1 σ H1 (Own fo1) (fun v env' => ∀ x H', PostV k R1 σ H1 (Own fo1) env' v x H' → Q x H') r :=
  o.step a1 fun v e q x H' p => q x H' (p.step a1)
theorem ev_and {rest : List Expr} (ha : PE X a (tE k W C ia)) (hb : PE X (.BoolOp .And (b :: rest) pos) (tE k W C ib)) : PE X (.BoolOp .And (a :: b :: rest) pos) (tE k W C (.andv ia ib)) :=
  imE (pe_and ha hb) fun σ H Q ⟨env, fo, R, ok, o⟩ => by
    unfold PL.ev at o
    refine ⟨env, fo, R, ok, o.bind.imp fun v e q x H1 p => ?_⟩
    split at q
    · obtain ⟨fo1, R1, O1, a1, r1, t1⟩ := p
      exact ⟨true, r1.1, by rw [if_pos rfl]; exact ⟨_, fo1, R1, a1.ok, seqV a1 q⟩⟩
    · obtain ⟨fo1, R1, O1, a1, r1, t1⟩ := p
      exact ⟨false, r1.1, by rw [if_neg Bool.false_ne_true]; exact q _ _ (.pure a1 rfl)⟩
    · exact q.elim
theorem ev_or {rest : List Expr} (ha : PE X a (tE k W C ia)) (hb : PE X (.BoolOp .Or (b :: rest) pos) (tE k W C ib)) : PE X (.BoolOp .Or (a :: b :: rest) pos) (tE k W C (.orv ia ib)) :=
  imE (pe_or ha hb) fun σ H Q ⟨env, fo, R, ok, o⟩ => by
    unfold PL.ev at o
    refine ⟨env, fo, R, ok, o.bind.imp fun v e q x H1 p => ?_⟩
    split at q
    · obtain ⟨fo1, R1, O1, a1, r1, t1⟩ := p
      exact ⟨true, r1.1, by rw [if_pos rfl]; exact q _ _ (.pure a1 rfl)⟩
    · obtain ⟨fo1, R1, O1, a1, r1, t1⟩ := p
      exact ⟨false, r1.1, by rw [if_neg Bool.false_ne_true]; exact ⟨_, fo1, R1, a1.ok, seqV a1 q⟩⟩
    · exact q.elim
theorem ev_not (ha : PE X a (tE k W C ia)) : PE X (.UnaryOp .Not a pos) (tE k W C (.notv ia)) :=
  imE (pe_not ha) fun σ H Q ⟨env, fo, R, ok, o⟩ => by
    unfold PL.ev at o
    refine ⟨env, fo, R, ok, o.bind.imp fun v e q x H1 p => ?_⟩
    split at q
    · obtain ⟨fo1, R1, O1, a1, r1, t1⟩ := p
      exact ⟨_, r1.1, q _ _ (.pure a1 rfl)⟩
    · exact q.elim
theorem ev_ife (ht : PT X c (tT k W C t)) (ha : PE X a (tE k W C ia)) (hb : PE X b (tE k W C ib)) : PE X (.IfExp c a b pos) (tE k W C (.ife t ia ib)) :=
  imE (pe_ifExp ht ha hb) fun σ H Q ⟨env, fo, R, ok, o⟩ => by
    unfold PL.ev at o
    refine ⟨env, fo, R, ok, o.bind.imp fun d e q H1 p => ?_⟩
    obtain ⟨fo1, R1, a1⟩ := p
    cases d with
    | true => rw [if_pos rfl]; exact ⟨_, fo1, R1, a1.ok, seqV a1 q⟩
    | false => rw [if_neg Bool.false_ne_true]; exact ⟨_, fo1, R1, a1.ok, seqV a1 q⟩
/-! ### tests -/
theorem seqT {env1 : PL.Env} {fo1 : Nat → List Addr} {R1 : Addr → Prop} {H1 : Hp} {Q : Bool → Hp → Prop} {r : PL.Res Bool} (a1 : At k R σ H (Own fo) env1 fo1 R1 H1)
    (o : Outc k W R σ H (Own fo) (fun b env' => ∀ H', (∃ fo' R', At k R σ H (Own fo) env' fo' R' H') → Q b H') r) : Outc k W R1 σ H1 (Own fo1) (fun b env' => ∀ H', (∃ fo' R', At k R1 σ H1 (Own fo1) env' fo' R' H') → Q b H') r :=
  o.step a1 fun v e q H' ⟨fo', R', p⟩ => q H' ⟨fo', R', a1.step p⟩
theorem et_not (ht : PT X a (tT k W C t)) : PT X (.UnaryOp .Not a pos) (tT k W C (.tn t)) :=
  imT (pt_not ht) fun σ H Q ⟨env, fo, R, ok, o⟩ => by
    unfold PL.evT at o
    exact ⟨env, fo, R, ok, o.bind.imp fun d e q H1 p => q H1 p⟩
theorem rd_and {σ : L2.St} {H : Hp} {Q : Bool → Hp → Prop} (h : tT k W C (.ta t u) σ H Q) : tAnd (tT k W C t) (tT k W C u) σ H Q := by
  obtain ⟨env, fo, R, ok, o⟩ := h
  unfold PL.evT at o
  refine ⟨env, fo, R, ok, o.bind.imp fun d e q H1 p => ?_⟩
  obtain ⟨fo1, R1, a1⟩ := p
  cases d with
  | true => rw [if_pos rfl]; exact ⟨_, fo1, R1, a1.ok, seqT a1 q⟩
  | false => rw [if_neg Bool.false_ne_true]; exact q H1 ⟨fo1, R1, a1⟩
theorem rd_or {σ : L2.St} {H : Hp} {Q : Bool → Hp → Prop} (h : tT k W C (.to t u) σ H Q) : tOr (tT k W C t) (tT k W C u) σ H Q := by
  obtain ⟨env, fo, R, ok, o⟩ := h
  unfold PL.evT at o
  refine ⟨env, fo, R, ok, o.bind.imp fun d e q H1 p => ?_⟩
  obtain ⟨fo1, R1, a1⟩ := p
  cases d with
  | true => rw [if_pos rfl]; exact q H1 ⟨fo1, R1, a1⟩
  | false => rw [if_neg Bool.false_ne_true]; exact ⟨_, fo1, R1, a1.ok, seqT a1 q⟩
theorem et_and {rest : List Expr} (ha : PT X a (tT k W C t)) (hb : PW X (.BoolOp .And (b :: rest) pos) (tT k W C u)) : PW X (.BoolOp .And (a :: b :: rest) pos) (tT k W C (.ta t u)) := imW (pw_and ha hb) fun _ _ _ => rd_and
theorem et_or {rest : List Expr} (ha : PT X a (tT k W C t)) (hb : PW X (.BoolOp .Or (b :: rest) pos) (tT k W C u)) : PW X (.BoolOp .Or (a :: b :: rest) pos) (tT k W C (.to t u)) := imW (pw_or ha hb) fun _ _ _ => rd_or
end
end LB

end
section
set_option Elab.async false
set_option linter.all false
set_option maxRecDepth 100000
set_option maxHeartbeats 1000000
/-! Layer B, 7: arguments, chains, tuples, lists, items, slices. -/
namespace LB
open PySem PySem.Spec PyProof.Rows L2
open PL (PV MV Txt IE IEs IT II IS ISs)
section
variable {X : Cx} {k : Kx} {W : WX} {C : PL.Ctx} {R R' : Addr → Prop} {σ : L2.St} {H H' : Hp} {own : Addr → Prop} {env env' : PL.Env} {fo : Nat → List Addr}
variable {e a b c : Expr} {es : List Expr} {ie ia ib ic : IE} {ies : IEs} {pos p2 : Pos} {t u : IT}

/-! ### no star -/
def isStar : Expr → Bool
  | .Starred _ _ => true
  | _ => false
theorem star_cons (h : isStar e = false) (env : PySem.Env) : starEach (e :: es) env = (false, eval e env) :: starEach es env := by
  cases e <;> first | rfl | cases h
def noStars : List Expr → Bool
  | [] => true
  | e :: r => !isStar e && noStars r
theorem star_none : ∀ {es : List Expr} (h : noStars es = true) (pos : Pos) (env : PySem.Env), (backTo pos (starEach es env)).any (·.1) = false
  | [], _, _, _ => rfl
  | e :: r, h, pos, env => by
    have h : (!isStar e && noStars r) = true := h
    rw [Bool.and_eq_true] at h
    rw [star_cons (by simpa using h.1)]
    show (false || (backTo pos (starEach r env)).any (·.1)) = false
    rw [star_none h.2]; rfl
theorem star_all : ∀ {es : List Expr} (h : noStars es = true) (pos : Pos) (env : PySem.Env), (backTo pos (starEach es env)).all (fun x => !x.1) = true
  | [], _, _, _ => rfl
  | e :: r, h, pos, env => by
    have h : (!isStar e && noStars r) = true := h
    rw [Bool.and_eq_true] at h
    rw [star_cons (by simpa using h.1)]
    show (true && (backTo pos (starEach r env)).all (fun x => !x.1)) = true
    rw [star_all h.2]; rfl

/-! ### arguments -/
theorem ea_onil : PA X [] (tOs k W C .nil) := imA pa_nil fun σ H Q ⟨env, fo, R, ok, o⟩ => by
  unfold PL.opds at o
  exact o [] H ⟨fo, R, [], .refl ok, ⟨rfl, rfl⟩, .nil⟩
theorem OpdReps.stay {R1 R2 : Addr → Prop} {H1 H2 : Hp} {env1 env2 : PL.Env} {fo1 fo2 : Nat → List Addr} (e : EnvOk k R1 H1 env1 σ fo1) (b : At k R1 σ H1 (Own fo1) env2 fo2 R2 H2) : ∀ {os : List PL.Opd} {xs : List V} {O : List Addr}, (∀ a ∈ O, R1 a) → OpdReps k H1 (bn fo1 R1) σ env1 os xs O → OpdReps k H2 (bn fo2 R2) σ env2 os xs O
  | [], _, _, _, r => r
  | o :: os, _, _, hO, r => by
    obtain ⟨x, xs', O1, O2, e1, r1, r2, e2⟩ := r
    subst e2
    refine ⟨x, xs', O1, O2, e1, ?_, OpdReps.stay e b (fun a h => hO a (List.mem_append_right _ h)) r2, rfl⟩
    have := r1.stay e b fun a h => hO a (List.mem_append_left _ h)
    cases o with
    | sl i => exact this
    | tm v => exact this
/-- the first operand, as it is behind the second step -/
theorem OpdRep.on {R1 R2 : Addr → Prop} {H1 H2 : Hp} {env1 env2 : PL.Env} {fo1 fo2 : Nat → List Addr} (e : EnvOk k R1 H1 env1 σ fo1) (b : At k R1 σ H1 (Own fo1) env2 fo2 R2 H2) {o : PL.Opd} {x : V} {O : List Addr} (hO : ∀ a ∈ O, R1 a) (r : OpdRep k H1 (bn fo1 R1) σ env1 o x O) : OpdRep k H2 (bn fo2 R2) σ env2 o x O := r.stay e b hO
theorem ea_ocons (ha : PE X e (tO k W C ie)) (hr : PA X es (tOs k W C ies)) (hs : isStar e = false) : PA X (e :: es) (tOs k W C (.cons ie ies)) := imA (pa_cons ha hr (star_cons hs _)) fun σ H Q ⟨env, fo, R, ok, o⟩ => by
  unfold PL.opds at o
  refine ⟨env, fo, R, ok, o.bind.imp fun o1 e1 q x H1 p => ?_⟩
  obtain ⟨fo1, R1, O1, a1, r1, t1⟩ := p
  refine ⟨e1, fo1, R1, a1.ok, (q.bind.step a1 fun _ _ z => z).imp fun os e2 q2 xs H2 p2 => ?_⟩
  obtain ⟨fo2, R2, O2, a2, r2, t2⟩ := p2
  exact q2 (x :: xs) H2 ⟨fo2, R2, O1 ++ O2, a1.step a2, ⟨x, xs, O1, O2, rfl, r1.on a1.ok a2 fun a h => (t1.mem a h).1, r2, rfl⟩, t1.app t2 a2.sub a1.sub⟩
theorem ea_vnil : PA X [] (tVs k W C .nil) := imA pa_nil fun σ H Q ⟨env, fo, R, ok, o⟩ => by
  unfold PL.evs at o
  exact o [] H ⟨fo, R, [], .refl ok, ⟨rfl, rfl⟩, .nil⟩
theorem ea_vcons (ha : PE X e (tE k W C ie)) (hr : PA X es (tVs k W C ies)) (hs : isStar e = false) : PA X (e :: es) (tVs k W C (.cons ie ies)) := imA (pa_cons ha hr (star_cons hs _)) fun σ H Q ⟨env, fo, R, ok, o⟩ => by
  unfold PL.evs at o
  refine ⟨env, fo, R, ok, o.bind.imp fun o1 e1 q x H1 p => ?_⟩
  obtain ⟨fo1, R1, O1, a1, r1, t1⟩ := p
  refine ⟨e1, fo1, R1, a1.ok, (q.bind.step a1 fun _ _ z => z).imp fun os e2 q2 xs H2 p2 => ?_⟩
  obtain ⟨fo2, R2, O2, a2, r2, t2⟩ := p2
  exact q2 (x :: xs) H2 ⟨fo2, R2, O1 ++ O2, a1.step a2, ⟨x, xs, O1, O2, rfl, At.val a1.ok a2 (fun a h => (t1.mem a h).1) r1, r2, rfl⟩, t1.app t2 a2.sub a1.sub⟩

/-! ### a op b op c -/
theorem rd_chn {o o' : PL.COp} {r r' : R2} (hs : CmS k o r) (hs' : CmS k o' r') {σ : L2.St} {H : Hp} {Q : VK} (h : tE k W C (.chn o o' ia ib ic) σ H Q) : tChain r r' (tO k W C ia) (tO k W C ib) (tO k W C ic) σ H Q := by
  obtain ⟨env, fo, R, ok, oc⟩ := h
  unfold PL.ev at oc
  refine ⟨env, fo, R, ok, oc.bind.imp fun o1 e1 q1 x H1 p1 => ?_⟩
  obtain ⟨fo1, R1, O1, a1, r1, t1⟩ := p1
  refine ⟨e1, fo1, R1, a1.ok, (q1.bind.step a1 fun _ _ z => z).imp fun o2 e2 q2 y H2 p2 => ?_⟩
  obtain ⟨fo2, R2, O2, a2, r2, t2⟩ := p2
  have a12 := a1.step a2
  have r1' := r1.on a1.ok a2 fun a h => (t1.mem a h).1
  cases h1 : o1.get e2 with
  | none => rw [h1] at q2; exact q2.elim
  | some m1 =>
    cases h2 : o2.get e2 with
    | none => rw [h1, h2] at q2; exact q2.elim
    | some m2 =>
      rw [h1, h2] at q2
      obtain ⟨O1', s1⟩ := r1'.look a2.ok h1
      obtain ⟨O2', s2⟩ := r2.look a2.ok h2
      cases h3 : PL.cmpF o m1 m2 with
      | none =>
        change Outc _ _ _ _ _ _ _ (match PL.cmpF o m1 m2 with | some true => _ | some false => _ | none => _) at q2
        rw [h3] at q2; exact q2.elim
      | some c =>
        change Outc _ _ _ _ _ _ _ (match PL.cmpF o m1 m2 with | some true => _ | some false => _ | none => _) at q2
        rw [h3] at q2
        refine hs R2 H2 fo2 m1 m2 c x y O1' O2' _ s1 s2 h3 ⟨c, rfl, ?_⟩
        cases c with
        | false => rw [if_neg Bool.false_ne_true]; exact q2 _ _ (.pure a12 rfl)
        | true =>
          rw [if_pos rfl]
          refine ⟨e2, fo2, R2, a2.ok, (Outc.bind q2).step a12 fun o3 e3 q3 z H3 p3 => ?_⟩
          obtain ⟨fo3, R3, O3, a3, r3, t3⟩ := p3
          have r2' := r2.on a2.ok a3 fun a h => (t2.mem a h).1
          cases h4 : o2.get e3 with
          | none => rw [h4] at q3; exact q3.elim
          | some m2' => cases h5 : o3.get e3 with
            | none => rw [h4, h5] at q3; exact q3.elim
            | some m3 =>
              rw [h4, h5] at q3
              obtain ⟨O2'', s2'⟩ := r2'.look a3.ok h4
              obtain ⟨O3', s3⟩ := r3.look a3.ok h5
              change Outc _ _ _ _ _ _ _ (match PL.cmpF o' m2' m3 with | some c => _ | none => _) at q3
              cases h6 : PL.cmpF o' m2' m3 with
              | none => rw [h6] at q3; exact q3.elim
              | some c' =>
                rw [h6] at q3
                exact hs' R3 H3 fo3 m2' m3 c' y z O2'' O3' Q s2' s3 h6 (q3 _ _ (.pure (a12.step a3) rfl))
theorem ev_chn {o o' : PL.COp} {op op' : CmpOp} {r r' : R2} (hs : CmS k o r) (hs' : CmS k o' r') (hop : OpR X (compareOp op) r) (hop' : OpR X (compareOp op') r') (ha : PE X a (tO k W C ia)) (hb : PE X b (tO k W C ib)) (hc : PE X c (tO k W C ic))
    (hm : lastMarks [op, op'] [b, c] = false) : PE X (.Compare a [op, op'] [b, c] pos) (tE k W C (.chn o o' ia ib ic)) := imE (pe_chain hop hop' ha hb hc hm) fun _ _ _ h => rd_chn hs hs' h
/-- an expression whose value is a bool, looked at as a test -/
theorem rd_bl {σ : L2.St} {H : Hp} {Q : Bool → Hp → Prop} (n : noVar ie = true) (hb : ∀ env v ε, PL.ev C ie env = .ok v ε → ∃ c, v = .p (.bl c)) (h : tT k W C (.tv ie) σ H Q) : tE k W C ie σ H fun x H' => ∃ c, x = .bl c ∧ Q c H' := by
  obtain ⟨env, fo, R, ok, oc⟩ := h
  refine ⟨env, fo, R, ok, ?_⟩
  unfold PL.evT at oc
  rw [opd_eq n] at oc
  cases hr : PL.ev C ie env with
  | ex e ε => rw [hr] at oc; exact oc
  | bad => rw [hr] at oc; exact oc
  | ok v ε =>
    rw [hr] at oc
    obtain ⟨c, rfl⟩ := hb env v ε hr
    intro x H' p
    obtain ⟨fo1, R1, O1, a1, r1, t1⟩ := p
    exact ⟨c, r1.1, oc H' ⟨fo1, R1, a1⟩⟩
theorem chn_bl {o o' : PL.COp} (env : PL.Env) (v : MV) (ε : PL.Env) (h : PL.ev C (.chn o o' ia ib ic) env = .ok v ε) : ∃ c, v = .p (.bl c) := by
  unfold PL.ev at h
  cases h1 : PL.opd C ia env with
  | ex _ _ => rw [h1] at h; cases h
  | bad => rw [h1] at h; cases h
  | ok o1 e1 =>
    rw [h1] at h
    change (PL.Res.bind (PL.opd C ib e1) _) = _ at h
    cases h2 : PL.opd C ib e1 with
    | ex _ _ => rw [h2] at h; cases h
    | bad => rw [h2] at h; cases h
    | ok o2 e2 =>
      rw [h2] at h
      dsimp only [PL.Res.bind] at h
      split at h
      · split at h
        · cases h3 : PL.opd C ic e2 with
          | ex _ _ => rw [h3] at h; cases h
          | bad => rw [h3] at h; cases h
          | ok o3 e3 =>
            rw [h3] at h
            dsimp only at h
            split at h
            · split at h
              · cases h; exact ⟨_, rfl⟩
              · cases h
            · cases h
        · cases h; exact ⟨_, rfl⟩
        · cases h
      · cases h
theorem et_chn {o o' : PL.COp} {op op' : CmpOp} {r r' : R2} (hs : CmS k o r) (hs' : CmS k o' r') (hop : OpR X (compareOp op) r) (hop' : OpR X (compareOp op') r') (ha : PE X a (tO k W C ia)) (hb : PE X b (tO k W C ib)) (hc : PE X c (tO k W C ic))
    (hm : lastMarks [op, op'] [b, c] = false) : PT X (.Compare a [op, op'] [b, c] pos) (tT k W C (.tv (.chn o o' ia ib ic))) := imT (pt_chain hop hop' ha hb hc hm) fun _ _ _ h => rd_chn hs hs' (rd_bl rfl chn_bl h)

/-! ### tuples, lists -/
theorem repMs_frz (hb : ∀ a, H a ≠ none → ¬ bn fo R' a → ¬ bn fo R a) {ms : List MV} {vs : List V} {O : List Addr} (no : ∀ a ∈ O, ¬ bn fo R a) (r : RepMs k H (bn fo R') ms vs O) : RepPs k H (bn fo R) (PL.frzL ms) vs := r.frz hb no
/-- what is ours is given up: it is frozen -/
theorem PostVs.frz {ms : List MV} {xs : List V} (p : PostVs k R σ H own env' ms xs H') : ∃ fo', At k R σ H own env' fo' R H' ∧ RepPs k H' (bn fo' R) (PL.frzL ms) xs := by
  obtain ⟨fo', R', O, a1, r1, t1⟩ := p
  refine ⟨fo', a1.drop a1.sub fun _ h => h, r1.frz (fun a _ nb z => nb (z.imp id fun z => a1.sub a z)) fun a ha z => ?_⟩
  rcases z with ⟨i, z⟩ | z
  · exact a1.ok.rs i a z (t1.mem a ha).1
  · exact (t1.mem a ha).2 z
theorem PostV.frz {m : MV} {x : V} (p : PostV k R σ H own env' m x H') : ∃ fo', At k R σ H own env' fo' R H' ∧ RepP k H' (bn fo' R) (PL.frz m) x := by
  obtain ⟨fo', R', O, a1, r1, t1⟩ := p
  refine ⟨fo', a1.drop a1.sub fun _ h => h, r1.frz (fun a _ nb z => nb (z.imp id fun z => a1.sub a z)) fun a ha z => ?_⟩
  rcases z with ⟨i, z⟩ | z
  · exact a1.ok.rs i a z (t1.mem a ha).1
  · exact (t1.mem a ha).2 z
def lenIE : IEs → Nat
  | .nil => 0
  | .cons _ r => lenIE r + 1
theorem evs_len : ∀ {ies : IEs} {env : PL.Env} {vs : List MV} {ε : PL.Env}, PL.evs C ies env = .ok vs ε → vs.length = lenIE ies
  | .nil, env, vs, ε, h => by unfold PL.evs at h; cases h; rfl
  | .cons ie r, env, vs, ε, h => by
    unfold PL.evs at h
    cases h1 : PL.ev C ie env with
    | ex _ _ => rw [h1] at h; cases h
    | bad => rw [h1] at h; cases h
    | ok v e1 =>
      rw [h1] at h
      change (PL.Res.bind (PL.evs C r e1) _) = _ at h
      cases h2 : PL.evs C r e1 with
      | ex _ _ => rw [h2] at h; cases h
      | bad => rw [h2] at h; cases h
      | ok ws e2 =>
        rw [h2] at h
        cases h
        show ws.length + 1 = _
        rw [evs_len h2]; rfl
/-- the length is that of the text -/
theorem Outc.len {P : List MV → PL.Env → Prop} {ε : PL.Env} (o : Outc k W R σ H own P (PL.evs C ies ε)) : Outc k W R σ H own (fun vs e => vs.length = lenIE ies ∧ P vs e) (PL.evs C ies ε) := by
  cases h : PL.evs C ies ε with
  | ok vs e => rw [h] at o; exact ⟨evs_len h, o⟩
  | ex _ _ => rw [h] at o; exact o
  | bad => rw [h] at o; exact o
theorem len_ok {n : Nat} (h : n ≤ 1000) : n ≤ sizeLine := by rw [sizeLine_eq]; omega
theorem ev_tup {x1} (h : PA X es (tVs k W C ies)) (hl : lenIE ies ≤ 1000) : PE X (.Tuple es x1 pos) (tE k W C (.tup ies)) := imE (pe_tup h) fun σ H Q ⟨env, fo, R, ok, o⟩ => by
  unfold PL.ev at o
  refine ⟨env, fo, R, ok, o.bind.len.imp fun vs e ⟨l, q⟩ xs H1 p => ?_⟩
  have p0 := p
  obtain ⟨fo1, R1, O1, a1, r1, t1⟩ := p
  have lx := r1.len
  refine ⟨len_ok (by omega), fun p hp => ?_⟩
  obtain ⟨fo', a2, r2⟩ := p0.frz
  exact q _ _ (.tup a2 r2 hp)
theorem ev_lst (h : PA X es (tVs k W C ies)) (hl : lenIE ies ≤ 1000) : PE X (.List es pos) (tE k W C (.lst ies)) := imE (pe_lst h) fun σ H Q ⟨env, fo, R, ok, o⟩ => by
  unfold PL.ev at o
  refine ⟨env, fo, R, ok, o.bind.len.imp fun vs e ⟨l, q⟩ xs H1 p => ?_⟩
  obtain ⟨fo1, R1, O1, a1, r1, t1⟩ := p
  have lx := r1.len
  refine ⟨len_ok (by omega), fun p hp => ?_⟩
  exact q _ _ (.lst a1 r1 t1 hp)
theorem ev_dct {d : Bool} (h : ∀ σ H Q, (∀ p, H p = none → Q (.ref p) (upd H p (if d then .dT [] else .dK []))) → tE k W C (.dct d) σ H Q → True) : True := trivial
end
end LB

end
section
set_option Elab.async false
set_option linter.all false
set_option maxRecDepth 100000
set_option maxHeartbeats 1000000
/-! Layer B, 8: items and slices. -/
namespace LB
open PySem PySem.Spec PyProof.Rows L2
open PL (PV MV Txt IE IEs IT II IS ISs)
section
variable {X : Cx} {k : Kx} {W : WX} {C : PL.Ctx} {R R' : Addr → Prop} {σ : L2.St} {H H' : Hp} {own B : Addr → Prop} {env env' : PL.Env} {fo : Nat → List Addr}
variable {e a b c : Expr} {es : List Expr} {ie ia ib ic : IE} {ies : IEs} {pos p2 : Pos} {t u : IT}

/-! ### parts of a list -/
theorem RepMs.split : ∀ {xs : List MV} {vs : List V} {O : List Addr} {j : Nat} {m : MV}, RepMs k H B xs vs O → xs[j]? = some m →
    ∃ vs1 v vs2 O1 Oj O2, vs = vs1 ++ v :: vs2 ∧ vs1.length = j ∧ O = O1 ++ (Oj ++ O2) ∧ RepMs k H B (xs.take j) vs1 O1 ∧ RepM k H B m v Oj ∧ RepMs k H B (xs.drop (j + 1)) vs2 O2
  | [], _, _, _, _, _, h => by simp at h
  | x :: r, _, _, 0, m, q, h => by
    obtain ⟨v, vs', O1, O2, e1, r1, r2, e2⟩ := q
    simp at h
    subst h
    exact ⟨[], v, vs', [], O1, O2, e1, rfl, e2, ⟨rfl, rfl⟩, r1, r2⟩
  | x :: r, _, _, j + 1, m, q, h => by
    obtain ⟨v, vs', O1, O2, e1, r1, r2, e2⟩ := q
    obtain ⟨vs1, w, vs2, P1, Pj, P2, h1, h2, h3, h4, h5, h6⟩ := RepMs.split (j := j) r2 (by simpa using h)
    exact ⟨v :: vs1, w, vs2, O1 ++ P1, Pj, P2, by rw [e1, h1]; rfl, by rw [List.length_cons, h2], by rw [e2, h3, List.append_assoc], ⟨v, vs1, O1, P1, rfl, r1, h4, rfl⟩, h5, h6⟩
theorem RepMs.app : ∀ {xs ys : List MV} {vs ws : List V} {O P : List Addr}, RepMs k H B xs vs O → RepMs k H B ys ws P → RepMs k H B (xs ++ ys) (vs ++ ws) (O ++ P)
  | [], _, _, _, _, _, h, g => by rw [h.1, h.2]; exact g
  | x :: r, _, _, _, _, _, h, g => by
    obtain ⟨v, vs', O1, O2, e1, r1, r2, e2⟩ := h
    rw [e1, e2, List.append_assoc]
    exact ⟨v, _, O1, _, rfl, r1, RepMs.app r2 g, rfl⟩
theorem set_split {α : Type} {xs : List α} {j : Nat} {m m' : α} (h : xs[j]? = some m) : xs.set j m' = xs.take j ++ m' :: xs.drop (j + 1) := by
  have hj : j < xs.length := (List.getElem?_eq_some_iff.mp h).1
  rw [List.set_eq_take_append_cons_drop, if_pos hj]
theorem RepMs.join {xs : List MV} {vs1 vs2 : List V} {O1 Oj O2 : List Addr} {j : Nat} {m m' : MV} {v' : V} (h : xs[j]? = some m) (r1 : RepMs k H B (xs.take j) vs1 O1) (rj : RepM k H B m' v' Oj) (r2 : RepMs k H B (xs.drop (j + 1)) vs2 O2) :
    RepMs k H B (xs.set j m') (vs1 ++ v' :: vs2) (O1 ++ (Oj ++ O2)) := by
  rw [set_split h]
  exact r1.app ⟨v', vs2, Oj, O2, rfl, rj, r2, rfl⟩
/-! ### an index -/
theorem ixN_eq {n : Nat} {i : Int} : PL.ixN n i = L2.ixN n i := by
  unfold PL.ixN L2.ixN
  by_cases h : 0 ≤ i
  · rw [if_pos h, if_pos h]
  · rw [if_neg h, if_neg h]
    by_cases g : 0 ≤ i + n
    · rw [if_pos g, if_pos (by omega)]
    · rw [if_neg g, if_neg (by omega)]
theorem atI_of {α : Type} {xs : List α} {n : Nat} {i : Int} {j : Nat} {v : α} (hn : n = xs.length) (h : PL.ixN n i = some j) (g : xs[j]? = some v) : atI xs i = some v := by
  unfold atI
  rw [← hn, ← ixN_eq, h]
  exact g
def rIxDi : R2 := fun x y H Q => ∃ a v, x = .ref a ∧ DGet H a y (some v) ∧ Q v H
theorem ix_dict (hu : X.A.units + 1 < cLine) : IxR X rIxDi := by
  intro value slice pins s σ H x y v u Q I rx ry h hs
  obtain ⟨a, v', rfl, g, q⟩ := h
  obtain rfl : v = Value.ref a := rx
  exact tail_any (dict_typeIs I g) PySem.F.slot_dict_getitem.lookup (d_getItem hu I g ry fun w' s3 I3 rw' => ⟨v', H, I3, rw', q⟩) hs
def rIxK (K : PySem.W.Frag) : R2 := fun x y H Q => rIxDi x y H Q ∨ rIx K x y H Q
theorem ix_all (hu : X.A.units + 1 < cLine) : IxR X (rIxK X.K) := (ix_dict hu).or ix_seq
theorem strOf_cps (s : Txt) : (strOf s).cps.toList = s := by
  show s.toArray.toList = s
  simp
/-- the item of a value -/
theorem ix_rep {m : MV} {κ : MV} {v : MV} {x y : V} {O O2 : List Addr} (h : PL.ixF m κ = some v) (r : RepM k H B m x O) (ry : RepM k H B κ y O2) : ∃ z, (∀ Q : VK, Q z H → rIxK k.K x y H Q) ∧ ((∃ w, v = .p w ∧ RepP k H B w z ∧ ∀ ε o, PL.ixFrz ε o m κ = ε) ∨
      ∃ xs j mz a vs1 vs2 O1 Oj O3, m = .l xs ∧ xs[j]? = some mz ∧ v = .p (PL.frz mz) ∧ x = .ref a ∧ H a = some (.lst (vs1 ++ z :: vs2)) ∧ O = a :: (O1 ++ (Oj ++ O3)) ∧ RepMs k H B (xs.take j) vs1 O1 ∧ RepM k H B mz z Oj ∧ RepMs k H B (xs.drop (j + 1)) vs2 O3 ∧
        (∀ ε s, PL.ixFrz ε (.sl s) m κ = ε.set s (some (.l (xs.set j (.p (PL.frz mz)))))) ∧ (∀ ε t, PL.ixFrz ε (.tm t) m κ = ε) ∧ PL.ixO m κ = false) := by
  unfold PL.ixF at h
  split at h <;> try contradiction
  · rename_i s i
    split at h
    · rename_i hl
      split at h
      · rename_i j hj
        split at h
        · rename_i c hc
          cases h
          refine ⟨.str (strOf [c]), fun Q q => .inr (.inr (.inr ⟨strOf s, i, c, r.1, ry.1, by rw [strOf_len, ← lim_eq]; exact hl, ?_, q⟩)), .inl ⟨.str [c], rfl, rfl, fun ε o => by cases o <;> rfl⟩⟩
          rw [strOf_cps]
          exact atI_of rfl hj hc
        · cases h
      · cases h
    · cases h
  · rename_i w l i
    split at h
    · rename_i j hj
      cases hc : l[j]? with
      | none => rw [hc] at h; cases h
      | some p =>
        rw [hc] at h
        cases h
        obtain ⟨a, vs, e, sq, _, t⟩ := r.1
        obtain ⟨z, hz, rz⟩ := t.get hc
        exact ⟨z, fun Q q => .inr (.inr (.inl ⟨a, vs, i, z, e, ry.1, sq, atI_of t.len hj hz, q⟩)), .inl ⟨p, rfl, rz, fun ε o => by cases o <;> rfl⟩⟩
    · cases h
  · rename_i l i
    split at h
    · rename_i j hj
      cases hc : l[j]? with
      | none => rw [hc] at h; cases h
      | some p =>
        rw [hc] at h
        cases h
        obtain ⟨a, vs, e, sq, _, t⟩ := r.1
        obtain ⟨z, hz, rz⟩ := t.get hc
        exact ⟨z, fun Q q => .inr (.inl ⟨a, vs, i, z, e, ry.1, SqL.of sq, atI_of t.len hj hz, q⟩), .inl ⟨p, rfl, rz, fun ε o => by cases o <;> rfl⟩⟩
    · cases h
  · rename_i xs i
    split at h
    · rename_i j hj
      obtain ⟨a, vs, O', e, sq, t, eo⟩ := r
      cases hc : xs[j]? with
      | none => rw [hc] at h; cases h
      | some m =>
        rw [hc] at h
        obtain ⟨vs1, z, vs2, O1, Oj, O3, e1, e2, e3, t1, rz, t2⟩ := t.split hc
        refine ⟨z, fun Q q => .inr (.inl ⟨a, vs, i, z, e, ry.1, SqL.of sq, atI_of t.len hj (by rw [e1, ← e2]; simp), q⟩), ?_⟩
        cases m with
        | p w =>
          cases h
          refine .inl ⟨w, rfl, rz.1, fun ε o => ?_⟩
          cases o with
          | tm t => rfl
          | sl s => simp [PL.ixFrz, hj, hc]
        | l ys =>
          cases h
          refine .inr ⟨xs, j, _, a, vs1, vs2, O1, Oj, O3, rfl, hc, rfl, e, by rw [← e1]; exact sq, by rw [eo, e3], t1, rz, t2, fun ε s => by simp [PL.ixFrz, hj, hc], fun ε t => rfl, by simp [PL.ixO, hj, hc, PL.isP]⟩
        | d tt ks ws =>
          cases h
          refine .inr ⟨xs, j, _, a, vs1, vs2, O1, Oj, O3, rfl, hc, rfl, e, by rw [← e1]; exact sq, by rw [eo, e3], t1, rz, t2, fun ε s => by simp [PL.ixFrz, hj, hc], fun ε t => rfl, by simp [PL.ixO, hj, hc, PL.isP]⟩
    · cases h
  · rename_i tt ks ws κ
    split at h
    · rename_i hs
      cases hg : PL.dget ks ws κ with
      | none => rw [hg] at h; cases h
      | some w =>
        rw [hg] at h
        cases h
        obtain ⟨a, vs, e, t, _, d⟩ := r
        obtain ⟨o, g1, g2, _⟩ := dic_get d t hs ry.1
        obtain ⟨z, ez, rz⟩ := g2 w hg
        subst ez
        exact ⟨z, fun Q q => .inl ⟨a, z, e, g1, q⟩, .inl ⟨w, rfl, rz, fun ε o => by cases o <;> rfl⟩⟩
    · cases h
  · rename_i tt ks ws κ
    split at h
    · rename_i hs
      cases hg : PL.dget ks ws κ with
      | none => rw [hg] at h; cases h
      | some w =>
        rw [hg] at h
        cases h
        obtain ⟨a, vs, e, _, t, d⟩ := r.1
        obtain ⟨o, g1, g2, _⟩ := dic_get d t hs ry.1
        obtain ⟨z, ez, rz⟩ := g2 w hg
        subst ez
        exact ⟨z, fun Q q => .inl ⟨a, z, e, g1, q⟩, .inl ⟨w, rfl, rz, fun ε o => by cases o <;> rfl⟩⟩
    · cases h
def plainIx : Expr → Bool
  | .Slice _ _ _ _ => false
  | _ => true
theorem plainIx_ok (h : plainIx b = true) : PlainIx b := fun o i => by
  cases b <;> first | rfl | cases h
/-- an item is frozen where it stands -/
theorem EnvOk.frzAt (e : EnvOk k R H env σ fo) {s j : Nat} {xs : List MV} {mz : MV} {a : Addr} {z : V} {vs1 vs2 : List V} {O1 Oj O3 : List Addr} (hs : env.at s = some (.l xs)) (hx : σ[s]? = some (some (.ref a))) (hc : xs[j]? = some mz) (ha : H a = some (.lst (vs1 ++ z :: vs2)))
    (hO : fo s = a :: (O1 ++ (Oj ++ O3))) (r1 : RepMs k H (bn fo R) (xs.take j) vs1 O1) (rz : RepM k H (bn fo R) mz z Oj) (r2 : RepMs k H (bn fo R) (xs.drop (j + 1)) vs2 O3) :
    EnvOk k R H (env.set s (some (.l (xs.set j (.p (PL.frz mz)))))) σ (fset fo s (a :: (O1 ++ O3))) ∧ RepP k H (bn (fset fo s (a :: (O1 ++ O3))) R) (PL.frz mz) z := by
  have nd := e.nd s
  rw [hO] at nd
  have sub : ∀ c ∈ a :: (O1 ++ O3), c ∈ fo s := fun c hc => by
    rw [hO]
    simp only [List.mem_cons, List.mem_append] at hc ⊢
    rcases hc with h | h | h
    · exact .inl h
    · exact .inr (.inl h)
    · exact .inr (.inr (.inr h))
  have nd' : (a :: (O1 ++ O3)).Nodup := by
    simp only [List.nodup_cons, List.nodup_append, List.mem_append] at nd ⊢
    obtain ⟨h1, h2, ⟨h3, h4, h5⟩, h6⟩ := nd
    exact ⟨fun z => h1 (z.imp id .inr), h2, h4, fun x hx y hy => h6 x hx y (.inr hy)⟩
  have down : ∀ c, bn (fset fo s (a :: (O1 ++ O3))) R c → bn fo R c := fun c z => by
    rcases z with ⟨i, z⟩ | z
    · by_cases hi : i = s
      · subst hi; rw [fset_same] at z; exact .inl ⟨i, sub c z⟩
      · rw [fset_ne hi] at z; exact .inl ⟨i, z⟩
    · exact .inr z
  have rf : RepP k H (bn (fset fo s (a :: (O1 ++ O3))) R) (PL.frz mz) z := rz.frz (fun c _ nb q => nb (down c q)) fun c hc q => by
    have hcs : c ∈ fo s := by rw [hO]; simp only [List.mem_cons, List.mem_append]; exact .inr (.inr (.inl hc))
    rcases q with ⟨i, q⟩ | q
    · by_cases hi : i = s
      · subst hi
        rw [fset_same] at q
        simp only [List.nodup_cons, List.nodup_append, List.mem_append] at nd
        obtain ⟨h1, h2, ⟨h3, h4, h5⟩, h6⟩ := nd
        rcases List.mem_cons.mp q with q | q
        · rw [q] at hc; exact h1 (.inr (.inl hc))
        · rcases List.mem_append.mp q with q | q
          · exact h6 c q c (.inl hc) rfl
          · exact h5 c hc c q rfl
      · rw [fset_ne hi] at q; exact hi (e.dj i s c q hcs)
    · exact e.rs s c hcs q
  refine ⟨e.weak (at_lt hs) nd' sub ⟨_, hx, a, _, _, rfl, ha, ?_, rfl⟩, rf⟩
  have g1 : RepMs k H (bn (fset fo s (a :: (O1 ++ O3))) R) (xs.take j) vs1 O1 := r1.stay (S := fun _ => False) (stay_refl fun _ => id) (fun c _ nb => ⟨id, fun q => nb (down c q)⟩) fun _ _ => id
  have g2 : RepMs k H (bn (fset fo s (a :: (O1 ++ O3))) R) (xs.drop (j + 1)) vs2 O3 := r2.stay (S := fun _ => False) (stay_refl fun _ => id) (fun c _ nb => ⟨id, fun q => nb (down c q)⟩) fun _ _ => id
  exact RepMs.join (Oj := []) hc g1 ⟨rf, rfl⟩ g2
theorem own_sub {s : Nat} {O : List Addr} (h : ∀ c ∈ O, c ∈ fo s) {c : Addr} (z : Own (fset fo s O) c) : Own fo c := by
  obtain ⟨i, z⟩ := z
  by_cases hi : i = s
  · subst hi; rw [fset_same] at z; exact ⟨i, h c z⟩
  · rw [fset_ne hi] at z; exact ⟨i, z⟩
theorem ev_ix (hu : X.A.units + 1 < cLine) (hK : X.K = k.K) (ha : PE X a (tO k W C ia)) (hb : PE X b (tE k W C ib)) (hs : plainIx b = true) : PE X (.Subscript a b pos) (tE k W C (.ix ia ib)) :=
  imE (pe_ix (ix_all hu) ha hb (plainIx_ok hs)) fun σ H Q ⟨env, fo, R, ok, o⟩ => by
    unfold PL.ev at o
    refine ⟨env, fo, R, ok, o.bind.imp fun o1 e1 q1 x H1 p1 => ?_⟩
    obtain ⟨fo1, R1, O1, a1, r1, t1⟩ := p1
    refine ⟨e1, fo1, R1, a1.ok, (q1.bind.step a1 fun _ _ z => z).imp fun κ e2 q2 y H2 p2 => ?_⟩
    obtain ⟨fo2, R2, O2, a2, r2, t2⟩ := p2
    have r1' := r1.on a1.ok a2 fun a h => (t1.mem a h).1
    have a12 := a1.step a2
    cases h1 : o1.get e2 with
    | none => rw [h1] at q2; exact q2.elim
    | some m =>
      rw [h1] at q2
      change Outc _ _ _ _ _ _ _ (match PL.ixF m κ with | some v => _ | none => _) at q2
      cases h2 : PL.ixF m κ with
      | none => rw [h2] at q2; exact q2.elim
      | some v =>
        rw [h2] at q2
        change ∀ x H', PostV k R σ H (Own fo) (PL.ixFrz e2 o1 m κ) v x H' → Q x H' at q2
        rw [hK]
        cases o1 with
        | sl s =>
          obtain ⟨x', hx, rx⟩ := a2.ok.rep s m h1
          have ex : x' = x := by
            have := r1'.1
            rw [hx] at this
            cases this; rfl
          subst ex
          obtain ⟨z, qz, hz⟩ := ix_rep h2 rx r2
          refine qz Q ?_
          rcases hz with ⟨w, ev, rw', id'⟩ | ⟨xs, j, mz, al, vs1, vs2, P1, Pj, P3, em, hc, ev, ex, hal, hO, t1', rz, t2', f1, _, _⟩
          · rw [id'] at q2
            subst ev
            exact q2 z H2 (.pure a12 rw')
          · subst em ev ex
            rw [f1] at q2
            obtain ⟨g1, g2⟩ := a2.ok.frzAt h1 hx hc hal hO t1' rz t2'
            have sub : ∀ c ∈ al :: (P1 ++ P3), c ∈ fo2 s := fun c hc => by
              rw [hO]
              simp only [List.mem_cons, List.mem_append] at hc ⊢
              rcases hc with h | h | h
              · exact .inl h
              · exact .inr (.inl h)
              · exact .inr (.inr (.inr h))
            exact q2 z H2 (.pure (a12.step (.less a2.ok g1 fun c z => own_sub sub z)) g2)
        | tm t =>
          cases h1
          obtain ⟨z, qz, hz⟩ := ix_rep h2 r1' r2
          refine qz Q ?_
          rcases hz with ⟨w, ev, rw', id'⟩ | ⟨xs, j, mz, al, vs1, vs2, P1, Pj, P3, em, hc, ev, ex, hal, hO, t1', rz, t2', _, f2, _⟩
          · rw [id'] at q2
            subst ev
            exact q2 z H2 (.pure a12 rw')
          · subst em ev ex
            rw [f2] at q2
            have p : PostV k R σ H (Own fo) e2 mz z H2 := ⟨fo2, R2, Pj, a12, rz, by
              have nd := t1.nd
              rw [hO] at nd
              exact (List.nodup_append.mp (List.nodup_append.mp (List.nodup_cons.mp nd).2).2.1).1, fun c hc => by
                have hm : c ∈ O1 := by rw [hO]; simp only [List.mem_cons, List.mem_append]; exact .inr (.inr (.inl hc))
                exact ⟨a2.sub c (t1.mem c hm).1, (t1.mem c hm).2⟩⟩
            obtain ⟨fo', a3, r3⟩ := p.frz
            exact q2 z H2 (.pure a3 r3)
end
end LB

end
section
set_option Elab.async false
set_option linter.all false
set_option maxRecDepth 100000
set_option maxHeartbeats 1000000
/-! Layer B, 9: slices; pure indices; the built-in functions. -/
namespace LB
open PySem PySem.Spec PyProof.Rows L2
open PL (PV MV Txt IE IEs IT II IS ISs)
section
variable {X : Cx} {k : Kx} {W : WX} {C : PL.Ctx} {R R' : Addr → Prop} {σ : L2.St} {H H' : Hp} {own B : Addr → Prop} {env env' : PL.Env} {fo : Nat → List Addr}
variable {e a b c : Expr} {es : List Expr} {ie ia ib ic : IE} {ies : IEs} {pos p2 : Pos} {t u : IT}

/-! ### slices -/
theorem sIx_eq (n d : Nat) (o : Option Int) : PL.sIx n d o = HT.sIx n d o := by cases o <;> rfl
theorem RepPs.cut {l : List PV} {vs : List V} (r : RepPs k H B l vs) (lo hi : Option Int) : RepPs k H B (PL.cutL l lo hi) (cutV vs lo hi) := by
  unfold PL.cutL cutV
  rw [sIx_eq, sIx_eq, r.len]
  exact (r.drop _).take _
theorem cutS_eq (s : Txt) (lo hi : Option Int) : cutS (strOf s) lo hi = strOf (PL.cutL s lo hi) := by
  unfold cutS PL.cutL
  rw [sIx_eq, sIx_eq, strOf_len, strOf_cps]; rfl
theorem cut_all {α : Type} (l : List α) (lo hi : Option Int) (h : HT.sIx l.length 0 lo = 0 ∧ HT.sIx l.length l.length hi = l.length) : PL.cutL l lo hi = l := by
  unfold PL.cutL
  rw [sIx_eq, sIx_eq, h.1, h.2]
  simp
theorem cutV_ints (l : List Int) (lo hi : Option Int) : cutV (l.map V.int) lo hi = (PL.cutL l lo hi).map V.int := by
  unfold cutV PL.cutL
  rw [sIx_eq, sIx_eq, List.length_map, List.map_take, List.map_drop]
def rSlK (K : PySem.W.Frag) : V → Option Int → Option Int → Hp → VK → Prop := fun x lo hi H Q => rSlL K x lo hi H Q ∨ rSlA K x lo hi H Q ∨ rSlS x lo hi H Q
theorem sl_all : SlR X (rSlK X.K) := sl_list.or (sl_tupA.or sl_str)
theorem sl_rep (e : EnvOk k R H env σ fo) {m v : MV} {lo hi : Option Int} {x : V} {O : List Addr} {Q : VK} (h : PL.slF m lo hi = some v) (r : RepM k H (bn fo R) m x O) (q : ∀ z H', PostV k R σ H (Own fo) env v z H' → Q z H') : rSlK k.K x lo hi H Q := by
  unfold PL.slF at h
  split at h <;> try contradiction
  · split at h
    · rename_i s hl
      cases h
      refine .inr (.inr ⟨strOf s, r.1, by rw [strOf_len, ← lim_eq]; exact hl, ?_⟩)
      rw [cutS_eq]
      exact q _ _ (e.plain rfl)
    · cases h
  · cases h
    obtain ⟨a, vs, ex, sq, q2, t⟩ := r.1
    have hl := t.len
    refine .inr (.inl ⟨a, vs, ex, sq, fun w => ?_, fun _ p hp => ?_⟩)
    · refine q _ _ (e.plain ⟨a, vs, rfl, sq, q2, ?_⟩)
      rw [cut_all _ lo hi (by rw [hl]; exact w)]
      exact t
    · exact q _ _ (.tup (.refl e) (t.cut lo hi) hp)
  · cases h
    obtain ⟨a, vs, ex, sq, _, t⟩ := r.1
    exact .inl ⟨a, vs, ex, SqL.of sq, fun p hp => q _ _ (.lstP (.refl e) (t.cut lo hi) hp)⟩
  · rename_i l
    cases h
    obtain ⟨a, ex, sq⟩ := r.1
    have sq' : SqL k.K H a (l.map V.int) := by
      rcases sq with ⟨o, sq⟩ | sq
      · exact .inl (.inr ⟨o, sq⟩)
      · exact .inr sq
    refine .inl ⟨a, _, ex, sq', fun p hp => ?_⟩
    rw [cutV_ints]
    have h0 := PostV.lstP (.refl e) (rep_ints (k := k) (H := H) (B := bn fo R) (PL.cutL l lo hi)) hp
    rw [List.map_map] at h0
    exact q _ _ h0
  · rename_i xs
    split at h
    · rename_i l hl
      cases h
      obtain ⟨a, vs, ex, sq, t⟩ := lstV_rep (m := .l xs) hl r
      exact .inl ⟨a, vs, ex, SqL.of sq, fun p hp => q _ _ (.lstP (.refl e) (t.cut lo hi) hp)⟩
    · cases h
/-- a slice's part and its tree -/
inductive PartOk (X : Cx) (k : Kx) (W : WX) (C : PL.Ctx) : Option Expr → IE → Prop where
  | no : PartOk X k W C none (.con .non)
  | so {e : Expr} {ie : IE} (h : PE X e (tE k W C ie)) (n : PL.nonE ie = false) : PartOk X k W C (some e) ie
def tI (k : Kx) (W : WX) (C : PL.Ctx) (ie : IE) : TO := fun σ H Q => ∃ env fo R, EnvOk k R H env σ fo ∧ Outc k W R σ H (Own fo) (fun v env' => ∃ o, PL.optI (PL.nonE ie) v = some o ∧ ∀ H', (∃ fo' R', At k R σ H (Own fo) env' fo' R' H') → Q o H') (PL.ev C ie env)
theorem po_part {o : Option Expr} (p : PartOk X k W C o ie) : PO X o (tI k W C ie) := by
  cases p with
  | no => exact ⟨fun pins s σ H Q I ⟨env, fo, R, ok, oc⟩ => by
      unfold PL.ev at oc
      obtain ⟨o, h1, h2⟩ := oc
      cases h1
      exact po_none.run pins s σ H Q I (h2 H ⟨fo, R, .refl ok⟩)⟩
  | so h n => exact ⟨fun pins s σ H Q I ⟨env, fo, R, ok, oc⟩ => (po_some h).run pins s σ H Q I ⟨env, fo, R, ok, oc.imp fun v e' ⟨o, h1, h2⟩ x H' p => by
      obtain ⟨fo1, R1, O1, a1, r1, t1⟩ := p
      rw [n] at h1
      unfold PL.optI at h1
      split at h1 <;> try contradiction
      · cases h1
        exact ⟨_, r1.1, h2 H' ⟨fo1, R1, a1⟩⟩⟩⟩
theorem ev_slc {lo hi : Option Expr} {il ih : IE} (hK : X.K = k.K) (ha : PE X a (tO k W C ia)) (hl : PartOk X k W C lo il) (hh : PartOk X k W C hi ih) : PE X (.Subscript a (.Slice lo hi none p2) pos) (tE k W C (.slc ia il ih)) :=
  imE (pe_slice sl_all ha (po_part hl) (po_part hh)) fun σ H Q ⟨env, fo, R, ok, o⟩ => by
    unfold PL.ev at o
    refine ⟨env, fo, R, ok, o.bind.imp fun o1 e1 q1 x H1 p1 => ?_⟩
    obtain ⟨fo1, R1, O1, a1, r1, t1⟩ := p1
    refine ⟨e1, fo1, R1, a1.ok, (q1.bind.step a1 fun _ _ z => z).imp fun vl e2 q2 => ?_⟩
    cases hl1 : PL.optI (PL.nonE il) vl with
    | none => rw [hl1] at q2; exact q2.elim
    | some lo' =>
      rw [hl1] at q2
      refine ⟨lo', rfl, fun H2 ⟨fo2, R2, a2⟩ => ?_⟩
      have q2 := Outc.bind q2
      refine ⟨e2, fo2, R2, a2.ok, (q2.step (a1.step a2) fun _ _ z => z).imp fun vh e3 q3 => ?_⟩
      cases hg : o1.get e3 with
      | none => rw [hg] at q3; exact q3.elim
      | some u => cases hl2 : PL.optI (PL.nonE ih) vh with
        | none => rw [hg, hl2] at q3; exact q3.elim
        | some hi' =>
          rw [hg, hl2] at q3
          refine ⟨hi', rfl, fun H3 ⟨fo3, R3, a3⟩ => ?_⟩
          obtain ⟨v, hv, q⟩ := Outc.opt q3
          have a23 := a2.step a3
          have r1' := r1.on a1.ok a23 fun a h => (t1.mem a h).1
          obtain ⟨O', r'⟩ := r1'.look a3.ok hg
          rw [hK]
          exact sl_rep a3.ok hv r' fun z H' p => q z H' ((p.step a23).step a1)
end
end LB

end
section
set_option Elab.async false
set_option linter.all false
set_option maxRecDepth 100000
set_option maxHeartbeats 1000000
/-! Layer B, a: pure indices, items of items. -/
namespace LB
open PySem PySem.Spec PyProof.Rows L2
open PL (PV MV Txt IE IEs IT II IS ISs)
/-- an expression that changes nothing, if it is an int -/
def pureE : IE → Bool
  | .con _ => true
  | .var _ => true
  | .bin _ a b => pureE a && pureE b
  | .ix (.var _) (.con (.int _)) => true
  | _ => false
theorem binF_int {o : PL.BOp} {u v : MV} {n : Int} (h : PL.binF o u v = some (.p (.int n))) : ∃ a b, u = .p (.int a) ∧ v = .p (.int b) := by
  unfold PL.binF at h
  split at h <;> first | exact ⟨_, _, rfl, rfl⟩ | (cases h; done) | (split at h <;> first | (cases h; done) | (split at h <;> (cases h; done)))
section
variable {X : Cx} {k : Kx} {W : WX} {C : PL.Ctx} {R R' : Addr → Prop} {σ : L2.St} {H H' : Hp} {own B : Addr → Prop} {env env' : PL.Env} {fo : Nat → List Addr}
variable {e a b c : Expr} {es : List Expr} {ie ia ib ic : IE} {ies : IEs} {pos p2 : Pos} {t u : IT}
theorem bind_ok {α β : Type} {r : PL.Res α} {f : α → PL.Env → PL.Res β} {v : β} {ε : PL.Env} (h : r.bind f = .ok v ε) : ∃ a e, r = .ok a e ∧ f a e = .ok v ε := by
  cases r with
  | ok a e => exact ⟨a, e, rfl, h⟩
  | ex _ _ => cases h
  | bad => cases h
theorem ev_bin_ok {o : PL.BOp} {v : MV} {ε : PL.Env} (h : PL.ev C (.bin o ia ib) env = .ok v ε) : ∃ o1 e1 o2 u w, PL.opd C ia env = .ok o1 e1 ∧ PL.opd C ib e1 = .ok o2 ε ∧ o1.get ε = some u ∧ o2.get ε = some w ∧ PL.binF o u w = some v := by
  unfold PL.ev at h
  obtain ⟨o1, e1, h1, h⟩ := bind_ok h
  obtain ⟨o2, e2, h2, h⟩ := bind_ok h
  cases h3 : o1.get e2 with
  | none => rw [h3] at h; cases h
  | some u => cases h4 : o2.get e2 with
    | none => rw [h3, h4] at h; cases h
    | some w =>
      rw [h3, h4] at h
      change PL.Res.opt (PL.binF o u w) e2 = _ at h
      cases h5 : PL.binF o u w with
      | none => rw [h5] at h; cases h
      | some z =>
        rw [h5] at h
        cases h
        exact ⟨o1, e1, o2, u, w, h1, h2, h3, h4, h5⟩
theorem readV_int {i : Nat} {n : Int} {ε : PL.Env} (h : PL.readV env i = .ok (.p (.int n)) ε) : ε = env ∧ env.at i = some (.p (.int n)) := by
  unfold PL.readV at h
  cases q : env.at i with
  | none => rw [q] at h; cases h
  | some m =>
    rw [q] at h
    cases m with
    | p w => cases h; exact ⟨rfl, rfl⟩
    | l xs => cases h
    | d t ks vs => cases h
theorem ixFrz_int {o : PL.Opd} {m κ : MV} {n : Int} {ε : PL.Env} (h : PL.ixF m κ = some (.p (.int n))) : PL.ixFrz ε o m κ = ε := by
  unfold PL.ixF at h
  split at h <;> first | (cases o <;> rfl) | (cases h; done) | skip
  rename_i xs i
  split at h
  · rename_i j hj
    cases hc : xs[j]? with
    | none => rw [hc] at h; cases h
    | some mz =>
      rw [hc] at h
      cases mz with
      | p w => cases o <;> simp [PL.ixFrz, hj, hc]
      | l ys => cases h
      | d t ks vs => cases h
  · cases h
theorem opd_var {i : Nat} {o : PL.Opd} {ε : PL.Env} (h : PL.opd C (.var i) env = .ok o ε) : o = .sl i ∧ ε = env ∧ ∃ m, env.at i = some m := by
  unfold PL.opd at h
  cases q : env.at i with
  | none => rw [q] at h; cases h
  | some m => rw [q] at h; cases h; exact ⟨rfl, rfl, m, rfl⟩
/-- an operand, by its value -/
theorem opd_val {o : PL.Opd} {ε : PL.Env} {n : Int} {ε' : PL.Env} (h : PL.opd C ie env = .ok o ε) (g : o.get ε' = some (.p (.int n))) (hs : ε' = ε ∨ noVar ie = true) : PL.ev C ie env = .ok (.p (.int n)) ε := by
  by_cases nv : noVar ie = true
  · rw [opd_eq nv] at h
    obtain ⟨v, e1, h1, h2⟩ := bind_ok h
    cases h2
    cases g
    exact h1
  · cases ie with
    | var i =>
      obtain ⟨rfl, rfl, m, hm⟩ := opd_var h
      rcases hs with hs | hs
      · subst hs
        have g' : PL.Env.at ε' i = some (.p (.int n)) := g
        unfold PL.ev PL.readV
        rw [g']
      · cases hs
    | _ => exact absurd rfl nv
theorem ev_ix_ok {i : Nat} {c : Int} {v : MV} {ε : PL.Env} (h : PL.ev C (.ix (.var i) (.con (.int c))) env = .ok v ε) : ∃ m, env.at i = some m ∧ PL.ixF m (.p (.int c)) = some v ∧ ε = PL.ixFrz env (.sl i) m (.p (.int c)) := by
  unfold PL.ev at h
  obtain ⟨o1, e1, h1, h2⟩ := bind_ok h
  clear h
  obtain ⟨rfl, rfl, m, hm⟩ := opd_var h1
  have h0 : PL.ev C (.con (.int c)) e1 = .ok (.p (.int c)) e1 := by unfold PL.ev; rfl
  rw [h0] at h2
  have h := h2
  change (match PL.Opd.get e1 (.sl i) with | some u => _ | none => _) = _ at h
  have hg : PL.Opd.get e1 (.sl i) = some m := hm
  rw [hg] at h
  change (match PL.ixF m (.p (.int c)) with | some v => PL.Res.ok v (PL.ixFrz e1 (.sl i) m (.p (.int c))) | none => PL.Res.bad) = _ at h
  cases h3 : PL.ixF m (.p (.int c)) with
  | none => rw [h3] at h; cases h
  | some z => rw [h3] at h; cases h; exact ⟨m, hm, h3, rfl⟩
theorem pure_env : ∀ {ie : IE} {env ε : PL.Env} {n : Int}, pureE ie = true → PL.ev C ie env = .ok (.p (.int n)) ε → ε = env
  | .con v, env, ε, n, _, h => by unfold PL.ev at h; cases h; rfl
  | .var i, env, ε, n, _, h => by unfold PL.ev at h; exact (readV_int h).1
  | .bin o a b, env, ε, n, p, h => by
    have p : (pureE a && pureE b) = true := p
    rw [Bool.and_eq_true] at p
    obtain ⟨o1, e1, o2, u, w, h1, h2, h3, h4, h5⟩ := ev_bin_ok h
    obtain ⟨x, y, rfl, rfl⟩ := binF_int h5
    have q2 : ε = e1 := by
      by_cases nv : noVar b = true
      · exact pure_env p.2 (opd_val h2 h4 (.inr nv))
      · cases b with
        | var i => exact (opd_var h2).2.1
        | _ => exact absurd rfl nv
    subst q2
    by_cases nv : noVar a = true
    · exact pure_env p.1 (opd_val h1 h3 (.inr nv))
    · cases a with
      | var i => exact (opd_var h1).2.1
      | _ => exact absurd rfl nv
  | .ix (.var i) (.con (.int c)), env, ε, n, _, h => by
    obtain ⟨m, h1, h2, h3⟩ := ev_ix_ok h
    rw [h3]
    exact ixFrz_int h2
theorem pure_noex : ∀ {ie : IE} {env ε : PL.Env} {e : PV}, pureE ie = true → PL.ev C ie env = .ex e ε → False
  | .con v, env, ε, e, _, h => by unfold PL.ev at h; cases h
  | .var i, env, ε, e, _, h => by
    unfold PL.ev PL.readV at h
    split at h <;> cases h
  | .bin o a b, env, ε, e, p, h => by
    have p : (pureE a && pureE b) = true := p
    rw [Bool.and_eq_true] at p
    have key : ∀ (x : IE), (∀ {env ε : PL.Env} {e : PV}, PL.ev C x env = .ex e ε → False) → ∀ {env ε : PL.Env} {e : PV}, PL.opd C x env = .ex e ε → False := fun x hx env ε e hh => by
      by_cases nv : noVar x = true
      · rw [opd_eq nv] at hh
        cases q : PL.ev C x env with
        | ok v e1 => rw [q] at hh; cases hh
        | ex v e1 => exact hx q
        | bad => rw [q] at hh; cases hh
      · cases x with
        | var i =>
          unfold PL.opd at hh
          split at hh <;> cases hh
        | _ => exact absurd rfl nv
    unfold PL.ev at h
    cases h1 : PL.opd C a env with
    | ex v e1 => exact key a (fun {env ε e} => pure_noex p.1) h1
    | bad => rw [h1] at h; cases h
    | ok o1 e1 =>
      rw [h1] at h
      change (PL.Res.bind (PL.opd C b e1) _) = _ at h
      cases h2 : PL.opd C b e1 with
      | ex v e2 => exact key b (fun {env ε e} => pure_noex p.2) h2
      | bad => rw [h2] at h; cases h
      | ok o2 e2 =>
        rw [h2] at h
        dsimp only [PL.Res.bind] at h
        split at h
        · unfold PL.Res.opt at h
          split at h <;> cases h
        · cases h
  | .ix (.var i) (.con (.int c)), env, ε, e, _, h => by
    unfold PL.ev at h
    cases h1 : PL.opd C (.var i) env with
    | ex v e1 =>
      unfold PL.opd at h1
      split at h1 <;> cases h1
    | bad => rw [h1] at h; cases h
    | ok o1 e1 =>
      rw [h1] at h
      have h0 : PL.ev C (.con (.int c)) e1 = .ok (.p (.int c)) e1 := by unfold PL.ev; rfl
      change (PL.Res.bind (PL.ev C (.con (.int c)) e1) _) = _ at h
      rw [h0] at h
      dsimp only [PL.Res.bind] at h
      split at h
      · split at h <;> cases h
      · cases h
def tPI (k : Kx) (C : PL.Ctx) (ie : IE) : TE := fun σ H Q => ∃ env fo R n ε, EnvOk k R H env σ fo ∧ PL.ev C ie env = .ok (.p (.int n)) ε ∧ Q (.int n) H
theorem pi_con {i : Int} {j} : PE X (.Constant (.int i) j pos) (tPI k C (.con (.int i))) := imE pe_int fun σ H Q ⟨env, fo, R, n, ε, ok, h, q⟩ => by
  unfold PL.ev at h
  cases h
  exact q
theorem pi_var {i : Nat} {x : Str} (hN : X.N[i]? = some x) (hv : Vis X.env.scope x) (hd : (x == ("__debug__" : Str)) = false) (hcd : (x == ("__classdict__" : Str)) = false) : PE X (.Name x pos) (tPI k C (.var i)) :=
  imE (pe_var hN hv hd hcd) fun σ H Q ⟨env, fo, R, n, ε, ok, h, q⟩ => by
    unfold PL.ev at h
    obtain ⟨_, h2⟩ := readV_int h
    obtain ⟨x, h1, r⟩ := ok.rep i _ h2
    have e : x = V.int n := r.1
    subst e
    exact ⟨_, h1, q⟩
/-- an operator on two ints, an int: the heap stands -/
def PuS (o : PL.BOp) (r : R2) : Prop := ∀ (x y n : Int) (H : Hp) (Q : VK), PL.binF o (.p (.int x)) (.p (.int y)) = some (.p (.int n)) → Q (.int n) H → r (.int x) (.int y) H Q
theorem pus_add {K : PySem.W.Frag} : PuS .add (rAddK K) := fun x y n H Q h q => .inl ⟨x, y, rfl, rfl, by cases h; exact q⟩
theorem pus_sub : PuS .sub (rI0 fun i j => .int (i - j)) := fun x y n H Q h q => ⟨x, y, rfl, rfl, by cases h; exact q⟩
theorem pi_bin {o : PL.BOp} {op : Operator} {r : R2} (hs : PuS o r) (hop : OpR X (binaryOp op) r) (pa : pureE ia = true) (pb : pureE ib = true) (ha : PE X a (tPI k C ia)) (hb : PE X b (tPI k C ib)) : PE X (.BinOp a op b pos) (tPI k C (.bin o ia ib)) :=
  imE (pe_op hop ha hb) fun σ H Q ⟨env, fo, R, n, ε, ok, h, q⟩ => by
    have e0 := pure_env (C := C) (ie := .bin o ia ib) (by show (pureE ia && pureE ib) = true; rw [pa, pb]; rfl) h
    subst e0
    obtain ⟨o1, e1, o2, u, w, h1, h2, h3, h4, h5⟩ := ev_bin_ok h
    obtain ⟨x, y, rfl, rfl⟩ := binF_int h5
    have e1' : e1 = ε := by
      by_cases nv : noVar ia = true
      · exact pure_env pa (opd_val h1 h3 (.inr nv))
      · cases ia with
        | var i => exact (opd_var h1).2.1
        | _ => exact absurd rfl nv
    subst e1'
    exact ⟨e1, fo, R, x, e1, ok, opd_val h1 h3 (.inl rfl), e1, fo, R, y, e1, ok, opd_val h2 h4 (.inl rfl), hs x y n H Q h5 q⟩
theorem pi_ix {i : Nat} {c : Int} {x : Str} {p1 p3 : Pos} {j} (hu : X.A.units + 1 < cLine) (hK : X.K = k.K) (hN : X.N[i]? = some x) (hv : Vis X.env.scope x) (hd : (x == ("__debug__" : Str)) = false) (hcd : (x == ("__classdict__" : Str)) = false) :
    PE X (.Subscript (.Name x p1) (.Constant (.int c) j p3) pos) (tPI k C (.ix (.var i) (.con (.int c)))) := imE (pe_ix (ix_all hu) (pe_var hN hv hd hcd) pe_int (plainIx_ok rfl)) fun σ H Q ⟨env, fo, R, n, ε, ok, h, q⟩ => by
  obtain ⟨m, h1, h2, h3⟩ := ev_ix_ok h
  obtain ⟨y, g1, r⟩ := ok.rep i m h1
  refine ⟨y, g1, ?_⟩
  rw [hK]
  obtain ⟨z, qz, hz⟩ := ix_rep h2 r (⟨rfl, rfl⟩ : RepM k H (bn fo R) (.p (.int c)) (V.int c) [])
  refine qz Q ?_
  rcases hz with ⟨w, ev, rw', _⟩ | ⟨xs, j, mz, al, vs1, vs2, P1, Pj, P3, em, hc, ev, _, _, _, _, rz, _⟩
  · cases ev
    have e : z = V.int n := rw'
    rw [e]; exact q
  · subst em
    cases mz with
    | p w =>
      cases ev
      have e : z = V.int n := rz.1
      rw [e]; exact q
    | l ys => cases ev
    | d t ks vs => cases ev
theorem ix_pair {m : MV} {j : Int} {r : PV} {z : V} {O : List Addr} {Q : VK} (h : PL.ixF m (.p (.int j)) = some (.p r)) (rm : RepM k H B m z O) (no : PL.ixO m (.p (.int j)) = true) (q : ∀ z2, RepP k H B r z2 → Q z2 H) : rIxK k.K z (.int j) H Q := by
  obtain ⟨z2, qz, hz⟩ := ix_rep h rm (⟨rfl, rfl⟩ : RepM k H B (.p (.int j)) (V.int j) [])
  refine qz Q ?_
  rcases hz with ⟨w, ev, rw', _⟩ | ⟨_, _, _, _, _, _, _, _, _, _, _, _, _, _, _, _, _, _, _, _, f⟩
  · cases ev
    exact q z2 rw'
  · rw [no] at f; cases f
/-- v[i][j] -/
theorem ev_ix2 {v : Nat} {x : Str} {p1 p3 : Pos} (hu : X.A.units + 1 < cLine) (hK : X.K = k.K) (hN : X.N[v]? = some x) (hv : Vis X.env.scope x) (hd : (x == ("__debug__" : Str)) = false) (hcd : (x == ("__classdict__" : Str)) = false)
    (ha : PE X a (tE k W C ia)) (hb : PE X b (tPI k C ib)) (pb : pureE ib = true) (sa : plainIx a = true) (sb : plainIx b = true) : PE X (.Subscript (.Subscript (.Name x p1) a p3) b pos) (tE k W C (.ix2 v ia ib)) :=
  imE (pe_ix (ix_all hu) (pe_ix (ix_all hu) (pe_var hN hv hd hcd) ha (plainIx_ok sa)) hb (plainIx_ok sb)) fun σ H Q ⟨env, fo, R, ok, o⟩ => by
    rw [hK]
    unfold PL.ev at o
    cases hm0 : env.at v with
    | none => rw [hm0] at o; exact o.elim
    | some m0 =>
      rw [hm0] at o
      obtain ⟨x0, g0, _⟩ := ok.rep v m0 hm0
      refine ⟨x0, g0, env, fo, R, ok, (Outc.bind o).imp fun κ e1 q1 y H1 p1 => ?_⟩
      obtain ⟨fo1, R1, O1, a1, r1, t1⟩ := p1
      cases hj : PL.ev C ib e1 with
      | ex e2 ε => exact (pure_noex pb hj).elim
      | bad => rw [hj] at q1; exact q1.elim
      | ok w2 e2 =>
        rw [hj] at q1
        change Outc _ _ _ _ _ _ _ (match e2.at v, κ, w2 with | some (.l xs), .p (.int i), .p (.int j) => _ | some (.p u), a, .p (.int j) => _ | _, _, _ => _) at q1
        split at q1
        · rename_i xs i j hl
          have ee := pure_env pb hj
          subst ee
          obtain ⟨x', g', r'⟩ := a1.ok.rep v _ hl
          rw [g0] at g'
          cases g'
          obtain ⟨a, vs, O', ex, sq, t, eo⟩ := r'
          split at q1
          · rename_i n hn
            split at q1
            · rename_i mm hmm
              obtain ⟨vs1, z, vs2, P1, Pj, P3, e1', e2', e3', t1', rz, t2'⟩ := t.split hmm
              have hat : atI vs i = some z := atI_of t.len hn (by rw [e1', ← e2']; simp)
              refine .inr (.inl ⟨a, vs, i, z, ex, r1.1, SqL.of sq, hat, ?_⟩)
              refine ⟨e2, fo1, R1, j, e2, a1.ok, hj, ?_⟩
              split at q1
              · rename_i hno
                split at q1
                · rename_i r hr
                  exact ix_pair hr rz hno fun z2 rw' => q1 z2 H1 (.pure a1 rw')
                · exact q1.elim
              · exact q1.elim
            · exact q1.elim
          · exact q1.elim
        · rename_i u κ' j hl
          have ee := pure_env pb hj
          subst ee
          obtain ⟨x', g', r'⟩ := a1.ok.rep v _ hl
          rw [g0] at g'
          cases g'
          split at q1
          · rename_i mm hmm
            obtain ⟨z, qz, hz⟩ := ix_rep hmm r' r1
            refine qz _ ?_
            refine ⟨e2, fo1, R1, j, e2, a1.ok, hj, ?_⟩
            split at q1
            · rename_i r hr
              rcases hz with ⟨w, ev, rw', _⟩ | ⟨_, _, _, _, _, _, _, _, _, em, _⟩
              · subst ev
                exact ix_pair hr (⟨rw', rfl⟩ : RepM k H1 (bn fo1 R1) (.p w) z []) (by cases w <;> rfl) fun z2 rw' => q1 z2 H1 (.pure a1 rw')
              · cases em
            · exact q1.elim
          · exact q1.elim
        · exact q1.elim
end
end LB

end
section
set_option Elab.async false
set_option linter.all false
set_option maxRecDepth 100000
set_option maxHeartbeats 1000000
/-! Layer B, b: the built-in functions, isinstance. -/
namespace LB
open PySem PySem.Spec PyProof.Rows L2
open PL (PV MV Txt IE IEs IT II IS ISs)
/-- the values of arguments -/
def Args (k : Kx) (H : Hp) (B : Addr → Prop) : List MV → List V → Prop := Paired fun v x => ∃ O, RepM k H B v x O
def BlS (k : Kx) (b : PL.Blt) (r : List V → Hp → VK → Prop) : Prop := ∀ (R : Addr → Prop) (σ : L2.St) (H : Hp) (env : PL.Env) (fo : Nat → List Addr), EnvOk k R H env σ fo → ∀ (vs : List MV) (xs : List V) (w : MV) (Q : VK),
  Args k H (bn fo R) vs xs → PL.bltF b vs = some w → (∀ z H', PostV k R σ H (Own fo) env w z H' → Q z H') → r xs H Q
section
variable {X : Cx} {k : Kx} {W : WX} {C : PL.Ctx} {R R' : Addr → Prop} {σ : L2.St} {H H' : Hp} {own B : Addr → Prop} {env env' : PL.Env} {fo : Nat → List Addr}
variable {e a b c : Expr} {es : List Expr} {ie ia ib ic : IE} {ies : IEs} {pos p2 : Pos} {t u : IT}
theorem Args.one {v : MV} {xs : List V} (h : Args k H B [v] xs) : ∃ x O, xs = [x] ∧ RepM k H B v x O := by
  cases h with
  | cons r t =>
    cases t
    obtain ⟨O, r⟩ := r
    exact ⟨_, O, rfl, r⟩
theorem Args.two {v w : MV} {xs : List V} (h : Args k H B [v, w] xs) : ∃ x y O P, xs = [x, y] ∧ RepM k H B v x O ∧ RepM k H B w y P := by
  cases h with
  | cons r t =>
    obtain ⟨O, r⟩ := r
    obtain ⟨y, P, e, r2⟩ := Args.one t
    subst e
    exact ⟨_, y, O, P, rfl, r, r2⟩
theorem bls_abs : BlS k .abs (fun xs H Q => ∃ i, xs = [.int i] ∧ Q (.int (if i < 0 then -i else i)) H) := by
  intro R σ H env fo e vs xs w Q r h q
  unfold PL.bltF at h
  split at h <;> try contradiction
  rename_i hb
  cases h
  obtain ⟨x, O, e0, r1⟩ := r.one
  subst e0
  have ex : x = _ := r1.1
  subst ex
  exact ⟨_, rfl, q _ _ (e.plain rfl)⟩
theorem bls_min2 : BlS k .min2 (fun xs H Q => ∃ i j, xs = [.int i, .int j] ∧ Q (.int (if j < i then j else i)) H) := by
  intro R σ H env fo e vs xs w Q r h q
  unfold PL.bltF at h
  split at h <;> try contradiction
  rename_i hb
  cases h
  obtain ⟨x, y, O, P, rfl, r1, r2⟩ := r.two
  have ex : x = _ := r1.1
  have ey : y = _ := r2.1
  subst ex ey
  exact ⟨_, _, rfl, q _ _ (e.plain rfl)⟩
theorem bls_max2 : BlS k .max2 (fun xs H Q => ∃ i j, xs = [.int i, .int j] ∧ Q (.int (if j > i then j else i)) H) := by
  intro R σ H env fo e vs xs w Q r h q
  unfold PL.bltF at h
  split at h <;> try contradiction
  rename_i hb
  cases h
  obtain ⟨x, y, O, P, rfl, r1, r2⟩ := r.two
  have ex : x = _ := r1.1
  have ey : y = _ := r2.1
  subst ex ey
  exact ⟨_, _, rfl, q _ _ (e.plain rfl)⟩
theorem bls_gcd : BlS k .gcd rGcd := by
  intro R σ H env fo e vs xs w Q r h q
  unfold PL.bltF at h
  split at h <;> try contradiction
  rename_i hb
  cases h
  obtain ⟨x, y, O, P, rfl, r1, r2⟩ := r.two
  have ex : x = _ := r1.1
  have ey : y = _ := r2.1
  subst ex ey
  exact ⟨_, _, rfl, q _ _ (e.plain rfl)⟩
def rIntK : List V → Hp → VK → Prop := fun xs H Q => ((∃ i, xs = [.int i] ∧ Q (.int i) H) ∨ ∃ k, xs = [.bl k] ∧ Q (.int (if k then 1 else 0)) H) ∨ ∃ a n, xs = [.str a] ∧ PySem.intText? a = some n ∧ a.length ≤ 640 ∧ Q (.int n) H
theorem call_intK : CallR X (.type "int") rIntK := call_int1.or call_int_str
theorem val_eq (s : Txt) : NumText.digitsVal s = PL.valT s := rfl
theorem bls_int1 : BlS k .int1 rIntK := by
  intro R σ H env fo e vs xs w Q r h q
  unfold PL.bltF at h
  split at h <;> try contradiction
  · rename_i hb
    cases h
    obtain ⟨x, O, e0, r1⟩ := r.one
    subst e0
    have ex : x = _ := r1.1
    subst ex
    exact .inl (.inl ⟨_, rfl, q _ _ (e.plain rfl)⟩)
  · rename_i hb
    cases h
    obtain ⟨x, O, e0, r1⟩ := r.one
    subst e0
    have ex : x = _ := r1.1
    subst ex
    refine .inl (.inr ⟨_, rfl, q _ _ (e.plain rfl)⟩)
  · rename_i s _
    split at h
    · rename_i hs
      cases h
      obtain ⟨x, O, e0, r1⟩ := r.one
      subst e0
      have ex : x = _ := r1.1
      subst ex
      simp only [Bool.and_eq_true, decide_eq_true_eq] at hs
      obtain ⟨⟨h1, h2⟩, h3⟩ := hs
      refine .inr ⟨strOf s, _, rfl, PySem.intText_digits (x := strOf s) ?_ ?_ (by rw [strOf_len]; omega), by rw [strOf_len]; exact h3, ?_⟩
      · intro c hc
        rw [strOf_cps] at hc
        have := List.all_eq_true.mp h1 c hc
        unfold PL.isDig at this
        simpa using this
      · rw [strOf_cps]
        cases s with
        | nil => simp at h2
        | cons _ _ => simp
      · rw [strOf_cps, val_eq]
        exact q _ _ (e.plain rfl)
    · cases h
def rStrK : List V → Hp → VK → Prop := fun xs H Q => (∃ i, xs = [.int i] ∧ i.natAbs.log2 < 1920 ∧ Q (.str (toString i)) H) ∨ ∃ a, xs = [.str a] ∧ Q (.str a) H
theorem call_strK : CallR X (.type "str") rStrK := call_str_int.or SkE.call_str_str
theorem str_int (i : Int) : (Str.ofString (toString i)) = strOf (PL.intTxt i) := by
  rw [Str.ofString_eq_toList]
  unfold strOf PL.intTxt PL.natTxt
  congr 2
  cases i with
  | ofNat n =>
    rw [if_neg (by simp)]
    show ((toString n : String).toList).map Char.toNat = (Nat.toDigits 10 (Int.ofNat n).natAbs).map Char.toNat
    show ((Nat.repr n).toList).map Char.toNat = _
    unfold Nat.repr
    rw [String.toList_ofList]
    rfl
  | negSucc n =>
    rw [if_pos (by omega)]
    show (("-" ++ Nat.repr (n + 1) : String).toList).map Char.toNat = 45 :: (Nat.toDigits 10 (Int.negSucc n).natAbs).map Char.toNat
    unfold Nat.repr
    rw [String.toList_append, List.map_append]
    have e2 : (String.ofList (Nat.toDigits 10 (n + 1))).toList = Nat.toDigits 10 (n + 1) := String.toList_ofList
    rw [e2]
    rfl
theorem bls_str1 : BlS k .str1 rStrK := by
  intro R σ H env fo e vs xs w Q r h q
  unfold PL.bltF at h
  split at h <;> try contradiction
  · split at h
    · rename_i hs
      cases h
      obtain ⟨x, O, e0, r1⟩ := r.one
      subst e0
      have ex : x = _ := r1.1
      subst ex
      refine .inl ⟨_, rfl, hs, ?_⟩
      rw [str_int]
      exact q _ _ (e.plain rfl)
    · cases h
  · cases h
    obtain ⟨x, O, e0, r1⟩ := r.one
    subst e0
    have ex : x = _ := r1.1
    subst ex
    exact .inr ⟨_, rfl, q _ _ (e.plain rfl)⟩
def rTupleK (K : PySem.W.Frag) : List V → Hp → VK → Prop := fun xs H Q => ∃ p ys, xs = [.ref p] ∧ ((SqL K H p ys ∧ ∀ l, H l = none → Q (.ref l) (upd H l (.tup ys))) ∨ (SqT K H p ys ∧ Q (.ref p) H))
theorem bls_tuple1 : BlS k .tuple1 (rTupleK k.K) := by
  intro R σ H env fo e vs xs w Q r h q
  unfold PL.bltF at h
  split at h <;> try contradiction
  · cases h
    obtain ⟨x, O, e0, r1⟩ := r.one
    subst e0
    obtain ⟨a, ys, ex, sq, q2, t⟩ := r1.1
    subst ex
    exact ⟨a, ys, rfl, .inr ⟨sq, q _ _ (e.plain ⟨a, ys, rfl, sq, q2, t⟩)⟩⟩
  · split at h
    · rename_i l hl
      cases h
      obtain ⟨x, O, e0, r1⟩ := r.one
      subst e0
      obtain ⟨a, ys, ex, sq, t⟩ := lstV_rep hl r1
      subst ex
      exact ⟨a, ys, rfl, .inl ⟨SqL.of sq, fun p hp => q _ _ (.tup (.refl e) t hp)⟩⟩
    · cases h
theorem bls_list1 : BlS k .list1 (fun xs H Q => ∃ p ys, xs = [.ref p] ∧ (SqL k.K H p ys ∨ SqT k.K H p ys) ∧ ∀ l, H l = none → Q (.ref l) (upd H l (.lst ys))) := by
  intro R σ H env fo e vs xs w Q r h q
  unfold PL.bltF at h
  split at h <;> try contradiction
  split at h
  · rename_i l hl
    cases h
    obtain ⟨x, O, e0, r1⟩ := r.one
    subst e0
    obtain ⟨a, ys, ex, sq, t⟩ := seqV_rep hl r1
    subst ex
    exact ⟨a, ys, rfl, sq, fun p hp => q _ _ (.lstP (.refl e) t hp)⟩
  · cases h
def rSumT (K : PySem.W.Frag) : List V → Hp → VK → Prop := fun vs H Q => ∃ (a : Addr) (ns : List Int), vs = [V.ref a] ∧ SqT K H a (ns.map V.int) ∧ Q (.int ns.sum) H
theorem cr_sumT (hc : X.calm = true) : CallR X (.builtin "sum") (rSumT X.K) := by
  intro pins s σ H vs us Q I r h
  obtain ⟨a, ns, rfl, hs, q⟩ := h
  obtain ⟨its, rv, hl, _⟩ := I.tuple hs
  rw [Vals.ref1 r]
  have hi := rv.ints
  have hl' : s.heap.IsTuple a its.toArray := hl
  obtain ⟨xs, hx⟩ := hi.allInts.items
  have hn : PySem.numsOf its.toArray.toList = ns := by rw [show its.toArray.toList = its from rfl, hi.numsOf]
  rw [hx] at hl' hn
  rw [PySem.nums_intItems] at hn
  refine PySem.W.ktm_sumG (I.ok.hd hc) hl' fun h' tk t' hk => ?_
  rw [PySem.preSum_eq, List.take_of_length_le (by simp), hn]
  exact ⟨.int _, H, I.kept hk, ⟨_, rfl⟩, q⟩
def rSumK (K : PySem.W.Frag) : List V → Hp → VK → Prop := fun vs H Q => rSum K vs H Q ∨ rSumT K vs H Q
theorem cr_sumK (hc : X.calm = true) : CallR X (.builtin "sum") (rSumK X.K) := (cr_sum hc).or (cr_sumT hc)
theorem bls_sum1 : BlS k .sum1 (rSumK k.K) := by
  intro R σ H env fo e vs xs w Q r h q
  unfold PL.bltF at h
  split at h <;> try contradiction
  split at h
  · rename_i l hl
    split at h
    · rename_i z hz
      cases h
      obtain ⟨x, O, e0, r1⟩ := r.one
      subst e0
      obtain ⟨a, ys, ex, sq, t⟩ := seqV_rep hl r1
      have ey := ints_rep hz t
      subst ex ey
      rcases sq with sq | sq
      · exact .inl ⟨a, z, rfl, sq, q _ _ (e.plain rfl)⟩
      · exact .inr ⟨a, z, rfl, sq, q _ _ (e.plain rfl)⟩
    · cases h
  · cases h
theorem bls_all1 : BlS k .all1 (rAll k.K) := by
  intro R σ H env fo e vs xs w Q r h q
  unfold PL.bltF at h
  split at h <;> try contradiction
  split at h
  · rename_i l hl
    split at h
    · rename_i z hz
      cases h
      obtain ⟨x, O, e0, r1⟩ := r.one
      subst e0
      obtain ⟨a, ys, ex, sq, t⟩ := lstV_rep hl r1
      have ey := bls_rep hz t
      subst ex ey
      exact ⟨a, z, rfl, SqL.of sq, q _ _ (e.plain rfl)⟩
    · cases h
  · cases h
theorem bls_any1 : BlS k .any1 (rAny k.K) := by
  intro R σ H env fo e vs xs w Q r h q
  unfold PL.bltF at h
  split at h <;> try contradiction
  split at h
  · rename_i l hl
    split at h
    · rename_i z hz
      cases h
      obtain ⟨x, O, e0, r1⟩ := r.one
      subst e0
      obtain ⟨a, ys, ex, sq, t⟩ := lstV_rep hl r1
      have ey := bls_rep hz t
      subst ex ey
      exact ⟨a, z, rfl, SqL.of sq, q _ _ (e.plain rfl)⟩
    · cases h
  · cases h
def rLenK (K : PySem.W.Frag) : List V → Hp → VK → Prop := fun xs H Q => (∃ x n, xs = [x] ∧ LenV K x H n ∧ Q (.int n) H) ∨ rLenT xs H Q ∨ ∃ (p : Addr) (kvs : List (Key × V)), xs = [.ref p] ∧ H p = some (.dK kvs) ∧ Q (.int ((kvs.length : Nat) : Int)) H
theorem call_len_dk : CallR X (.builtin "len") (fun xs H Q => ∃ (p : Addr) (kvs : List (Key × V)), xs = [.ref p] ∧ H p = some (.dK kvs) ∧ Q (.int ((kvs.length : Nat) : Int)) H) := by
  intro pins s σ H xs us Q I r h
  obtain ⟨p, kvs, rfl, hp, q⟩ := h
  obtain ⟨u, rfl, rx⟩ := vals1 r
  obtain rfl : u = .ref p := rx
  exact d_len I (.inl hp) fun t s' I' => ⟨.int _, H, I', ⟨_, rfl⟩, q⟩
theorem call_lenK : CallR X (.builtin "len") (rLenK X.K) := call_len.or (call_len_dT.or call_len_dk)
theorem dic_len {t : Bool} {a : Addr} {ks ws : List PV} {vs : List V} (d : DicAt t H a ks vs) {Q : VK} (q : Q (.int (ks.length : Nat)) H) : rLenK k.K [.ref a] H Q := by
  cases t with
  | false =>
    obtain ⟨kk, f1, f2, _, f3⟩ := d
    refine .inr (.inr ⟨a, _, rfl, f3, ?_⟩)
    have h1 := congrArg List.length f1
    rw [List.length_map, List.length_map] at h1
    rw [List.length_zip, ← f2, Nat.min_self, ← h1]; exact q
  | true =>
    obtain ⟨kk, f1, f2, _, f3⟩ := d
    refine .inr (.inl ⟨a, _, rfl, f3, ?_⟩)
    have h1 := congrArg List.length f1
    rw [List.length_map, List.length_map] at h1
    rw [List.length_zip, ← f2, Nat.min_self, ← h1]; exact q
theorem bls_len : BlS k .len (rLenK k.K) := by
  intro R σ H env fo e vs xs w Q r h q
  unfold PL.bltF at h
  split at h <;> try contradiction
  split at h
  · rename_i n hn
    cases h
    obtain ⟨x, O, e0, r1⟩ := r.one
    subst e0
    have q := q (.int (n : Int)) H (e.plain rfl)
    unfold PL.lenF at hn
    split at hn <;> try contradiction
    · split at hn
      · rename_i hl
        cases hn
        have ex : x = _ := r1.1
        subst ex
        exact .inl ⟨_, _, rfl, ⟨by rw [strOf_len, ← lim_eq]; exact hl, (strOf_len _).symm⟩, q⟩
      · cases hn
    · cases hn
      obtain ⟨a, ys, ex, sq, _, t⟩ := r1.1
      subst ex
      exact .inl ⟨_, _, rfl, .inr ⟨ys, sq, t.len⟩, q⟩
    · cases hn
      obtain ⟨a, ys, ex, sq, _, t⟩ := r1.1
      subst ex
      exact .inl ⟨_, _, rfl, .inl ⟨ys, SqL.of sq, t.len⟩, q⟩
    · cases hn
      obtain ⟨a, ys, ex, _, t, d⟩ := r1.1
      subst ex
      exact dic_len (ws := []) d q
    · cases hn
      obtain ⟨a, ys, O', ex, sq, t, _⟩ := r1
      subst ex
      exact .inl ⟨_, _, rfl, .inl ⟨ys, SqL.of sq, t.len⟩, q⟩
    · cases hn
      obtain ⟨a, ys, ex, t, _, d⟩ := r1
      subst ex
      exact dic_len (ws := []) d q
  · cases h
/-- f(e, ..), f a built-in function or type -/
theorem rd_blt {bl : PL.Blt} {r : List V → Hp → VK → Prop} (hs : BlS k bl r) {σ : L2.St} {H : Hp} {Q : VK} (h : tE k W C (.blt bl ies) σ H Q) : tCB r (tOs k W C ies) σ H Q := by
  obtain ⟨env, fo, R, ok, o⟩ := h
  unfold PL.ev at o
  refine ⟨env, fo, R, ok, o.bind.imp fun os e1 q1 xs H1 p1 => ?_⟩
  obtain ⟨fo1, R1, O1, a1, r1, t1⟩ := p1
  cases hg : PL.gets e1 os with
  | none => rw [hg] at q1; exact q1.elim
  | some vs =>
    rw [hg] at q1
    obtain ⟨v, hv, q⟩ := Outc.opt q1
    exact hs R1 σ H1 e1 fo1 a1.ok vs xs v Q (r1.look a1.ok hg) hv fun z H' p => q z H' (p.step a1)
end
end LB

end
section
set_option Elab.async false
set_option linter.all false
set_option maxRecDepth 100000
set_option maxHeartbeats 1000000
/-! Layer B, c: slots side by side: what is lent to a call, and comes back. -/
namespace LB
open PySem PySem.Spec PyProof.Rows L2
open PL (PV MV Txt IE IEs IT II IS ISs)
section
variable {k : Kx} {R R' : Addr → Prop} {σ τ : L2.St} {H H' : Hp} {own B : Addr → Prop} {env env' rs : PL.Env} {fo : Nat → List Addr}
theorem at_app_l {i : Nat} (h : i < env.length) : PL.Env.at (env ++ rs) i = env.at i := by
  unfold PL.Env.at
  rw [List.getElem?_append_left h]
theorem at_app_r {i : Nat} : PL.Env.at (env ++ rs) (env.length + i) = PL.Env.at rs i := by
  unfold PL.Env.at
  rw [List.getElem?_append_right (by omega)]
  congr 2
  omega
theorem at_out {i : Nat} (h : env.length ≤ i) : env.at i = none := by
  unfold PL.Env.at
  rw [List.getElem?_eq_none h]
/-- an empty slot more -/
theorem EnvOk.ext (e : EnvOk k R H env σ fo) (o : Option V) : EnvOk k R H (env ++ [none]) (σ ++ [o]) fo := by
  have key : ∀ i, PL.Env.at (env ++ [none]) i = env.at i := fun i => by
    by_cases h : i < env.length
    · exact at_app_l h
    · rw [at_out (by omega : env.length ≤ i)]
      by_cases g : i = env.length
      · subst g
        have := at_app_r (env := env) (rs := [none]) (i := 0)
        rw [Nat.add_zero] at this
        rw [this]; rfl
      · exact at_out (by rw [List.length_append, List.length_singleton]; omega)
  refine ⟨by rw [List.length_append, List.length_append, e.len]; rfl, fun i m q => ?_, fun i q => e.nil i (by rw [← key]; exact q), e.nd, e.dj, e.rs, e.al, e.gl⟩
  rw [key] at q
  obtain ⟨x, h1, r⟩ := e.rep i m q
  have hl := at_lt q
  exact ⟨x, by rw [List.getElem?_append_left (by rw [← e.len]; exact hl)]; exact h1, r⟩
/-- from slot p to slot q, which is empty -/
theorem EnvOk.mv (e : EnvOk k R H env σ fo) {p q : Nat} (hp : p < env.length) (hq : q < env.length) (hpq : p ≠ q) (hn : env.at q = none) (hs : σ[p]? = σ[q]?) : EnvOk k R H ((env.set p none).set q (env.at p)) σ (fset (fset fo p []) q (fo p)) := by
  have at' : ∀ i, PL.Env.at ((env.set p none).set q (env.at p)) i = if i = q then env.at p else if i = p then none else env.at i := fun i => by
    by_cases h1 : i = q
    · subst h1; rw [if_pos rfl, at_set (by rw [List.length_set]; exact hq)]
    · rw [if_neg h1, at_set_ne h1]
      by_cases h2 : i = p
      · subst h2; rw [if_pos rfl, at_set hp]
      · rw [if_neg h2, at_set_ne h2]
  have f' : ∀ i, fset (fset fo p []) q (fo p) i = if i = q then fo p else if i = p then [] else fo i := fun i => rfl
  have ow : ∀ a, bn (fset (fset fo p []) q (fo p)) R a → bn fo R a := fun a z => by
    rcases z with ⟨i, z⟩ | z
    · rw [f'] at z
      by_cases h1 : i = q
      · rw [if_pos h1] at z; exact .inl ⟨p, z⟩
      · rw [if_neg h1] at z
        by_cases h2 : i = p
        · rw [if_pos h2] at z; cases z
        · rw [if_neg h2] at z; exact .inl ⟨i, z⟩
    · exact .inr z
  refine ⟨by rw [List.length_set, List.length_set]; exact e.len, fun i m z => ?_, fun i z => ?_, fun i => ?_, fun i j a ha hb => ?_, fun i a ha => ?_, e.al, e.gl⟩
  · rw [at'] at z
    rw [f']
    by_cases h1 : i = q
    · rw [if_pos h1] at z
      obtain ⟨x, g1, r⟩ := e.rep p m z
      rw [if_pos h1, h1, ← hs]
      exact ⟨x, g1, r.ban ow⟩
    · rw [if_neg h1] at z
      by_cases h2 : i = p
      · rw [if_pos h2] at z; cases z
      · rw [if_neg h2] at z
        obtain ⟨x, g1, r⟩ := e.rep i m z
        rw [if_neg h1, if_neg h2]
        exact ⟨x, g1, r.ban ow⟩
  · rw [at'] at z
    rw [f']
    by_cases h1 : i = q
    · rw [if_pos h1] at z; rw [if_pos h1]; exact e.nil p z
    · rw [if_neg h1] at z; rw [if_neg h1]
      by_cases h2 : i = p
      · rw [if_pos h2]
      · rw [if_neg h2] at z; rw [if_neg h2]; exact e.nil i z
  · rw [f']
    split
    · exact e.nd p
    · split
      · exact List.nodup_nil
      · exact e.nd i
  · rw [f'] at ha hb
    have nq : ∀ c, c ∉ fo q := fun c hc => by rw [e.nil q hn] at hc; cases hc
    by_cases h1 : i = q
    · rw [if_pos h1] at ha
      by_cases h2 : j = q
      · rw [h1, h2]
      · rw [if_neg h2] at hb
        by_cases h3 : j = p
        · rw [if_pos h3] at hb; cases hb
        · rw [if_neg h3] at hb; exact absurd (e.dj p j a ha hb).symm h3
    · rw [if_neg h1] at ha
      by_cases h3 : i = p
      · rw [if_pos h3] at ha; cases ha
      · rw [if_neg h3] at ha
        by_cases h2 : j = q
        · rw [if_pos h2] at hb; exact absurd (e.dj i p a ha hb) h3
        · rw [if_neg h2] at hb
          by_cases h4 : j = p
          · rw [if_pos h4] at hb; cases hb
          · rw [if_neg h4] at hb; exact e.dj i j a ha hb
  · rw [f'] at ha
    by_cases h1 : i = q
    · rw [if_pos h1] at ha; exact e.rs p a ha
    · rw [if_neg h1] at ha
      by_cases h3 : i = p
      · rw [if_pos h3] at ha; cases ha
      · rw [if_neg h3] at ha; exact e.rs i a ha
theorem own_mv {p q : Nat} {a : Addr} (h : Own (fset (fset fo p []) q (fo p)) a) : Own fo a := by
  obtain ⟨i, h⟩ := h
  unfold fset at h
  split at h
  · exact ⟨p, h⟩
  · split at h
    · cases h
    · exact ⟨i, h⟩
/-- a temp of ours comes into an empty slot -/
theorem EnvOk.give (e : EnvOk k R H env σ fo) {q : Nat} {m : MV} {x : V} {O : List Addr} (hq : q < env.length) (hn : env.at q = none) (hx : σ[q]? = some (some x)) (r : RepM k H (bn fo R) m x O) (nd : O.Nodup) (hO : ∀ a ∈ O, R a) :
    EnvOk k (fun a => R a ∧ a ∉ O) H (env.set q (some m)) σ (fset fo q O) := by
  have ow : ∀ a, bn (fset fo q O) (fun a => R a ∧ a ∉ O) a → bn fo R a := fun a z => by
    rcases z with ⟨i, z⟩ | z
    · by_cases hi : i = q
      · subst hi; rw [fset_same] at z; exact .inr (hO a z)
      · rw [fset_ne hi] at z; exact .inl ⟨i, z⟩
    · exact .inr z.1
  exact e.put (S := fun _ => False) hq rfl (fun _ _ => rfl) (stay_refl fun _ => id) (fun a _ nb => ⟨id, fun z => nb (ow a z)⟩) (fun _ _ _ _ => id) (fun m' z => by cases z; exact ⟨x, hx, r.ban ow⟩) (fun z => by cases z) nd
    (fun j a _ ha hb => e.rs j a ha (hO a hb)) (fun a ha z => z.2 ha) (fun j a _ ha z => e.rs j a ha z.1) fun a z => e.al a z.1
theorem own_give {q : Nat} {O : List Addr} {a : Addr} (h : Own (fset fo q O) a) : Own fo a ∨ a ∈ O := by
  obtain ⟨i, h⟩ := h
  unfold fset at h
  split at h
  · exact .inr h
  · exact .inl ⟨i, h⟩
/-- the right part by itself: the left one's is others' -/
def leftO (n : Nat) (fo : Nat → List Addr) (a : Addr) : Prop := ∃ i, i < n ∧ a ∈ fo i
def shiftF (n : Nat) (fo : Nat → List Addr) : Nat → List Addr := fun i => fo (n + i)
theorem EnvOk.right (e : EnvOk k R H (env ++ rs) (σ ++ τ) fo) (hl : env.length = σ.length) : EnvOk k (fun a => R a ∨ leftO env.length fo a) H rs τ (shiftF env.length fo) := by
  have ow : ∀ a, bn (shiftF env.length fo) (fun a => R a ∨ leftO env.length fo a) a → bn fo R a := fun a z => by
    rcases z with ⟨i, z⟩ | z | ⟨i, _, z⟩
    · exact .inl ⟨_, z⟩
    · exact .inr z
    · exact .inl ⟨i, z⟩
  refine ⟨?_, fun i m q => ?_, fun i q => e.nil _ (by rw [at_app_r]; exact q), fun i => e.nd _, fun i j a ha hb => by have := e.dj _ _ a ha hb; omega, fun i a ha z => ?_, fun a z => ?_, e.gl⟩
  · have := e.len
    rw [List.length_append, List.length_append] at this
    omega
  · obtain ⟨x, h1, r⟩ := e.rep (env.length + i) m (by rw [at_app_r]; exact q)
    refine ⟨x, ?_, r.ban ow⟩
    rw [hl, List.getElem?_append_right (by omega)] at h1
    rw [← h1]; congr 1; omega
  · rcases z with z | ⟨j, hj, z⟩
    · exact e.rs _ a ha z
    · have := e.dj _ _ a ha z; omega
  · rcases z with z | ⟨j, hj, z⟩
    · exact e.al a z
    · exact e.alO ⟨j, z⟩
/-- the left part by itself -/
def cutF (n : Nat) (fo : Nat → List Addr) : Nat → List Addr := fun i => if i < n then fo i else []
theorem EnvOk.left (e : EnvOk k R H (env ++ rs) (σ ++ τ) fo) (hl : env.length = σ.length) : EnvOk k R H env σ (cutF env.length fo) := by
  have ow : ∀ a, bn (cutF env.length fo) R a → bn fo R a := fun a z => by
    rcases z with ⟨i, z⟩ | z
    · unfold cutF at z
      split at z
      · exact .inl ⟨i, z⟩
      · cases z
    · exact .inr z
  refine ⟨hl, fun i m q => ?_, fun i q => ?_, fun i => ?_, fun i j a ha hb => ?_, fun i a ha => ?_, e.al, e.gl⟩
  · have hi := at_lt q
    obtain ⟨x, h1, r⟩ := e.rep i m (by rw [at_app_l hi]; exact q)
    unfold cutF
    rw [if_pos hi]
    refine ⟨x, ?_, r.ban ow⟩
    rw [List.getElem?_append_left (by rw [← hl]; exact hi)] at h1
    exact h1
  · unfold cutF
    split
    · rename_i hi
      exact e.nil i (by rw [at_app_l hi]; exact q)
    · rfl
  · unfold cutF
    split
    · exact e.nd i
    · exact List.nodup_nil
  · unfold cutF at ha hb
    split at ha
    · split at hb
      · exact e.dj i j a ha hb
      · cases hb
    · cases ha
  · unfold cutF at ha
    split at ha
    · exact e.rs i a ha
    · cases ha
theorem own_cut {n : Nat} {a : Addr} (h : Own (cutF n fo) a) : leftO n fo a := by
  obtain ⟨i, h⟩ := h
  unfold cutF at h
  split at h
  · rename_i hi; exact ⟨i, hi, h⟩
  · cases h
/-- the right part has gone on by itself: the whole -/
def bothF (n : Nat) (fo fo' : Nat → List Addr) : Nat → List Addr := fun i => if i < n then fo i else fo' (i - n)
theorem EnvOk.both (e : EnvOk k R H (env ++ rs) (σ ++ τ) fo) (hl : env.length = σ.length) {rs' : PL.Env} {fo' : Nat → List Addr} {R' : Addr → Prop}
    (a : At k (fun a => R a ∨ leftO env.length fo a) τ H (Own (shiftF env.length fo)) rs' fo' R' H') : EnvOk k (fun a => R' a ∧ ¬ leftO env.length fo a) H' (env ++ rs') (σ ++ τ) (bothF env.length fo fo') := by
  have er := e.right hl
  have e' := a.ok
  have up : ∀ c, bn fo R c → bn (shiftF env.length fo) (fun a => R a ∨ leftO env.length fo a) c := fun c z => by
    rcases z with ⟨i, z⟩ | z
    · by_cases hi : i < env.length
      · exact .inr (.inr ⟨i, hi, z⟩)
      · exact .inl ⟨i - env.length, by unfold shiftF; rw [show env.length + (i - env.length) = i by omega]; exact z⟩
    · exact .inr (.inl z)
  have low : ∀ c, leftO env.length fo c → R' c := fun c z => a.sub c (.inr z)
  have dn : ∀ c, bn (bothF env.length fo fo') (fun a => R' a ∧ ¬ leftO env.length fo a) c → bn fo' R' c := fun c z => by
    rcases z with ⟨i, z⟩ | z
    · unfold bothF at z
      split at z
      · rename_i hi; exact .inr (low c ⟨i, hi, z⟩)
      · exact .inl ⟨_, z⟩
    · exact .inr z.1
  have st := At.stay er a
  have ob := At.okb er a
  have nl : ∀ c, leftO env.length fo c → ¬ Own (shiftF env.length fo) c := fun c ⟨i, hi, z⟩ ⟨j, w⟩ => by
    have := e.dj _ _ c z w; omega
  refine ⟨?_, fun i m q => ?_, fun i q => ?_, fun i => ?_, fun i j c ha hb => ?_, fun i c ha z => ?_, fun c z => e'.al c z.1, e'.gl⟩
  · rw [List.length_append, List.length_append, e'.len, hl]
  · by_cases hi : i < env.length
    · rw [at_app_l hi] at q
      obtain ⟨x, h1, r⟩ := e.rep i m (by rw [at_app_l hi]; exact q)
      refine ⟨x, h1, ?_⟩
      unfold bothF
      rw [if_pos hi]
      exact r.stay st (fun c ne nb => ⟨fun z => nb (by obtain ⟨j, z⟩ := z; exact .inl ⟨_, z⟩), fun z => (ob c ne fun w => nb (by
        rcases w with ⟨j, w⟩ | w | ⟨j, _, w⟩
        · exact .inl ⟨_, w⟩
        · exact .inr w
        · exact .inl ⟨j, w⟩)).2 (dn c z)⟩) fun c hc => nl c ⟨i, hi, hc⟩
    · have ei : i = env.length + (i - env.length) := by omega
      rw [ei, at_app_r] at q
      obtain ⟨x, h1, r⟩ := e'.rep _ m q
      refine ⟨x, ?_, ?_⟩
      · rw [List.getElem?_append_right (by omega), ← h1]
        congr 1; omega
      · unfold bothF
        rw [if_neg hi]
        exact r.ban dn
  · unfold bothF
    split
    · rename_i hi
      exact e.nil i (by rw [at_app_l hi] at q ⊢; exact q)
    · rename_i hi
      refine e'.nil _ ?_
      rw [← q]
      conv => rhs; rw [show i = env.length + (i - env.length) by omega]
      rw [at_app_r]
  · unfold bothF
    split
    · exact e.nd i
    · exact e'.nd _
  · unfold bothF at ha hb
    split at ha
    · rename_i hi
      split at hb
      · exact e.dj i j c ha hb
      · exact absurd (low c ⟨i, hi, ha⟩) (e'.rs _ c hb)
    · split at hb
      · rename_i hj
        exact absurd (low c ⟨j, hj, hb⟩) (e'.rs _ c ha)
      · have := e'.dj _ _ c ha hb; omega
  · unfold bothF at ha
    split at ha
    · rename_i hi; exact z.2 ⟨i, hi, ha⟩
    · exact e'.rs _ c ha z.1
end
end LB

end
section
set_option Elab.async false
set_option linter.all false
set_option maxRecDepth 100000
set_option maxHeartbeats 1000000
/-! Layer B, d: calls of the program's own functions. -/
namespace LB
open PySem PySem.Spec PyProof.Rows L2
open PL (PV MV Txt IE IEs IT II IS ISs)
section
variable {X : Cx} {k : Kx} {W : WX} {C : PL.Ctx} {R R' : Addr → Prop} {σ τ : L2.St} {H H' : Hp} {own B : Addr → Prop} {env env' env0 rs : PL.Env} {fo : Nat → List Addr}
variable {e a b c : Expr} {es : List Expr} {ie ia ib ic : IE} {ies : IEs} {pos p2 : Pos} {t u : IT}
theorem OpdReps.ban {B B' : Addr → Prop} (h : ∀ a, B' a → B a) : ∀ {os : List PL.Opd} {xs : List V} {O : List Addr}, OpdReps k H B σ env os xs O → OpdReps k H B' σ env os xs O
  | [], _, _, r => r
  | o :: os, _, _, r => by
    obtain ⟨x, xs', O1, O2, e1, r1, r2, e2⟩ := r
    refine ⟨x, xs', O1, O2, e1, ?_, OpdReps.ban h r2, e2⟩
    cases o with
    | sl i => exact r1
    | tm v => exact RepM.ban h r1
theorem set_last {α : Type} {l : List α} {a b : α} : (l ++ [a]).set l.length b = l ++ [b] := by
  rw [List.set_append, if_neg (by omega)]
  simp
theorem set_left {α : Type} {l m : List α} {i : Nat} {b : α} (h : i < l.length) : (l ++ m).set i b = l.set i b ++ m := List.set_append_left i b h
theorem lend_ok : ∀ {os : List PL.Opd} {ms : List MV} {envL env2 rs : PL.Env} {τ : L2.St} {fo : Nat → List Addr} {R : Addr → Prop} {xs : List V} {O : List Addr},
    EnvOk k R H (envL ++ rs) (σ ++ τ) fo → envL.length = σ.length → PL.lend envL os = some (ms, env2) → OpdReps k H (bn fo R) σ env0 os xs O → O.Nodup → (∀ a ∈ O, R a) →
    ∃ fo', EnvOk k (fun a => R a ∧ a ∉ O) H (env2 ++ (rs ++ ms.map some)) (σ ++ (τ ++ xs.map some)) fo' ∧ env2.length = envL.length ∧ ms.length = xs.length ∧ ∀ a, Own fo' a → Own fo a ∨ a ∈ O
  | [], ms, envL, env2, rs, τ, fo, R, xs, O, ok, hl, h, r, nd, hO => by
    cases h
    obtain ⟨rfl, rfl⟩ := r
    refine ⟨fo, ?_, rfl, rfl, fun a h => .inl h⟩
    rw [List.map_nil, List.map_nil, List.append_nil, List.append_nil]
    exact ok.drop fun a z => z.1
  | .tm v :: os, ms, envL, env2, rs, τ, fo, R, xs, O, ok, hl, h, r, nd, hO => by
    obtain ⟨x, xs', O1, O2, e1, r1, r2, e2⟩ := r
    subst e1 e2
    unfold PL.lend at h
    cases h1 : PL.lend envL os with
    | none => rw [h1] at h; cases h
    | some p =>
      obtain ⟨vs, ε'⟩ := p
      rw [h1] at h
      cases h
      have nd' := List.nodup_append.mp nd
      have e3 := ok.ext (some x)
      have hlen := ok.len
      have e4 := e3.give (q := (envL ++ rs).length) (m := v) (x := x) (O := O1) (by simp) (by
        have := at_app_r (env := envL ++ rs) (rs := [none]) (i := 0)
        rw [Nat.add_zero] at this
        rw [this]; rfl) (by rw [hlen, List.getElem?_append_right (by omega)]; simp) r1 nd'.1 fun a ha => hO a (List.mem_append_left _ ha)
      rw [set_last, List.append_assoc, List.append_assoc] at e4
      obtain ⟨fo', g1, g2, g3, g4⟩ := lend_ok (xs := xs') (O := O2) e4 hl h1 (r2.ban fun a z => by
        rcases z with z | z
        · exact (own_give z).elim .inl fun z => .inr (hO a (List.mem_append_left _ z))
        · exact .inr z.1) nd'.2.1 fun a ha => ⟨hO a (List.mem_append_right _ ha), fun z => nd'.2.2 a z a ha rfl⟩
      refine ⟨fo', ?_, g2, by rw [List.length_cons, List.length_cons, g3], fun a z => ?_⟩
      · rw [List.append_assoc, List.append_assoc] at g1
        exact g1.drop fun a z => ⟨⟨z.1, fun w => z.2 (List.mem_append_left _ w)⟩, fun w => z.2 (List.mem_append_right _ w)⟩
      · rcases g4 a z with z | z
        · exact (own_give z).imp id (List.mem_append_left _)
        · exact .inr (List.mem_append_right _ z)
  | .sl i :: os, ms, envL, env2, rs, τ, fo, R, xs, O, ok, hl, h, r, nd, hO => by
    obtain ⟨x, xs', O1, O2, e1, r1, r2, e2⟩ := r
    subst e1
    obtain ⟨hx, e3⟩ := r1
    subst e3
    rw [List.nil_append] at e2
    subst e2
    have hlen := ok.len
    unfold PL.lend at h
    cases hi : envL.at i with
    | none => rw [hi] at h; cases h
    | some m =>
      rw [hi] at h
      have hil := at_lt hi
      have hic : PL.Env.at (envL ++ rs) i = some m := by rw [at_app_l hil]; exact hi
      obtain ⟨x', g0, rep⟩ := ok.rep i m hic
      have ex : x' = x := by
        rw [List.getElem?_append_left (by rw [← hl]; exact hil), hx] at g0
        cases g0; rfl
      subst ex
      have hq : PL.Env.at (envL ++ rs ++ [none]) (envL ++ rs).length = none := by
        have := at_app_r (env := envL ++ rs) (rs := [none]) (i := 0)
        rw [Nat.add_zero] at this
        rw [this]; rfl
      have hxq : (σ ++ τ ++ [some x'])[(envL ++ rs).length]? = some (some x') := by rw [hlen, List.getElem?_append_right (by omega)]; simp
      have e3 := ok.ext (some x')
      have fin : ∀ {vs : List MV} {ε' : PL.Env} {m : MV} {f1 : Nat → List Addr} {R1 : Addr → Prop} {eL : PL.Env}, eL.length = envL.length → EnvOk k R1 H (eL ++ (rs ++ [some m])) (σ ++ (τ ++ [some x'])) f1 → (∀ a, bn f1 R1 a → bn fo R a) → (∀ a, Own f1 a → Own fo a) → (∀ a, R1 a ↔ R a) → PL.lend eL os = some (vs, ε') →
          ∃ fo', EnvOk k (fun a => R a ∧ a ∉ O) H (ε' ++ (rs ++ (m :: vs).map some)) (σ ++ (τ ++ (x' :: xs').map some)) fo' ∧ ε'.length = envL.length ∧ (m :: vs).length = (x' :: xs').length ∧ ∀ a, Own fo' a → Own fo a ∨ a ∈ O := by
        intro vs ε' m f1 R1 eL hel ok1 hb hw hR hlend
        obtain ⟨fo', g1, g2, g3, g4⟩ := lend_ok (xs := xs') (O := O) ok1 (by rw [hel]; exact hl) hlend (r2.ban hb) nd fun a ha => (hR a).mpr (hO a ha)
        refine ⟨fo', ?_, by rw [g2, hel], by rw [List.length_cons, List.length_cons, g3], fun a z => (g4 a z).imp (hw a) id⟩
        rw [List.append_assoc, List.append_assoc] at g1
        exact g1.drop fun a z => ⟨(hR a).mpr z.1, z.2⟩
      have own : ∀ m', m = m' → (∀ v, m' ≠ .p v) → (match PL.lend (envL.set i none) os with | some (vs, ε') => some (m' :: vs, ε') | none => none) = some (ms, env2) →
          ∃ fo', EnvOk k (fun a => R a ∧ a ∉ O) H (env2 ++ (rs ++ ms.map some)) (σ ++ (τ ++ (x' :: xs').map some)) fo' ∧ env2.length = envL.length ∧ ms.length = (x' :: xs').length ∧ ∀ a, Own fo' a → Own fo a ∨ a ∈ O := fun m' em _ hh => by
        cases h1 : PL.lend (envL.set i none) os with
        | none => rw [h1] at hh; cases hh
        | some p =>
          obtain ⟨vs, ε'⟩ := p
          rw [h1] at hh
          cases hh
          have e4 := e3.mv (p := i) (q := (envL ++ rs).length) (by simp; omega) (by simp) (by simp; omega) hq (by
            rw [hxq, List.append_assoc, List.getElem?_append_left (by rw [← hl]; exact hil)]; exact hx)
          have ee : (((envL ++ rs ++ [none]).set i none).set (envL ++ rs).length (PL.Env.at (envL ++ rs ++ [none]) i)) = envL.set i none ++ (rs ++ [some m']) := by
            rw [List.append_assoc, at_app_l hil, hi, set_left hil, ← List.append_assoc]
            have : (envL ++ rs).length = (envL.set i none ++ rs).length := by simp
            rw [this, set_last, List.append_assoc, em]
          rw [ee, List.append_assoc] at e4
          exact fin (eL := envL.set i none) (List.length_set) e4 (fun a z => z.imp own_mv id) (fun a z => own_mv z) (fun a => Iff.rfl) h1
      cases m with
      | p v =>
        cases h1 : PL.lend envL os with
        | none => rw [h1] at h; cases h
        | some p =>
          obtain ⟨vs, ε'⟩ := p
          rw [h1] at h
          cases h
          have e4 := e3.give (q := (envL ++ rs).length) (m := .p v) (x := x') (O := []) (by simp) hq hxq ⟨rep.1, rfl⟩ List.nodup_nil fun a ha => nomatch ha
          rw [set_last, List.append_assoc, List.append_assoc] at e4
          exact fin rfl e4 (fun a z => z.elim (fun z => (own_give z).elim .inl fun z => nomatch z) fun z => .inr z.1) (fun a z => (own_give z).elim id fun z => nomatch z) (fun a => ⟨fun z => z.1, fun z => ⟨z, fun w => nomatch w⟩⟩) h1
      | l ys => exact own _ rfl (fun v z => nomatch z) h
      | d tt ks ws => exact own _ rfl (fun v z => nomatch z) h
theorem lend_none : ∀ {os : List PL.Opd} {ms : List MV} {ε ε2 : PL.Env} {i : Nat}, PL.lend ε os = some (ms, ε2) → ε.at i = none → ε2.at i = none
  | [], _, _, _, _, h, g => by cases h; exact g
  | .tm v :: os, ms, ε, ε2, i, h, g => by
    unfold PL.lend at h
    cases h1 : PL.lend ε os with
    | none => rw [h1] at h; cases h
    | some p => rw [h1] at h; cases h; exact lend_none h1 g
  | .sl j :: os, ms, ε, ε2, i, h, g => by
    unfold PL.lend at h
    cases hi : ε.at j with
    | none => rw [hi] at h; cases h
    | some m =>
      rw [hi] at h
      have key : ∀ m', (match PL.lend (ε.set j none) os with | some (vs, ε') => some (m' :: vs, ε') | none => none) = some (ms, ε2) → ε2.at i = none := fun m' hh => by
        cases h1 : PL.lend (ε.set j none) os with
        | none => rw [h1] at hh; cases hh
        | some p =>
          rw [h1] at hh
          cases hh
          refine lend_none h1 ?_
          by_cases e : i = j
          · subst e; exact at_set (at_lt hi) none
          · rw [at_set_ne e]; exact g
      cases m with
      | p v =>
        cases h1 : PL.lend ε os with
        | none => rw [h1] at h; cases h
        | some p => rw [h1] at h; cases h; exact lend_none h1 g
      | l ys => exact key _ h
      | d tt ks ws => exact key _ h
/-- what comes back, slot by slot: of what was no own list nothing -/
def backE : List MV → List (Option MV) → PL.Env
  | .p _ :: ms, _ :: bs => none :: backE ms bs
  | _ :: ms, b :: bs => b :: backE ms bs
  | _, _ => []
theorem unlend_ok : ∀ {os : List PL.Opd} {ms : List MV} {bs : List (Option MV)} {ε0 ε2 envL pre : PL.Env} {τ : L2.St} {fo : Nat → List Addr} {xs : List V} {O : List Addr} {B : Addr → Prop} {H0 : Hp},
    EnvOk k R H (envL ++ (pre ++ backE ms bs)) (σ ++ (τ ++ xs.map some)) fo → envL.length = σ.length → pre.length = τ.length → PL.lend ε0 os = some (ms, ε2) → OpdReps k H0 B σ env0 os xs O → (∀ j, ε0.at j ≠ none → envL.at j = ε2.at j) →
    ∃ fo' post, EnvOk k R H (PL.unlend ε0 os bs envL ++ post) (σ ++ (τ ++ xs.map some)) fo' ∧ (∀ a, Own fo' a → Own fo a) ∧ (PL.unlend ε0 os bs envL).length = envL.length
  | [], ms, bs, ε0, ε2, envL, pre, τ, fo, xs, O, B, H0, ok, hl, hp, h, r, ag => by
    have hu : PL.unlend ε0 [] bs envL = envL := by unfold PL.unlend; rfl
    rw [hu]
    exact ⟨fo, _, ok, fun a z => z, rfl⟩
  | .tm v :: os, ms, bs, ε0, ε2, envL, pre, τ, fo, xs, O, B, H0, ok, hl, hp, h, r, ag => by
    obtain ⟨x, xs', O1, O2, e1, r1, r2, e2⟩ := r
    subst e1
    unfold PL.lend at h
    cases h1 : PL.lend ε0 os with
    | none => rw [h1] at h; cases h
    | some p =>
      obtain ⟨vs, ε'⟩ := p
      rw [h1] at h
      cases h
      cases bs with
      | nil =>
        have hlen := ok.len
        have : backE (v :: vs) [] = [] := by cases v <;> rfl
        rw [this] at hlen
        simp at hlen
        omega
      | cons b bs =>
        have eb : ∃ o, backE (v :: vs) (b :: bs) = o :: backE vs bs := by cases v <;> exact ⟨_, rfl⟩
        obtain ⟨o, eb⟩ := eb
        rw [eb] at ok
        have ok' : EnvOk k R H (envL ++ ((pre ++ [o]) ++ backE vs bs)) (σ ++ ((τ ++ [some x]) ++ xs'.map some)) fo := by simpa using ok
        obtain ⟨fo', post, g1, g2, g3⟩ := unlend_ok ok' hl (by simp [hp]) h1 r2 ag
        have hu : PL.unlend ε0 (.tm v :: os) (b :: bs) envL = PL.unlend ε0 os bs envL := by
          conv => lhs; unfold PL.unlend
        exact ⟨fo', post, by rw [hu]; simpa using g1, g2, by rw [hu]; exact g3⟩
  | .sl i :: os, ms, bs, ε0, ε2, envL, pre, τ, fo, xs, O, B, H0, ok, hl, hp, h, r, ag => by
    obtain ⟨x, xs', O1, O2, e1, r1, r2, e2⟩ := r
    subst e1
    unfold PL.lend at h
    cases hi : ε0.at i with
    | none => rw [hi] at h; cases h
    | some m =>
      rw [hi] at h
      have hlen := ok.len
      have key : ∀ m', ε0.at i = some m' → (∀ v, m' ≠ .p v) → (match PL.lend (ε0.set i none) os with | some (vs, ε') => some (m' :: vs, ε') | none => none) = some (ms, ε2) → (∀ b bs', PL.unlend ε0 (.sl i :: os) (b :: bs') envL = PL.unlend (ε0.set i none) os bs' (envL.set i b)) →
          ∃ fo' post, EnvOk k R H (PL.unlend ε0 (.sl i :: os) bs envL ++ post) (σ ++ (τ ++ (x :: xs').map some)) fo' ∧ (∀ a, Own fo' a → Own fo a) ∧ (PL.unlend ε0 (.sl i :: os) bs envL).length = envL.length := fun m' hm' np hh hu => by
        cases h1 : PL.lend (ε0.set i none) os with
        | none => rw [h1] at hh; cases hh
        | some p =>
          obtain ⟨vs, ε'⟩ := p
          rw [h1] at hh
          cases hh
          cases bs with
          | nil =>
            have : backE (m' :: vs) [] = [] := by cases m' <;> rfl
            rw [this] at hlen
            simp at hlen
            omega
          | cons b bs =>
            have eb : backE (m' :: vs) (b :: bs) = b :: backE vs bs := by
              cases m' with
              | p v => exact absurd rfl (np v)
              | l ys => rfl
              | d tt ks ws => rfl
            rw [eb] at ok
            have hn2 : ε2.at i = none := lend_none h1 (at_set (at_lt hi) none)
            have hnL : envL.at i = none := by rw [ag i (by rw [hi]; simp)]; exact hn2
            have hiσ : i < envL.length := by rw [hl]; exact (List.getElem?_eq_some_iff.mp r1.1).1
            have hp' : envL.length + pre.length < (envL ++ (pre ++ b :: backE vs bs)).length := by simp
            have atp : PL.Env.at (envL ++ (pre ++ b :: backE vs bs)) (envL.length + pre.length) = b := by
              rw [at_app_r]
              have := at_app_r (env := pre) (rs := b :: backE vs bs) (i := 0)
              rw [Nat.add_zero] at this
              rw [this]; rfl
            have mv := ok.mv (p := envL.length + pre.length) (q := i) hp' (by simp; omega) (by omega) (by rw [at_app_l hiσ]; exact hnL) (by
              have g1 : (σ ++ (τ ++ (x :: xs').map some))[i]? = some (some x) := by
                rw [List.getElem?_append_left (by rw [← hl]; exact hiσ)]; exact r1.1
              have g2 : (σ ++ (τ ++ (x :: xs').map some))[envL.length + pre.length]? = some (some x) := by
                rw [hl, hp, List.getElem?_append_right (by omega), List.getElem?_append_right (by omega)]
                simp
              rw [g1, g2])
            have ee : ((envL ++ (pre ++ b :: backE vs bs)).set (envL.length + pre.length) none).set i (PL.Env.at (envL ++ (pre ++ b :: backE vs bs)) (envL.length + pre.length)) = envL.set i b ++ ((pre ++ [none]) ++ backE vs bs) := by
              rw [atp, List.set_append, if_neg (by omega), set_left hiσ, List.set_append, if_neg (by omega)]
              simp
            rw [ee] at mv
            have mv' : EnvOk k R H (envL.set i b ++ ((pre ++ [none]) ++ backE vs bs)) (σ ++ ((τ ++ [some x]) ++ xs'.map some)) (fset (fset fo (envL.length + pre.length) []) i (fo (envL.length + pre.length))) := by simpa using mv
            obtain ⟨fo', post, g1, g2, g3⟩ := unlend_ok mv' (by simp [hl]) (by simp [hp]) h1 r2 fun j hj => by
              have hji : j ≠ i := fun z => hj (by subst z; exact at_set (at_lt hi) none)
              rw [at_set_ne hji] at hj ⊢
              exact ag j hj
            refine ⟨fo', post, ?_, fun a z => own_mv (g2 a z), ?_⟩
            · rw [hu]
              simpa using g1
            · rw [hu, g3]; simp
      cases m with
      | p v =>
        cases h1 : PL.lend ε0 os with
        | none => rw [h1] at h; cases h
        | some p =>
          obtain ⟨vs, ε'⟩ := p
          rw [h1] at h
          cases h
          cases bs with
          | nil =>
            rw [show backE (.p v :: vs) [] = [] from rfl] at hlen
            simp at hlen
            omega
          | cons b bs =>
            have ok' : EnvOk k R H (envL ++ ((pre ++ [none]) ++ backE vs bs)) (σ ++ ((τ ++ [some x]) ++ xs'.map some)) fo := by
              have : backE (.p v :: vs) (b :: bs) = none :: backE vs bs := rfl
              rw [this] at ok
              simpa using ok
            obtain ⟨fo', post, g1, g2, g3⟩ := unlend_ok ok' hl (by simp [hp]) h1 r2 ag
            have hu : PL.unlend ε0 (.sl i :: os) (b :: bs) envL = PL.unlend ε0 os bs envL := by
              conv => lhs; unfold PL.unlend
              rw [hi]
            exact ⟨fo', post, by rw [hu]; simpa using g1, g2, by rw [hu]; exact g3⟩
      | l ys =>
        refine key _ hi (fun v z => nomatch z) h fun b bs' => ?_
        rw [PL.unlend, hi]
      | d tt ks ws =>
        refine key _ hi (fun v z => nomatch z) h fun b bs' => ?_
        rw [PL.unlend, hi]
end
end LB

end
section
set_option Elab.async false
set_option linter.all false
set_option maxRecDepth 100000
set_option maxHeartbeats 4000000
/-! Layer B, H0: a def called while the exception p is handled. -/
namespace LB
open PySem PySem.Spec PyProof.Rows L2
open L2H (RoomH Hot1 PinOk cxH inv_startH)
/-- what a def promises there, for this p -/
structure FnP (p : Addr × Obj) (P : Program) (w : World) (K : PySem.W.Frag) (mg : Str → Option Value) (base : Heap) (CX : CXT) (k : Nat) (f : Addr) (fd : FuncData) (ps : List Str) (sp : Sp) : Prop where
  len : ∀ vs H Q E, sp vs H Q E → vs.length = ps.length
  run : ∀ (A : Around) (outer : List Env) (s : Shared) (H : Hp) (args : PySem.Args) (us : List Value) (vs : List V) (Q : VK) (E : XK), RoomH k A → Hot1 A p → PinOk outer H s p → Env0 P w K mg base A outer s H → BindsTo s fd args (ps.zip us) → Vals vs us → sp vs H Q E →
    codeAny (model P w) A (.call (.ref f) args) (CR CX outer P w H s Q E) s
theorem fn_ofP {p : Addr × Obj} {CX : CXT} {P : Program} {w : World} {K : PySem.W.Frag} {mg : Str → Option Value} {base : Heap} {k : Nat} {f : Addr} {name qual : Str} {params : Arguments} {body : List Stmt} {scope : Scope} {dV kV doc pm cdv ct oc : Value} {an od : Option Addr}
    {osl : Array (Option Value)} {N ps : List Str} {sp : Sp} (lk : K.lookup f = some ⟨oc, od, .func (PySem.W.fnOf name qual params body scope dV kV doc pm an cdv ct), osl⟩) (hcd : PySem.W.codeIn K cdv qual = true) (S : FnScope N ps scope)
    (len : ∀ vs H Q E, sp vs H Q E → vs.length = ps.length)
    (hbody : ∀ (cdv : Value) (A : Around) (outer : List Env) (s : Shared) (H : Hp) (vs : List V) (Q : VK) (E : XK), Hot1 A p → RoomH k (A.deeper (envOfC qual scope s.heap.objs.size f cdv)) → sp vs H Q E →
      ∃ t, PSs (cxH CX P w K mg base N qual scope f cdv A outer s H E p) body t ∧ t { nx := fun _ H' => Q .non H', rt := Q } (L2.start N vs) H) :
    FnP p P w K mg base CX (k + 1) f (PySem.W.fnOf name qual params body scope dV kV doc pm an cdv ct) ps sp := by
  refine ⟨len, fun A outer s H args us vs Q E hr hot hpin e0 hb r hsp => ?_⟩
  have hl := len _ _ _ _ hsp
  have KX : K.In s.heap := e0.mod.kin.keeps fun b o e => (e0.bs b o e).1
  have lim : s.heap.NoLimit := e0.mod.nolimit.keeps fun b o e => (e0.bs b o e).1
  have hkind : ∀ y ∈ ps.zip us, scope.names.lookup y.1 = some .local ∨ (scope.names.lookup y.1 = some .cell ∧ ((cellsFrom (s.heap.objs.size + 1) scope.names []).lookup y.1).isSome = true) := fun ⟨n, v⟩ hy => by
    rcases S.par n (List.of_mem_zip hy).1 with q | q
    · exact .inl q
    · exact .inr ⟨q, PySem.W.cellsFrom_some _ _ _ (.inl q)⟩
  refine codeAny_call_function hr.depth (KX _ _ lk) rfl S.co S.gen rfl (PySem.W.codeRec_of KX hcd) (hb _ _ _ _ ?_)
  refine wpAny_newFunctionEnv_cells S.kind hkind fun env he s1 x => ?_
  subst he
  refine ⟨lim.keeps x.toInCall.keep, codeAny_func ?_⟩
  obtain ⟨t, ht, hq⟩ := hbody cdv A outer s H vs Q E hot (hr.deeper _) hsp
  have I : Inv (cxH CX P w K mg base N qual scope f cdv A outer s H E p) [] (L2.start N vs) H s1 := inv_startH S hpin e0 hl r x
  refine wpAny_mono (ht.run [] s1 (L2.start N vs) H _ I hq) (fun fl s' hs => ?_) fun e s' hs => hs
  have fin : ∀ {σ' : L2.St} {H' : Hp} {v : V} {u : Value}, Inv (cxH CX P w K mg base N qual scope f cdv A outer s H E p) [] σ' H' s' → RelV v u → Q v H' → CE outer P w H s Q u s' :=
    fun {σ' H' v u} J rv q => ⟨v, H', J.os, J.bare, J.base, J.hok, rv, q⟩
  cases fl with
  | ret u =>
    obtain ⟨v, σ', H', J, rv, q⟩ := hs
    exact fin J rv q
  | next =>
    obtain ⟨σ', H', J, q⟩ := hs
    exact fin (v := V.non) (u := Value.none) J rfl q
  | brk =>
    obtain ⟨_, _, _, q⟩ := hs
    exact False.elim q
  | cont =>
    obtain ⟨_, _, _, q⟩ := hs
    exact False.elim q
theorem FunD.okP {p : Addr × Obj} {P : Program} {w : World} {K : PySem.W.Frag} {mg : Str → Option Value} {base : Heap} {x qual : Str} {params : Arguments} {body : List Stmt} {scope : Scope} {dvs : List V} {kws : List (Str × V)} {f : Addr} {fd : FuncData} {CX : CXT} {N ps : List Str} {k : Nat} {sp : Sp} (F : FunD K x qual params body scope dvs kws f fd) (S : FnScope N ps scope) (len : ∀ vs H Q E, sp vs H Q E → vs.length = ps.length)
    (hbody : ∀ (cdv : Value) (A : Around) (outer : List Env) (s : Shared) (H : Hp) (vs : List V) (Q : VK) (E : XK), Hot1 A p → RoomH k (A.deeper (envOfC qual scope s.heap.objs.size f cdv)) → sp vs H Q E →
      ∃ t, PSs (cxH CX P w K mg base N qual scope f cdv A outer s H E p) body t ∧ t { nx := fun _ H' => Q .non H', rt := Q } (L2.start N vs) H) : FnP p P w K mg base CX (k + 1) f fd ps sp := by
  obtain ⟨oc, od, dV, kV, doc, pm, an, cdv, ct, osl, rfl, lk, hcd, _, _⟩ := F.ex
  exact fn_ofP lk hcd S len hbody
/-! ### a def called where nothing is under way that guards against itself -/
structure RoomG (k : Nat) (A : Around) : Prop where
  r : Room k A
  g : A.guards = some []
theorem RoomG.mono {j k : Nat} {A : Around} (r : RoomG k A) (h : j ≤ k) : RoomG j A := ⟨r.r.mono h, r.g⟩
theorem RoomG.deeper {k : Nat} {A : Around} (r : RoomG (k + 1) A) (env : PySem.Env) : RoomG k (A.deeper env) := ⟨r.r.deeper env, r.g⟩
structure FnG (P : Program) (w : World) (K : PySem.W.Frag) (mg : Str → Option Value) (base : Heap) (CX : CXT) (k : Nat) (f : Addr) (fd : FuncData) (ps : List Str) (sp : Sp) : Prop where
  len : ∀ vs H Q E, sp vs H Q E → vs.length = ps.length
  run : ∀ (A : Around) (outer : List Env) (s : Shared) (H : Hp) (args : PySem.Args) (us : List Value) (vs : List V) (Q : VK) (E : XK), RoomG k A → Env0 P w K mg base A outer s H → BindsTo s fd args (ps.zip us) → Vals vs us → sp vs H Q E →
    codeAny (model P w) A (.call (.ref f) args) (CR CX outer P w H s Q E) s
theorem fn_ofG {CX : CXT} {P : Program} {w : World} {K : PySem.W.Frag} {mg : Str → Option Value} {base : Heap} {k : Nat} {f : Addr} {name qual : Str} {params : Arguments} {body : List Stmt} {scope : Scope} {dV kV doc pm cdv ct oc : Value} {an od : Option Addr}
    {osl : Array (Option Value)} {N ps : List Str} {sp : Sp} (lk : K.lookup f = some ⟨oc, od, .func (PySem.W.fnOf name qual params body scope dV kV doc pm an cdv ct), osl⟩) (hcd : PySem.W.codeIn K cdv qual = true) (S : FnScope N ps scope)
    (len : ∀ vs H Q E, sp vs H Q E → vs.length = ps.length)
    (hbody : ∀ (cdv : Value) (A : Around) (outer : List Env) (s : Shared) (H : Hp) (vs : List V) (Q : VK) (E : XK), RoomG k (A.deeper (envOfC qual scope s.heap.objs.size f cdv)) → sp vs H Q E →
      ∃ t, PSs (cxOf CX P w K mg base N qual scope f cdv A outer s H E) body t ∧ t { nx := fun _ H' => Q .non H', rt := Q } (L2.start N vs) H) :
    FnG P w K mg base CX (k + 1) f (PySem.W.fnOf name qual params body scope dV kV doc pm an cdv ct) ps sp := by
  refine ⟨len, fun A outer s H args us vs Q E hr e0 hb r hsp => ?_⟩
  have hl := len _ _ _ _ hsp
  have KX : K.In s.heap := e0.mod.kin.keeps fun b o e => (e0.bs b o e).1
  have lim : s.heap.NoLimit := e0.mod.nolimit.keeps fun b o e => (e0.bs b o e).1
  have hkind : ∀ y ∈ ps.zip us, scope.names.lookup y.1 = some .local ∨ (scope.names.lookup y.1 = some .cell ∧ ((cellsFrom (s.heap.objs.size + 1) scope.names []).lookup y.1).isSome = true) := fun ⟨n, v⟩ hy => by
    rcases S.par n (List.of_mem_zip hy).1 with q | q
    · exact .inl q
    · exact .inr ⟨q, PySem.W.cellsFrom_some _ _ _ (.inl q)⟩
  refine codeAny_call_function hr.r.depth (KX _ _ lk) rfl S.co S.gen rfl (PySem.W.codeRec_of KX hcd) (hb _ _ _ _ ?_)
  refine wpAny_newFunctionEnv_cells S.kind hkind fun env he s1 x => ?_
  subst he
  refine ⟨lim.keeps x.toInCall.keep, codeAny_func ?_⟩
  obtain ⟨t, ht, hq⟩ := hbody cdv A outer s H vs Q E (hr.deeper _) hsp
  have I : Inv (cxOf CX P w K mg base N qual scope f cdv A outer s H E) [] (L2.start N vs) H s1 := inv_start S hr.r.hd e0 hl r x
  refine wpAny_mono (ht.run [] s1 (L2.start N vs) H _ I hq) (fun fl s' hs => ?_) fun e s' hs => hs
  have fin : ∀ {σ' : L2.St} {H' : Hp} {v : V} {u : Value}, Inv (cxOf CX P w K mg base N qual scope f cdv A outer s H E) [] σ' H' s' → RelV v u → Q v H' → CE outer P w H s Q u s' :=
    fun {σ' H' v u} J rv q => ⟨v, H', J.os, J.bare, J.base, J.hok, rv, q⟩
  cases fl with
  | ret u =>
    obtain ⟨v, σ', H', J, rv, q⟩ := hs
    exact fin J rv q
  | next =>
    obtain ⟨σ', H', J, q⟩ := hs
    exact fin (v := V.non) (u := Value.none) J rfl q
  | brk =>
    obtain ⟨_, _, _, q⟩ := hs
    exact False.elim q
  | cont =>
    obtain ⟨_, _, _, q⟩ := hs
    exact False.elim q
theorem FunD.okG {P : Program} {w : World} {K : PySem.W.Frag} {mg : Str → Option Value} {base : Heap} {x qual : Str} {params : Arguments} {body : List Stmt} {scope : Scope} {dvs : List V} {kws : List (Str × V)} {f : Addr} {fd : FuncData} {CX : CXT} {N ps : List Str} {k : Nat} {sp : Sp} (F : FunD K x qual params body scope dvs kws f fd) (S : FnScope N ps scope) (len : ∀ vs H Q E, sp vs H Q E → vs.length = ps.length)
    (hbody : ∀ (cdv : Value) (A : Around) (outer : List Env) (s : Shared) (H : Hp) (vs : List V) (Q : VK) (E : XK), RoomG k (A.deeper (envOfC qual scope s.heap.objs.size f cdv)) → sp vs H Q E →
      ∃ t, PSs (cxOf CX P w K mg base N qual scope f cdv A outer s H E) body t ∧ t { nx := fun _ H' => Q .non H', rt := Q } (L2.start N vs) H) : FnG P w K mg base CX (k + 1) f fd ps sp := by
  obtain ⟨oc, od, dV, kV, doc, pm, an, cdv, ct, osl, rfl, lk, hcd, _, _⟩ := F.ex
  exact fn_ofG lk hcd S len hbody
section
variable {X : Cx} {CX : CXT} {k : Nat} {f C : Addr} {fd : FuncData} {ps : List Str} {sp : Sp} {E : L2.St → XK} {x m : Str} {q pos apos : Pos} {e o : Expr} {es : List Expr} {ta : TE} {t : TA}
theorem run_fnG {pins : List (Addr × Obj)} {σ : L2.St} {H : Hp} {s : Shared} {Q : VK} {us : List Value} {vs : List V} (F : FnG X.prog X.w X.K X.mg X.base CX k f fd ps sp) (hr : RoomG k X.A) (hb : Binds X.K fd ps []) (hx : PassesAt CX X σ (E σ))
    (I : Inv X pins σ H s) (r : Vals vs us) (h : sp vs H Q (E σ)) : wpAny (model X.prog X.w) X.A (call (.ref f) us) (EP X pins σ Q) X.xe s := by
  have hl : us.length = ps.length := by rw [← r.length]; exact F.len _ _ _ _ h
  have b := hb s us I.kIn (by rw [List.append_nil]; exact hl)
  rw [List.append_nil] at b
  refine wpAny_call (codeAny_mono (F.run X.A X.stack s H ⟨us, []⟩ us vs Q (E σ) hr I.env0 b r h) fun r s' hq => ?_)
  cases r with
  | error e => exact hx pins H s e s' I hq
  | ok fl =>
    cases fl with
    | ret u => exact I.after hq
    | next => exact False.elim hq
    | brk => exact False.elim hq
    | cont => exact False.elim hq
theorem pe_callG (F : FnG X.prog X.w X.K X.mg X.base CX k f fd ps sp) (hr : RoomG k X.A) (hg : Gl X x) (hm : X.mg x = some (.ref f)) (hk : PySem.W.keepIn X.K (.ref f) = true) (hb : Binds X.K fd ps []) (hx : ∀ σ, PassesAt CX X σ (E σ))
    (ha : PA X (e :: es) t) (hdb : (x == ("__debug__" : Str)) = false) (he : starEach (e :: es) X.env = (false, eval e X.env) :: starEach es X.env) (hpl : (backTo pos (starEach es X.env)).any (·.1) = false) :
    PE X (.Call (.Name x q) (e :: es) [] pos) (tCallS sp E t) := by
  refine ⟨fun pins s σ H Q I h => ?_⟩
  refine wpAny_Call_Name_kw (ld_glob I hg hm ?_ hdb)
  refine PySem.W.callWith_K (h₀ := X.base) I.ok.mod.kin hk (thn (ha.run pos pins s σ H _ I h) fun us s1 ⟨vs, H1, I1, r, q⟩ => ⟨I1.kIn, ?_⟩) he hpl
  exact run_fnG F hr hb (hx σ) I1 r q
theorem pe_callG0 (F : FnG X.prog X.w X.K X.mg X.base CX k f fd ps sp) (hr : RoomG k X.A) (hg : Gl X x) (hm : X.mg x = some (.ref f)) (hk : PySem.W.keepIn X.K (.ref f) = true) (hb : Binds X.K fd ps []) (hx : ∀ σ, PassesAt CX X σ (E σ))
    (hdb : (x == ("__debug__" : Str)) = false) : PE X (.Call (.Name x q) [] [] pos) (tCallS sp E tNil) := by
  refine ⟨fun pins s σ H Q I h => ?_⟩
  refine wpAny_Call_Name_kw (ld_glob I hg hm ?_ hdb)
  exact PySem.W.callWith_K0 I.kIn hk (run_fnG (us := []) F hr hb (hx σ) I .nil h)
end
section
variable {X : Cx} {CX : CXT} {k : Nat} {f C : Addr} {fd : FuncData} {ps : List Str} {sp : Sp} {E : L2.St → XK} {x m : Str} {q pos apos : Pos} {e o : Expr} {es : List Expr} {ta : TE} {t : TA} {p : Addr × Obj}
theorem run_fnP {pins : List (Addr × Obj)} {σ : L2.St} {H : Hp} {s : Shared} {Q : VK} {us : List Value} {vs : List V} (F : FnP p X.prog X.w X.K X.mg X.base CX k f fd ps sp) (hr : RoomH k X.A) (hot : Hot1 X.A p) (hp : p ∈ X.pn) (hb : Binds X.K fd ps []) (hx : PassesAt CX X σ (E σ))
    (I : Inv X pins σ H s) (r : Vals vs us) (h : sp vs H Q (E σ)) : wpAny (model X.prog X.w) X.A (call (.ref f) us) (EP X pins σ Q) X.xe s := by
  have hl : us.length = ps.length := by rw [← r.length]; exact F.len _ _ _ _ h
  have b := hb s us I.kIn (by rw [List.append_nil]; exact hl)
  rw [List.append_nil] at b
  have P1 := I.pin p (List.mem_append_left _ hp)
  have hpin : PinOk X.stack H s p := ⟨P1.1, P1.2.1, fun hm => (List.mem_cons.mp (I.stkSub p.1 hm)).elim P1.2.2.1 P1.2.2.2.1, P1.2.2.2.2⟩
  refine wpAny_call (codeAny_mono (F.run X.A X.stack s H ⟨us, []⟩ us vs Q (E σ) hr hot hpin I.env0 b r h) fun r s' hq => ?_)
  cases r with
  | error e => exact hx pins H s e s' I hq
  | ok fl =>
    cases fl with
    | ret u => exact I.after hq
    | next => exact False.elim hq
    | brk => exact False.elim hq
    | cont => exact False.elim hq
theorem pe_callP (F : FnP p X.prog X.w X.K X.mg X.base CX k f fd ps sp) (hr : RoomH k X.A) (hot : Hot1 X.A p) (hp : p ∈ X.pn) (hg : Gl X x) (hm : X.mg x = some (.ref f)) (hk : PySem.W.keepIn X.K (.ref f) = true) (hb : Binds X.K fd ps []) (hx : ∀ σ, PassesAt CX X σ (E σ))
    (ha : PA X (e :: es) t) (hdb : (x == ("__debug__" : Str)) = false) (he : starEach (e :: es) X.env = (false, eval e X.env) :: starEach es X.env) (hpl : (backTo pos (starEach es X.env)).any (·.1) = false) :
    PE X (.Call (.Name x q) (e :: es) [] pos) (tCallS sp E t) := by
  refine ⟨fun pins s σ H Q I h => ?_⟩
  refine wpAny_Call_Name_kw (ld_glob I hg hm ?_ hdb)
  refine PySem.W.callWith_K (h₀ := X.base) I.ok.mod.kin hk (thn (ha.run pos pins s σ H _ I h) fun us s1 ⟨vs, H1, I1, r, q⟩ => ⟨I1.kIn, ?_⟩) he hpl
  exact run_fnP F hr hot hp hb (hx σ) I1 r q
end
end LB

end
section
set_option Elab.async false
set_option linter.all false
set_option maxRecDepth 100000
set_option maxHeartbeats 1000000
/-! Layer B, e: what a function promises; the call; isinstance. -/
namespace LB
open PySem PySem.Spec PyProof.Rows L2
open PL (PV MV Txt IE IEs IT II IS ISs)
/-- what function f promises -/
def spF (k : Kx) (call : Nat → List MV → PL.CRes) (f : Nat) : Sp := fun vs H Q E => ∃ (R : Addr → Prop) (ms : List MV) (fo : Nat → List Addr), EnvOk k R H (ms.map some) (vs.map some) fo ∧ match call f ms with
  | .ok v back => ∀ x H', PostV k R (vs.map some) H (Own fo) (backE ms back) v x H' → Q x H'
  | .ex e => ∀ cls d H', PostX k R (vs.map some) H (Own fo) (List.replicate ms.length none) e cls d H' → E cls d H'
  | .bad => False
section
variable {X : Cx} {k : Kx} {W : WX} {C : PL.Ctx} {R R' : Addr → Prop} {σ τ : L2.St} {H H' : Hp} {own B : Addr → Prop} {env env' env0 rs : PL.Env} {fo : Nat → List Addr}
variable {e a b c : Expr} {es : List Expr} {ie ia ib ic : IE} {ies : IEs} {pos p2 : Pos} {t u : IT}
/-- a function of the program, where it is called -/
structure Callee (hot : Bool) (X : Cx) (k : Kx) (call : Nat → List MV → PL.CRes) (x : Str) (f : Nat) : Prop where
  ex : ∃ kk fa fd ps, ((hot = false ∧ FnG X.prog X.w X.K X.mg X.base (L2N.CX X.prog X.w) kk fa fd ps (spF k call f) ∧ RoomG kk X.A) ∨ ∃ p, hot = true ∧ FnP p X.prog X.w X.K X.mg X.base (L2N.CX X.prog X.w) kk fa fd ps (spF k call f) ∧ L2H.RoomH kk X.A ∧ L2H.Hot1 X.A p ∧ p ∈ X.pn) ∧ X.mg x = some (.ref fa) ∧ PySem.W.keepIn X.K (.ref fa) = true ∧ Binds X.K fd ps []
theorem rd_call {f : Nat} {Q : VK} (h : tE k W C (.call f ies) σ H Q) : tCallS (spF k C.call f) (WE W) (tOs k W C ies) σ H Q := by
  obtain ⟨env, fo, R, ok, o⟩ := h
  unfold PL.ev at o
  refine ⟨env, fo, R, ok, o.bind.imp fun os e1 q1 xs H1 p1 => ?_⟩
  obtain ⟨fo1, R1, O1, a1, r1, t1⟩ := p1
  cases hl : PL.lend e1 os with
  | none => rw [hl] at q1; exact q1.elim
  | some p =>
    obtain ⟨ms, e2⟩ := p
    rw [hl] at q1
    have hlen := a1.ok.len
    obtain ⟨foC, g1, g2, g3, g4⟩ := lend_ok (rs := []) (τ := []) (by rw [List.append_nil, List.append_nil]; exact a1.ok) hlen hl r1 t1.nd fun a ha => (t1.mem a ha).1
    rw [List.nil_append, List.nil_append] at g1
    have hl2 : e2.length = σ.length := by rw [g2]; exact hlen
    have gr := g1.right hl2
    -- from H on: what is not ours stands, what is new was not there
    have up : ∀ c, Own foC c → Own fo c ∨ H c = none := fun c z => by
      rcases g4 c z with z | z
      · exact a1.tr.new c (.inl z)
      · exact a1.tr.new c (.inr (t1.mem c z))
    have up' : ∀ c, Own (shiftF e2.length foC) c ∨ H1 c = none → Own fo c ∨ H c = none := fun c z => by
      rcases z with ⟨i, z⟩ | z
      · exact up c ⟨_, z⟩
      · cases q : H c with
        | none => exact .inr rfl
        | some o =>
          by_cases ho : Own fo c
          · exact .inl ho
          · rw [a1.tr.keep c o q ho] at z; cases z
    have kp : ∀ c o, H c = some o → ¬ Own fo c → H1 c = some o ∧ ¬ Own (shiftF e2.length foC) c := fun c o hc hn => by
      refine ⟨a1.tr.keep c o hc hn, fun z => ?_⟩
      rcases up' c (.inl z) with z | z
      · exact hn z
      · rw [z] at hc; cases hc
    have nl : ∀ c, leftO e2.length foC c → ¬ (R1 c ∧ c ∉ O1) := fun c ⟨i, _, z⟩ w => g1.rs i c z w
    have RR : ∀ c, R c → R1 c ∧ c ∉ O1 := fun c z => ⟨a1.sub c z, fun w => (t1.mem c w).2 z⟩
    change Outc _ _ _ _ _ _ _ (match C.call f ms with | .ok v back => PL.Res.ok v (PL.unlend e1 os back e2) | .ex e => PL.Res.ex e e2 | .bad => PL.Res.bad) at q1
    refine ⟨_, ms, _, gr, ?_⟩
    cases hc : C.call f ms with
    | bad => rw [hc] at q1; exact q1.elim
    | ok v back =>
      rw [hc] at q1
      intro x H' p
      obtain ⟨fo', R', O, a2, rv, t2⟩ := p
      have bt := g1.both hl2 a2
      have bt' : EnvOk k (fun a => R' a ∧ ¬ leftO e2.length foC a) H' (e2 ++ ([] ++ backE ms back)) (σ ++ ([] ++ xs.map some)) (bothF e2.length foC fo') := bt
      obtain ⟨fo3, post, h1, h2, h3⟩ := unlend_ok bt' hl2 rfl hl r1 fun j hj => rfl
      rw [List.nil_append] at h1
      have lf := h1.left (by rw [h3]; exact hl2)
      have ow : ∀ c, Own (cutF (PL.unlend e1 os back e2).length fo3) c → leftO e2.length foC c ∨ Own fo' c := fun c z => by
        obtain ⟨i, _, z⟩ := own_cut z
        obtain ⟨j, z⟩ := h2 c ⟨i, z⟩
        unfold bothF at z
        split at z
        · rename_i hj; exact .inl ⟨j, hj, z⟩
        · exact .inr ⟨_, z⟩
      have lR' : ∀ c, leftO e2.length foC c → R' c := fun c z => a2.sub c (.inr z)
      refine q1 x H' ⟨_, fun c => R c ∨ c ∈ O, O, ⟨lf.drop fun c z => ?_, fun c z => .inl z, ⟨fun c o hc hn => ?_, fun c z => ?_⟩⟩, rv.ban fun c z => ?_, ⟨t2.nd, fun c hc => ⟨.inr hc, fun z => ?_⟩⟩⟩
      · rcases z with z | z
        · exact ⟨a2.sub c (.inl (RR c z)), fun w => nl c w (RR c z)⟩
        · exact ⟨(t2.mem c z).1, fun w => (t2.mem c z).2 (.inr w)⟩
      · obtain ⟨k1, k2⟩ := kp c o hc hn
        exact a2.tr.keep c o k1 k2
      · rcases z with z | ⟨z, nz⟩
        · rcases ow c z with ⟨i, hi, z⟩ | z
          · exact up c ⟨i, z⟩
          · exact up' c (a2.tr.new c (.inl z))
        · rcases z with z | z
          · exact absurd z nz
          · exact up' c (a2.tr.new c (.inr (t2.mem c z)))
      · rcases z with z | z | z
        · rcases ow c z with z | z
          · exact .inr (lR' c z)
          · exact .inl z
        · exact .inr (a2.sub c (.inl (RR c z)))
        · exact .inr (t2.mem c z).1
      · exact (t2.mem c hc).2 (.inl (RR c z))
    | ex e =>
      rw [hc] at q1
      intro cls d H' p
      obtain ⟨fo', a2, xr⟩ := p
      have bt := g1.both hl2 a2
      have lf := bt.left hl2
      refine q1 cls d H' ⟨_, ⟨lf.drop fun c z => ?_, fun c z => z, ⟨fun c o hc hn => ?_, fun c z => ?_⟩⟩, ?_⟩
      · exact ⟨.inl (RR c z), fun w => nl c w (RR c z)⟩
      · obtain ⟨k1, k2⟩ := kp c o hc hn
        exact a2.tr.keep c o k1 k2
      · rcases z with z | ⟨z, nz⟩
        · obtain ⟨i, hi, z⟩ := own_cut z
          unfold bothF at z
          rw [if_pos hi] at z
          exact up c ⟨i, z⟩
        · exact absurd z nz
      · obtain ⟨cn, fl, w, A, e1, e2', e3, r⟩ := xr
        refine ⟨cn, fl, w, A, e1, e2', e3, r.imp id fun ⟨dd, y, d1, d2, d3⟩ => ⟨dd, y, d1, d2, d3.ban fun c z => ?_⟩⟩
        rcases z with z | z
        · obtain ⟨i, hi, z⟩ := own_cut z
          unfold bothF at z
          rw [if_pos hi] at z
          exact .inr (.inr ⟨i, hi, z⟩)
        · exact .inr (.inl (RR c z))
theorem ev_call {f : Nat} {x : Str} {p : Pos} {hot : Bool} (F : Callee hot X k C.call x f) (tk : L2N.Takes X W) (hg : Gl X x) (ha : PA X (e :: es) (tOs k W C ies)) (hs : noStars (e :: es) = true) (hdb : (x == ("__debug__" : Str)) = false) : PE X (.Call (.Name x p) (e :: es) [] pos) (tE k W C (.call f ies)) := by
  obtain ⟨kk, fa, fd, ps, F, hm, hk, hb⟩ := F.ex
  have hs' : (!isStar e && noStars es) = true := hs
  rw [Bool.and_eq_true] at hs'
  rcases F with ⟨_, F, hr⟩ | ⟨q, _, F, hr, hot, hq⟩
  · exact imE (pe_callG F hr hg hm hk hb (fun σ => L2N.passAt tk σ) ha hdb (star_cons (by simpa using hs'.1) _) (star_none hs'.2 _ _)) fun _ _ _ h => rd_call h
  · exact imE (pe_callP F hr hot hq hg hm hk hb (fun σ => L2N.passAt tk σ) ha hdb (star_cons (by simpa using hs'.1) _) (star_none hs'.2 _ _)) fun _ _ _ h => rd_call h
theorem tos_nil {σ : L2.St} {H : Hp} {P : List V → Hp → Prop} (h : tOs k W C .nil σ H P) : P [] H := by
  obtain ⟨env, fo, R, ok, o⟩ := h
  unfold PL.opds at o
  exact o [] H ⟨fo, R, [], .refl ok, ⟨rfl, rfl⟩, .nil⟩
/-- f() -/
theorem ev_call0 {f : Nat} {x : Str} {p : Pos} (F : Callee false X k C.call x f) (tk : L2N.Takes X W) (hg : Gl X x) (hdb : (x == ("__debug__" : Str)) = false) : PE X (.Call (.Name x p) [] [] pos) (tE k W C (.call f .nil)) := by
  obtain ⟨kk, fa, fd, ps, F, hm, hk, hb⟩ := F.ex
  rcases F with ⟨_, F, hr⟩ | ⟨q, z, _⟩
  · exact imE (pe_callG0 F hr hg hm hk hb (fun σ => L2N.passAt tk σ) hdb) fun _ _ _ h => tos_nil (rd_call h)
  · cases z
/-! ### isinstance -/
def tagNm : PL.Tg → String
  | .non => "NoneType"
  | .bl => "bool"
  | .int => "int"
  | .str => "str"
  | .tup => "tuple"
  | .lst => "list"
def clsNm : PL.Cls → Option String
  | .int => some "int"
  | .bool => some "bool"
  | .str => some "str"
  | .tuple => some "tuple"
  | .list => some "list"
  | .own _ => none
theorem kit_tag {K : PySem.W.Frag} {t : PL.Tg} {c : PL.Cls} {n : String} {r : Bool} (h : PL.tagIs t c = some r) (hc : clsNm c = some n) : PySem.W.kitOne K (.type (tagNm t)) (.type n) = some r := by
  cases c <;> cases hc <;> cases t <;> cases h <;> exact kit_ty (by decide +kernel)
theorem tag_rep {m : MV} {x : V} {O : List Addr} {t : PL.Tg} (h : PL.tagOf m = some t) (r : RepM k H B m x O) : TyX k.K H x (.type (tagNm t)) := by
  unfold PL.tagOf at h
  split at h <;> try contradiction
  · cases h
    have e : x = _ := r.1
    subst e; exact .base .non
  · cases h
    have e : x = _ := r.1
    subst e; exact .base (.bl _)
  · cases h
    have e : x = _ := r.1
    subst e; exact .base (.int _)
  · cases h
    have e : x = _ := r.1
    subst e; exact .base (.str _)
  · cases h
    obtain ⟨a, vs, e, sq, _, _⟩ := r.1
    subst e
    rcases sq with (sq | ⟨o, sq⟩) | ⟨o, _, _, h1, h2, _⟩
    · exact .base (.tup sq)
    · exact .fTuple sq
    · exact .kTuple h1 h2
  · cases h
    obtain ⟨a, vs, e, sq, _, _⟩ := r.1
    subst e
    exact .base (.lst sq)
  · cases h
    obtain ⟨a, e, sq⟩ := r.1
    subst e
    rcases sq with ⟨o, sq⟩ | ⟨o, _, _, h1, h2, _⟩
    · exact .base (.frz sq)
    · exact .kList h1 h2
  · cases h
    obtain ⟨a, vs, O', e, sq, _, _⟩ := r
    subst e
    exact .base (.lst sq)
theorem isa_tag {par : List (Txt × Txt)} {m : MV} {c : PL.Cls} {n : String} {r : Bool} (h : PL.isaF par m c = some r) (hc : clsNm c = some n) : ∃ t, PL.tagOf m = some t ∧ PL.tagIs t c = some r := by
  unfold PL.isaF at h
  split at h
  · cases hc
  · split at h
    · rename_i t ht; exact ⟨t, ht, h⟩
    · cases h
def clsNms : List PL.Cls → Option (List String)
  | [] => some []
  | c :: r => match clsNm c, clsNms r with
    | some n, some ns => some (n :: ns)
    | _, _ => none
theorem isas_any {K : PySem.W.Frag} {par : List (Txt × Txt)} {m : MV} {t : PL.Tg} (ht : PL.tagOf m = some t) : ∀ {cs : List PL.Cls} {ns : List String} {r : Bool}, PL.isasF par m cs = some r → clsNms cs = some ns → PySem.W.kitAny K (.type (tagNm t)) (ns.map Value.type) = some r
  | [], ns, r, h, g => by cases h; cases g; exact kitAny_nil
  | c :: cs, ns, r, h, g => by
    unfold clsNms at g
    cases g1 : clsNm c with
    | none => rw [g1] at g; cases g
    | some n => cases g2 : clsNms cs with
      | none => rw [g1, g2] at g; cases g
      | some ns' =>
        rw [g1, g2] at g
        cases g
        unfold PL.isasF at h
        cases h1 : PL.isaF par m c with
        | none => rw [h1] at h; cases h
        | some a => cases h2 : PL.isasF par m cs with
          | none => rw [h1, h2] at h; cases h
          | some b =>
            rw [h1, h2] at h
            cases h
            obtain ⟨t', ht', hi⟩ := isa_tag h1 g1
            rw [ht] at ht'
            cases ht'
            refine kitAny_cons (b := a) (kit_tag hi g1) (fun ha => ?_) (fun ha => ?_)
            · rw [isas_any ht h2 g2, ha]; rfl
            · rw [ha]; rfl
/-- isinstance(x, T) -/
theorem ev_isa1 {cl : PL.Cls} {n : String} {x : Str} {p p3 : Pos} (hK : X.K = k.K) (hc : clsNm cl = some n) (ha : PE X a (tO k W C ia)) (hb : PE X b (tC (.ty n))) (sa : noStars [a, b] = true) (hg : Gl X "isinstance") (hm : X.mg "isinstance" = none) :
    PE X (.Call (.Name "isinstance" p) [a, b] [] pos) (tE k W C (.isa ia [cl])) := by
  have s1 : isStar a = false := by
    have : (!isStar a && (!isStar b && true)) = true := sa
    simp at this; exact this.1
  have s2 : isStar b = false := by
    have : (!isStar a && (!isStar b && true)) = true := sa
    simp at this; exact this.2
  refine imE (pe_callB call_isi hg hm rfl (pa_cons ha (pa_cons hb pa_nil (star_cons s2 _)) (star_cons s1 _)) (by decide) (by decide) (star_cons s1 _) (star_none (by show (!isStar b && true) = true; rw [s2]; rfl) _ _)) fun σ H Q ⟨env, fo, R, ok, o⟩ => ?_
  unfold PL.ev at o
  refine ⟨env, fo, R, ok, o.bind.imp fun o1 e1 q1 x H1 p1 => ?_⟩
  obtain ⟨fo1, R1, O1, a1, r1, t1⟩ := p1
  cases hg1 : o1.get e1 with
  | none => rw [hg1] at q1; exact q1.elim
  | some u =>
    rw [hg1] at q1
    change Outc _ _ _ _ _ _ _ (match PL.isasF C.par u [cl] with | some b => PL.Res.ok (MV.p (PV.bl b)) e1 | none => PL.Res.bad) at q1
    cases hi : PL.isasF C.par u [cl] with
    | none => rw [hi] at q1; exact q1.elim
    | some r =>
      rw [hi] at q1
      have hi' : PL.isaF C.par u cl = some r := by
        unfold PL.isasF at hi
        cases h1 : PL.isaF C.par u cl with
        | none => rw [h1] at hi; cases hi
        | some a0 =>
          rw [h1] at hi
          cases hi
          rw [Bool.or_false]
      obtain ⟨tg, ht, hk⟩ := isa_tag hi' hc
      obtain ⟨O', r'⟩ := r1.look a1.ok hg1
      rw [hK]
      exact ⟨x, .ty n, _, _, r, rfl, .ty n, tag_rep ht r', kit_tag hk hc, q1 _ _ (.pure a1 rfl)⟩
theorem clsV_all : ∀ ns : List String, Paired ClsV (ns.map V.ty) (ns.map Value.type)
  | [] => .nil
  | n :: r => .cons (.ty n) (clsV_all r)
/-- isinstance(x, (T, U, ..)) -/
theorem ev_isaT {cs : List PL.Cls} {ns : List String} {x1} {p p3 : Pos} (hK : X.K = k.K) (hc : clsNms cs = some ns) (hn : ns.length ≤ 100) (hne : cs ≠ []) (ha : PE X a (tO k W C ia)) (hb : PA X es (fun _ H Q => Q (ns.map V.ty) H)) (sa : isStar a = false) (hg : Gl X "isinstance") (hm : X.mg "isinstance" = none) :
    PE X (.Call (.Name "isinstance" p) [a, .Tuple es x1 p3] [] pos) (tE k W C (.isa ia cs)) := by
  refine imE (pe_callB call_isiT hg hm rfl (pa_cons ha (pa_cons (pe_tup hb) pa_nil (star_cons rfl _)) (star_cons sa _)) (by decide) (by decide) (star_cons sa _) (star_none rfl _ _)) fun σ H Q ⟨env, fo, R, ok, o⟩ => ?_
  unfold PL.ev at o
  refine ⟨env, fo, R, ok, o.bind.imp fun o1 e1 q1 x H1 p1 => ?_⟩
  obtain ⟨fo1, R1, O1, a1, r1, t1⟩ := p1
  cases hg1 : o1.get e1 with
  | none => rw [hg1] at q1; exact q1.elim
  | some u =>
    rw [hg1] at q1
    change Outc _ _ _ _ _ _ _ (match PL.isasF C.par u cs with | some b => PL.Res.ok (MV.p (PV.bl b)) e1 | none => PL.Res.bad) at q1
    cases hi : PL.isasF C.par u cs with
    | none => rw [hi] at q1; exact q1.elim
    | some r =>
      rw [hi] at q1
      refine ⟨len_ok (by rw [List.length_map]; omega), fun tp hp => ?_⟩
      obtain ⟨O', r'⟩ := r1.look a1.ok hg1
      have q := q1 (.bl r) _ (.pure (a1.lay (o := .tup (ns.map V.ty)) hp) rfl)
      rw [hK]
      cases cs with
      | nil => exact absurd rfl hne
      | cons c0 cs =>
        have h0 := hi
        unfold PL.isasF at h0
        cases h1 : PL.isaF C.par u c0 with
        | none => rw [h1] at h0; cases h0
        | some b0 =>
          have hc0 := hc
          unfold clsNms at hc0
          cases g1 : clsNm c0 with
          | none => rw [g1] at hc0; cases hc0
          | some n0 =>
            obtain ⟨tg, ht, _⟩ := isa_tag h1 g1
            exact ⟨x, tp, _, _, _, r, rfl, upd_same, clsV_all ns, tag_rep ht (r'.lay hp), isas_any ht hi hc, q⟩
end
end LB

end
section
set_option Elab.async false
set_option linter.all false
set_option maxRecDepth 100000
set_option maxHeartbeats 1000000
/-! Layer B, f: what a loop walks. -/
namespace LB
open PySem PySem.Spec PyProof.Rows L2
open PL (PV MV Txt IE IEs IT II IS ISs)
section
variable {X : Cx} {k : Kx} {W : WX} {C : PL.Ctx} {R R' : Addr → Prop} {σ τ : L2.St} {H H' : Hp} {own B : Addr → Prop} {env env' env0 rs : PL.Env} {fo : Nat → List Addr}
variable {e a b c tg : Expr} {es : List Expr} {ie ia ib ic : IE} {ies : IEs} {pos p p2 : Pos} {t u : IT} {ii : II}
def iSeq (K : PySem.W.Frag) (te : TE) : TI := fun σ H R => te σ H fun x H1 => (∃ a, x = .ref a ∧ (∃ xs, SqL K H1 a xs) ∧ R (Itl K a) H1) ∨ (∃ a, x = .ref a ∧ (∃ xs, SqT K H1 a xs) ∧ R (Itt K a) H1) ∨ ∃ z, x = .str z ∧ R (Its z) H1
theorem pi_seq {te : TE} (he : PE X e te) : PI X tg e (iSeq X.K te) := by
  constructor
  intro pins s σ H Rr I0 h0
  apply thn (he.run pins s σ H _ I0 h0)
  rintro v s1 ⟨x, H1, I1, r1, z⟩
  rcases z with ⟨a, rfl, ⟨xs, sq⟩, q⟩ | ⟨a, rfl, ⟨xs, sq⟩, q⟩ | ⟨z, rfl, q⟩
  · cases r1
    obtain ⟨its, _, pl, _⟩ := I1.list sq
    exact wpAny_pyIter_list pl.isList (pi_one (tk := s1.toks) I1 _ (turn_list a _) ⟨_, Heap.get?_push_size _ rfl, rfl, rfl⟩ q)
  · cases r1
    obtain ⟨its, _, pl, _⟩ := I1.tuple sq
    exact wpAny_pyIter_tuple (show s1.heap.IsTuple a its.toArray from pl) (pi_one (tk := s1.toks) I1 _ (turn_tuple a _) ⟨_, Heap.get?_push_size _ rfl, rfl, rfl⟩ q)
  · obtain ⟨t, rfl⟩ := r1
    cases asc : z.cps.all (· < 128) with
    | false => exact wpAny_pyIter_wide asc (pi_one (tk := s1.toks) I1 _ (turn_str _ z t "str_iterator" (.inr rfl)) ⟨_, Heap.get?_push_size _ rfl, rfl, rfl⟩ q)
    | true => exact wpAny_pyIter_ascii asc (pi_one (tk := s1.toks) I1 _ (turn_str _ z t "str_ascii_iterator" (.inl rfl)) ⟨_, Heap.get?_push_size _ rfl, rfl, rfl⟩ q)
/-- the items are walked, whatever happens to what slots own -/
def WOk (k : Kx) (H : Hp) (fo : Nat → List Addr) (B : Addr → Prop) (items : List PV) (J : It) : Prop :=
  ∃ vs G, RepPs k H B items vs ∧ Walk J vs.length G (YAt vs) ∧ ∀ H', (∀ c o, H c = some o → ¬ Own fo c → H' c = some o) → G H'
def PostI (k : Kx) (R : Addr → Prop) (σ : L2.St) (H : Hp) (own : Addr → Prop) (env' : PL.Env) (w : PL.Walk) (J : It) (H' : Hp) : Prop :=
  ∃ fo R', At k R σ H own env' fo R' H' ∧ WOk k H' fo (bn fo R') w.items J ∧ ∀ i m, w.lent = some (i, m) → env'.at i = none ∧ i < env'.length ∧ ∃ x O, σ[i]? = some (some x) ∧ RepM k H' (bn fo R') m x O ∧ Tmp R R' O
def tIt (k : Kx) (W : WX) (C : PL.Ctx) (ii : II) : TI := fun σ H Q => ∃ env fo R, EnvOk k R H env σ fo ∧ Outc k W R σ H (Own fo) (fun w env' => ∀ J H', PostI k R σ H (Own fo) env' w J H' → Q J H') (PL.evI C ii env)
theorem imI {t t' : TI} (h : PI X tg e t) (i : ∀ σ H Q, t' σ H Q → t σ H Q) : PI X tg e t' := ⟨fun pins s σ H Q I z => h.run pins s σ H Q I (i σ H Q z)⟩
/-- a value's items -/
theorem seq_walk (ok : EnvOk k R H env σ fo) {v : PV} {l : List PV} {x : V} {Q : It → Hp → Prop} (h : PL.seqP v = some l) (r : RepP k H (bn fo R) v x) (q : ∀ J, WOk k H fo (bn fo R) l J → Q J H) :
    (∃ a, x = .ref a ∧ (∃ xs, SqL k.K H a xs) ∧ Q (Itl k.K a) H) ∨ (∃ a, x = .ref a ∧ (∃ xs, SqT k.K H a xs) ∧ Q (Itt k.K a) H) ∨ ∃ z, x = .str z ∧ Q (Its z) H := by
  unfold PL.seqP at h
  split at h <;> try contradiction
  · cases h
    obtain ⟨a, vs, e, sq, _, t⟩ := r
    refine .inr (.inl ⟨a, e, ⟨vs, sq⟩, q _ ⟨vs, fun H' => SqT k.K H' a vs, t, walk_tup, fun H' hk => ?_⟩⟩)
    rcases sq with (sq | ⟨o, sq⟩) | sq
    · refine .inl (.inl (hk a _ sq fun z => ?_))
      rcases ok.chg a _ z sq with ⟨_, e⟩ | ⟨_, e⟩ | ⟨_, e⟩ <;> cases e
    · refine .inl (.inr ⟨o, hk a _ sq fun z => ?_⟩)
      rcases ok.chg a _ z sq with ⟨_, e⟩ | ⟨_, e⟩ | ⟨_, e⟩ <;> cases e
    · exact .inr sq
  · cases h
    obtain ⟨a, vs, e, sq, nb, t⟩ := r
    exact .inl ⟨a, e, ⟨vs, SqL.of sq⟩, q _ ⟨vs, fun H' => SqL k.K H' a vs, t, walk_list, fun H' hk => SqL.of (hk a _ sq fun z => nb (.inl z))⟩⟩
  · rename_i s
    cases h
    refine .inr (.inr ⟨strOf s, r, q _ ⟨s.map fun c => .str (strOf [c]), fun _ => True, ?_, ?_, fun _ _ => trivial⟩⟩)
    · clear r q
      induction s with
      | nil => rfl
      | cons c s ih => exact ⟨_, _, rfl, rfl, ih⟩
    · have hs : (s.map fun c => V.str (strOf [c])).length = (strOf s).cps.size := by
        rw [List.length_map]; exact (strOf_len s).symm
      rw [hs]
      refine walk_str.mono (fun _ h => h) fun i H x H' hi _ y => ⟨y.1, ?_⟩
      obtain ⟨c, hc, e⟩ := y.2
      subst e
      have hc' : s[i]? = some c := by
        have : (strOf s).cps[i]? = s[i]? := by unfold strOf; simp
        rw [← this]; exact hc
      rw [List.getElem?_map, hc']; rfl
theorem ei_val (hK : X.K = k.K) (h : PE X e (tE k W C ie)) : PI X tg e (tIt k W C (.val ie)) := imI (pi_seq h) fun σ H Q ⟨env, fo, R, ok, o⟩ => by
  unfold PL.evI at o
  refine ⟨env, fo, R, ok, o.bind.imp fun v e1 q1 x H1 p1 => ?_⟩
  cases hs : PL.seqP (PL.frz v) with
  | none => rw [hs] at q1; exact q1.elim
  | some l =>
    rw [hs] at q1
    obtain ⟨fo', a2, r2⟩ := p1.frz
    rw [hK]
    exact seq_walk a2.ok hs r2 fun J hw => q1 J H1 ⟨fo', R, a2, hw, fun i m z => nomatch z⟩
/-- a slot's own list goes out of its slot: it is ours -/
theorem EnvOk.out (e : EnvOk k R H env σ fo) {i : Nat} {m : MV} (h : env.at i = some m) : EnvOk k (fun a => R a ∨ a ∈ fo i) H (env.set i none) σ (fset fo i []) ∧ (∀ a, bn (fset fo i []) (fun a => R a ∨ a ∈ fo i) a → bn fo R a) := by
  have ow : ∀ a, bn (fset fo i []) (fun a => R a ∨ a ∈ fo i) a → bn fo R a := fun a z => by
    rcases z with z | z | z
    · exact .inl (own_fset z)
    · exact .inr z
    · exact .inl ⟨i, z⟩
  refine ⟨e.put (S := fun _ => False) (at_lt h) rfl (fun _ _ => rfl) (stay_refl fun _ => id) (fun a _ nb => ⟨id, fun z => nb (ow a z)⟩) (fun _ _ _ _ => id) (fun m' q => by cases q) (fun _ => rfl) List.nodup_nil (fun _ _ _ _ z => nomatch z) (fun a ha => nomatch ha) (fun j a hj ha z => ?_) fun a z => ?_, ow⟩
  · rcases z with z | z
    · exact e.rs j a ha z
    · exact hj (e.dj j i a ha z)
  · exact z.elim (e.al a) fun z => e.alO ⟨i, z⟩
theorem ei_mv {i : Nat} {x : Str} (hK : X.K = k.K) (hN : X.N[i]? = some x) (hv : Vis X.env.scope x) (hd : (x == ("__debug__" : Str)) = false) (hcd : (x == ("__classdict__" : Str)) = false) : PI X tg (.Name x pos) (tIt k W C (.mv i)) :=
  imI (pi_seq (pe_var hN hv hd hcd)) fun σ H Q ⟨env, fo, R, ok, o⟩ => by
    unfold PL.evI at o
    cases hm : env.at i with
    | none => rw [hm] at o; exact o.elim
    | some m =>
      rw [hm] at o
      obtain ⟨y, g, r⟩ := ok.rep i m hm
      refine ⟨y, g, ?_⟩
      rw [hK]
      cases m with
      | p v =>
        change Outc _ _ _ _ _ _ _ (match PL.seqP v with | some l => _ | none => _) at o
        cases hs : PL.seqP v with
        | none => rw [hs] at o; exact o.elim
        | some l =>
          rw [hs] at o
          exact seq_walk ok hs r.1 fun J hw => o J H ⟨fo, R, .refl ok, hw, fun i m z => nomatch z⟩
      | d t ks vs => exact o.elim
      | l xs =>
        obtain ⟨a, vs, O', e, sq, t, eo⟩ := id r
        refine .inl ⟨a, e, ⟨vs, SqL.of sq⟩, ?_⟩
        change Outc _ _ _ _ _ _ _ (match PL.unpL xs with | some l => _ | none => _) at o
        cases hu : PL.unpL xs with
        | some l =>
          rw [hu] at o
          obtain ⟨e1, ow⟩ := ok.out hm
          have r' := r.ban ow
          obtain ⟨a', vs', O'', e', sq', t', eo'⟩ := id r'
          have hv : vs' = vs := by
            rw [e] at e'
            cases e'
            rw [sq] at sq'
            cases sq'; rfl
          subst hv
          have ha : a ∈ fo i := by rw [eo]; exact List.mem_cons_self
          refine o _ H ⟨_, _, ⟨e1, fun c z => .inl z, ⟨fun _ _ q _ => q, fun c z => ?_⟩⟩, ⟨vs', fun H' => SqL k.K H' a vs', (unpL_rep hu t').1, walk_list, fun H' hk => SqL.of (hk a _ sq fun z => ?_)⟩, fun j m z => ?_⟩
          · rcases z with z | ⟨z | z, nz⟩
            · exact .inl (own_fset z)
            · exact absurd z nz
            · exact .inl ⟨i, z⟩
          · obtain ⟨j, z⟩ := z
            by_cases hj : j = i
            · subst hj; rw [fset_same] at z; cases z
            · rw [fset_ne hj] at z; exact hj (ok.dj j i a z ha)
          · cases z
            exact ⟨at_set (at_lt hm) none, by rw [List.length_set]; exact at_lt hm, y, fo i, g, r', ok.nd i, fun c hc => ⟨.inr hc, ok.rs i c hc⟩⟩
        | none =>
          rw [hu] at o
          have fr := ok.freeze hm
          obtain ⟨y', g', r'⟩ := fr.rep i _ (at_set (at_lt hm) _)
          rw [g] at g'
          cases g'
          obtain ⟨a', vs', e', sq', nb, t'⟩ := r'.1
          have hv : vs' = vs := by
            rw [e] at e'
            cases e'
            rw [sq] at sq'
            cases sq'; rfl
          subst hv
          have ea : a' = a := by rw [e] at e'; cases e'; rfl
          subst ea
          exact o _ H ⟨_, R, .less ok fr fun c z => own_fset z, ⟨vs', fun H' => SqL k.K H' a' vs', t', walk_list, fun H' hk => SqL.of (hk a' _ sq fun z => nb (.inl z))⟩, fun j m z => nomatch z⟩
/-- ints in a row -/
theorem rng_walk {lo : Int} {n : Nat} : WOk k H fo B (PL.rngL lo n 1) (Itr lo n) := by
  have hl : (PL.rngL lo n 1).length = n := by unfold PL.rngL; simp
  refine ⟨(List.range n).map fun i => V.int (lo + (i : Nat)), fun _ => True, ?_, ?_, fun _ _ => trivial⟩
  · unfold PL.rngL
    have key : ∀ l : List Nat, RepPs k H B (l.map fun (i : Nat) => PV.int (lo + (i : Int) * 1)) (l.map fun i => V.int (lo + (i : Nat))) := fun l => by
      induction l with
      | nil => rfl
      | cons i l ih => exact ⟨_, _, rfl, by show V.int _ = V.int _; rw [Int.mul_one], ih⟩
    exact key _
  · have hl2 : ((List.range n).map fun i => V.int (lo + (i : Nat))).length = n := by simp
    rw [hl2]
    refine walk_range.mono (fun _ h => h) fun i H x H' hi _ y => ⟨y.1, ?_⟩
    rw [y.2, List.getElem?_map, List.getElem?_range hi]; rfl
theorem small_of {i : Int} (h : PL.small62 i = true) : -(2 ^ 62) ≤ i ∧ i < 2 ^ 62 := by
  unfold PL.small62 at h
  simpa using h
theorem ei_rng1 (hg : Gl X "range") (hm : X.mg "range" = none) (ha : PE X a (tE k W C ia)) (hs : noStars [a] = true) : PI X tg (.Call (.Name "range" p) [a] [] pos) (tIt k W C (.rng1 ia)) := by
  have s1 : isStar a = false := by
    have : (!isStar a && true) = true := hs
    simpa using this
  refine imI (pi_range1 hg hm (pa_cons ha pa_nil (star_cons s1 _)) (star_cons s1 _)) fun σ H Q ⟨env, fo, R, ok, o⟩ => ?_
  unfold PL.evI at o
  refine ⟨env, fo, R, ok, o.bind.imp fun v e1 q1 x H1 p1 => ?_⟩
  split at q1
  · rename_i n
    obtain ⟨fo1, R1, O1, a1, r1, t1⟩ := p1
    split at q1
    · rename_i hs
      obtain ⟨h1, h2⟩ := small_of hs
      have ex : x = V.int n := r1.1
      subst ex
      exact ⟨n, rfl, h1, h2, q1 _ _ ⟨fo1, R1, a1, rng_walk, fun i m z => nomatch z⟩⟩
    · exact q1.elim
  · exact q1.elim
theorem ei_rng2 (hg : Gl X "range") (hm : X.mg "range" = none) (ha : PE X a (tE k W C ia)) (hb : PE X b (tE k W C ib)) (hs : noStars [a, b] = true) : PI X tg (.Call (.Name "range" p) [a, b] [] pos) (tIt k W C (.rng2 ia ib)) := by
  have hs' : (!isStar a && (!isStar b && true)) = true := hs
  simp only [Bool.and_eq_true, Bool.not_eq_true'] at hs'
  obtain ⟨s1, s2, _⟩ := hs'
  refine imI (pi_range2 hg hm (pa_cons ha (pa_cons hb pa_nil (star_cons s2 _)) (star_cons s1 _)) (by rw [star_cons s1, star_cons s2]; rfl) (star_cons s2 _)) fun σ H Q ⟨env, fo, R, ok, o⟩ => ?_
  unfold PL.evI at o
  refine ⟨env, fo, R, ok, o.bind.imp fun v e1 q1 x H1 p1 => ?_⟩
  obtain ⟨fo1, R1, O1, a1, r1, t1⟩ := p1
  refine ⟨e1, fo1, R1, a1.ok, (q1.bind.step a1 fun _ _ z => z).imp fun w e2 q2 y H2 p2 => ?_⟩
  obtain ⟨fo2, R2, O2, a2, r2, t2⟩ := p2
  have r1' := At.val a1.ok a2 (fun a h => (t1.mem a h).1) r1
  split at q2
  · rename_i m n
    split at q2
    · rename_i hs
      rw [Bool.and_eq_true] at hs
      obtain ⟨h1, h2⟩ := small_of hs.1
      obtain ⟨h3, h4⟩ := small_of hs.2
      have ex : x = V.int m := r1'.1
      have ey : y = V.int n := r2.1
      subst ex ey
      exact ⟨m, n, rfl, ⟨h1, h2, h3, h4⟩, q2 _ _ ⟨fo2, R2, a1.step a2, rng_walk, fun i m z => nomatch z⟩⟩
    · exact q2.elim
  · exact q2.elim
end
end LB

end
section
set_option Elab.async false
set_option linter.all false
set_option maxRecDepth 100000
set_option maxHeartbeats 1000000
/-! Layer B, g: statements. -/
namespace LB
open PySem PySem.Spec PyProof.Rows L2
open PL (PV MV Txt IE IEs IT II IS ISs)
/-- the slots of the caller's lists stand -/
def Lk (lock : List Nat) (σ σ' : L2.St) : Prop := σ'.length = σ.length ∧ ∀ i, i ∈ lock → σ'[i]? = σ[i]?
theorem Lk.refl {lock : List Nat} {σ : L2.St} : Lk lock σ σ := ⟨rfl, fun _ _ => rfl⟩
theorem Lk.trans {lock : List Nat} {σ σ' σ2 : L2.St} (a : Lk lock σ σ') (b : Lk lock σ' σ2) : Lk lock σ σ2 := ⟨b.1.trans a.1, fun i h => (b.2 i h).trans (a.2 i h)⟩
section
variable {X : Cx} {k : Kx} {W : WX} {C : PL.Ctx} {R R' R1 R2 : Addr → Prop} {σ σ' τ : L2.St} {H H' H1 H2 : Hp} {own B : Addr → Prop} {env env' env0 env1 env2 rs : PL.Env} {fo fo1 fo2 : Nat → List Addr} {lock : List Nat}
variable {e a b c tg : Expr} {es : List Expr} {ie ia ib ic : IE} {ies : IEs} {pos p p2 : Pos} {t u : IT} {ii : II} {st : Stmt} {sts : List Stmt} {is : IS} {iss : ISs}
theorem At.go (a : At k R σ H own env1 fo1 R1 H1) (b : At k R1 σ' H1 (Own fo1) env2 fo2 R2 H2) : At k R σ' H own env2 fo2 R2 H2 := by
  have up : ∀ c, Own fo1 c ∨ H1 c = none → own c ∨ H c = none := fun c hc => by
    rcases hc with hc | hc
    · exact a.tr.new c (.inl hc)
    · cases q : H c with
      | none => exact .inr rfl
      | some o =>
        by_cases ho : own c
        · exact .inl ho
        · rw [a.tr.keep c o q ho] at hc; cases hc
  refine ⟨b.ok, fun c h => b.sub c (a.sub c h), ⟨fun c o h n => b.tr.keep c o (a.tr.keep c o h n) fun hc => ?_, fun c hc => ?_⟩⟩
  · rcases a.tr.new c (.inl hc) with z | z
    · exact n z
    · rw [z] at h; cases h
  · rcases hc with hc | ⟨h2, h3⟩
    · exact up c (b.tr.new c (.inl hc))
    · by_cases h1 : R1 c
      · exact a.tr.new c (.inr ⟨h1, h3⟩)
      · exact up c (b.tr.new c (.inr ⟨h2, h1⟩))
def PostS (k : Kx) (R : Addr → Prop) (σ : L2.St) (H : Hp) (own : Addr → Prop) (lock : List Nat) (env' : PL.Env) (σ' : L2.St) (H' : Hp) : Prop := Lk lock σ σ' ∧ ∃ fo', At k R σ' H own env' fo' R H'
def PostR (k : Kx) (R : Addr → Prop) (σ : L2.St) (H : Hp) (own : Addr → Prop) (lock : List Nat) (env' : PL.Env) (v : MV) (x : V) (H' : Hp) : Prop := ∃ σ', Lk lock σ σ' ∧ PostV k R σ' H own env' v x H'
def OutS (k : Kx) (W : WX) (R : Addr → Prop) (σ : L2.St) (H : Hp) (own : Addr → Prop) (lock : List Nat) (D : Ends) : PL.Res PL.Flow → Prop
  | .ok .nx env' => ∀ σ' H', PostS k R σ H own lock env' σ' H' → D.nx σ' H'
  | .ok .bk env' => ∀ σ' H', PostS k R σ H own lock env' σ' H' → D.bk σ' H'
  | .ok .ct env' => ∀ σ' H', PostS k R σ H own lock env' σ' H' → D.ct σ' H'
  | .ok (.rt v) env' => ∀ x H', PostR k R σ H own lock env' v x H' → D.rt x H'
  | .ex e env' => ∀ σ' cls d H', Lk lock σ σ' → PostX k R σ' H own env' e cls d H' → W cls d σ' H'
  | .bad => False
def tS (k : Kx) (W : WX) (C : PL.Ctx) (s : IS) : TS := fun D σ H => ∃ env fo R, EnvOk k R H env σ fo ∧ OutS k W R σ H (Own fo) C.lock D (PL.evS C s env)
def tSs (k : Kx) (W : WX) (C : PL.Ctx) (s : ISs) : TS := fun D σ H => ∃ env fo R, EnvOk k R H env σ fo ∧ OutS k W R σ H (Own fo) C.lock D (PL.evSs C s env)
theorem PostX.go (a : At k R σ H own env1 fo1 R1 H1) {env' : PL.Env} {e : PV} {cls : Value} {d : Option Addr} (p : PostX k R1 σ' H1 (Own fo1) env' e cls d H') : PostX k R σ' H own env' e cls d H' := by
  obtain ⟨fo, b, c, f, w, C, e1, e2, e3, r⟩ := p
  have s := (a.go b).drop (R' := R) (fun c h => a.sub c h) fun _ h => h
  refine ⟨fo, s, c, f, w, C, e1, e2, e3, ?_⟩
  rcases r with r | ⟨dd, y, h1, h2, r⟩
  · exact .inl r
  · exact .inr ⟨dd, y, h1, h2, r.ban fun q z => z.imp id fun z => a.sub q z⟩
theorem PostV.go (a : At k R σ H own env1 fo1 R1 H1) {v : MV} {x : V} (p : PostV k R1 σ' H1 (Own fo1) env2 v x H2) : PostV k R σ' H own env2 v x H2 := by
  obtain ⟨fo, R', O, b, r, t⟩ := p
  exact ⟨fo, R', O, a.go b, r, t.nd, fun c hc => ⟨(t.mem c hc).1, fun z => (t.mem c hc).2 (a.sub c z)⟩⟩
theorem PostS.go (a : At k R σ H own env1 fo1 R1 H1) (p : PostS k R1 σ H1 (Own fo1) lock env2 σ' H2) : PostS k R σ H own lock env2 σ' H2 := by
  obtain ⟨l, fo', b⟩ := p
  exact ⟨l, fo', (a.go b).drop (fun c h => a.sub c h) fun _ h => h⟩
/-- behind a first step -/
theorem OutS.step (a : At k R σ' H own env1 fo1 R1 H1) (l : Lk lock σ σ') {D : Ends} {r : PL.Res PL.Flow} (o : OutS k W R σ H own lock D r) : OutS k W R1 σ' H1 (Own fo1) lock D r := by
  cases r with
  | ok f e =>
    cases f with
    | nx => exact fun σ2 H2 p => o σ2 H2 ⟨l.trans p.1, (PostS.go a p).2⟩
    | bk => exact fun σ2 H2 p => o σ2 H2 ⟨l.trans p.1, (PostS.go a p).2⟩
    | ct => exact fun σ2 H2 p => o σ2 H2 ⟨l.trans p.1, (PostS.go a p).2⟩
    | rt v => exact fun x H2 ⟨σ2, l2, p⟩ => o x H2 ⟨σ2, l.trans l2, p.go a⟩
  | ex e ε => exact fun σ2 cls d H2 l2 p => o σ2 cls d H2 (l.trans l2) (p.go a)
  | bad => exact o
/-- an expression's outcome within a statement's -/
theorem OutS.bind {α : Type} {D : Ends} {r : PL.Res α} {f : α → PL.Env → PL.Res PL.Flow} (o : OutS k W R σ H own lock D (r.bind f)) : Outc k W R σ H own (fun a e => OutS k W R σ H own lock D (f a e)) r := by
  cases r with
  | ok a e => exact o
  | ex e ε => exact fun cls d H' p => o σ cls d H' .refl p
  | bad => exact o
theorem OutS.imp {D D' : Ends} {r : PL.Res PL.Flow} (o : OutS k W R σ H own lock D r) (h1 : ∀ ε, r = .ok .nx ε → ∀ σ' H', PostS k R σ H own lock ε σ' H' → D.nx σ' H' → D'.nx σ' H') (h2 : ∀ σ' H', D.bk σ' H' → D'.bk σ' H') (h3 : ∀ σ' H', D.ct σ' H' → D'.ct σ' H') (h4 : ∀ x H', D.rt x H' → D'.rt x H') : OutS k W R σ H own lock D' r := by
  cases r with
  | ok f e =>
    cases f with
    | nx => exact fun σ2 H2 p => h1 e rfl σ2 H2 p (o σ2 H2 p)
    | bk => exact fun σ2 H2 p => h2 _ _ (o σ2 H2 p)
    | ct => exact fun σ2 H2 p => h3 _ _ (o σ2 H2 p)
    | rt v => exact fun x H2 p => h4 _ _ (o x H2 p)
  | ex e ε => exact o
  | bad => exact o
/-! ### in a row -/
theorem ss_nil : PSs X [] (tSs k W C .nil) := imSs pss_nil fun D σ H ⟨env, fo, R, ok, o⟩ => by
  unfold PL.evSs at o
  exact o σ H ⟨.refl, fo, .refl ok⟩
theorem ss_cons (h1 : PS X st (tS k W C is)) (h2 : PSs X sts (tSs k W C iss)) : PSs X (st :: sts) (tSs k W C (.cons is iss)) := imSs (pss_cons h1 h2) fun D σ H ⟨env, fo, R, ok, o⟩ => by
  unfold PL.evSs at o
  refine ⟨env, fo, R, ok, ?_⟩
  cases hr : PL.evS C is env with
  | bad => rw [hr] at o; exact o
  | ex e ε => rw [hr] at o; exact o
  | ok f e1 =>
    rw [hr] at o
    cases f with
    | nx => exact fun σ' H' ⟨l, fo', a⟩ => ⟨e1, fo', R, a.ok, OutS.step a l o⟩
    | bk => exact o
    | ct => exact o
    | rt v => exact o
/-! ### the small ones -/
theorem ss_pass : PS X (.Pass pos) (tS k W C .pas) := imS ps_pass fun D σ H ⟨env, fo, R, ok, o⟩ => by
  unfold PL.evS at o
  exact o σ H ⟨.refl, fo, .refl ok⟩
theorem ss_brk : PS X (.Break pos) (tS k W C .brk) := imS ps_break fun D σ H ⟨env, fo, R, ok, o⟩ => by
  unfold PL.evS at o
  exact o σ H ⟨.refl, fo, .refl ok⟩
theorem ss_cnt : PS X (.Continue pos) (tS k W C .cnt) := imS ps_continue fun D σ H ⟨env, fo, R, ok, o⟩ => by
  unfold PL.evS at o
  exact o σ H ⟨.refl, fo, .refl ok⟩
theorem ss_ret0 : PS X (.Return none pos) (tS k W C .ret0) := imS ps_retN fun D σ H ⟨env, fo, R, ok, o⟩ => by
  unfold PL.evS at o
  exact o .non H ⟨σ, .refl, .pure (.refl ok) rfl⟩
theorem ss_ret (h : PE X e (tE k W C ie)) : PS X (.Return (some e) pos) (tS k W C (.ret ie)) := imS (ps_ret h) fun D σ H ⟨env, fo, R, ok, o⟩ => by
  unfold PL.evS at o
  exact ⟨env, fo, R, ok, o.bind.imp fun v e1 q x H1 p => q x H1 ⟨σ, .refl, p⟩⟩
theorem ss_rtv {i : Nat} {x : Str} {p : Pos} (hN : X.N[i]? = some x) (hv : Vis X.env.scope x) (hd : (x == ("__debug__" : Str)) = false) (hcd : (x == ("__classdict__" : Str)) = false) : PS X (.Return (some (.Name x p)) pos) (tS k W C (.rtv i)) :=
  imS (ps_ret (pe_var hN hv hd hcd)) fun D σ H ⟨env, fo, R, ok, o⟩ => by
    unfold PL.evS at o
    cases hm : env.at i with
    | none => rw [hm] at o; exact o.elim
    | some m =>
      rw [hm] at o
      obtain ⟨y, g, r⟩ := ok.rep i m hm
      refine ⟨y, g, ?_⟩
      have own : OutS k W R σ H (Own fo) C.lock D (if C.lock.contains i then PL.Res.bad else PL.Res.ok (PL.Flow.rt m) (env.set i none)) → D.rt y H := fun o => by
        split at o
        · exact o.elim
        · obtain ⟨e1, ow⟩ := ok.out hm
          refine o y H ⟨σ, .refl, _, _, fo i, ⟨e1, fun c z => .inl z, ⟨fun _ _ q _ => q, fun c z => ?_⟩⟩, r.ban ow, ok.nd i, fun c hc => ⟨.inr hc, ok.rs i c hc⟩⟩
          rcases z with z | ⟨z | z, nz⟩
          · exact .inl (own_fset z)
          · exact absurd z nz
          · exact .inl ⟨i, z⟩
      cases m with
      | p v => exact o y H ⟨σ, .refl, .pure (.refl ok) r.1⟩
      | l xs => exact own o
      | d t ks vs => exact own o
/-- temps are let go -/
theorem PostV.gone {v : MV} {x : V} (p : PostV k R σ H own env' v x H') : ∃ fo', At k R σ H own env' fo' R H' := by
  obtain ⟨fo', R', O, a, _, _⟩ := p
  exact ⟨fo', a.drop a.sub fun _ h => h⟩
theorem ss_exp (h : PE X e (tE k W C ie)) (hs : swapsWith e none pos.line X.env = pure false) : PS X (.Expr e pos) (tS k W C (.exp ie)) := imS (ps_expr h hs) fun D σ H ⟨env, fo, R, ok, o⟩ => by
  unfold PL.evS at o
  refine ⟨env, fo, R, ok, o.bind.imp fun v e1 q x H1 p => ?_⟩
  obtain ⟨fo', a⟩ := p.gone
  exact q σ H1 ⟨.refl, fo', a⟩
/-- a value comes into a slot -/
theorem At.store {R1 : Addr → Prop} {fo1 : Nat → List Addr} {v : MV} {x : V} {i : Nat} {O : List Addr} (a : At k R σ H own env' fo1 R1 H') (r : RepM k H' (bn fo1 R1) v x O) (t : Tmp R R1 O) (hi : i < env'.length) :
    At k R (σ.set i (some x)) H own (env'.set i (some v)) (fset fo1 i O) R H' ∧ ∀ c, bn (fset fo1 i O) R c → bn fo1 R1 c := by
  have e := a.ok
  have ow : ∀ c, bn (fset fo1 i O) R c → bn fo1 R1 c := fun c z => by
    rcases z with ⟨j, z⟩ | z
    · by_cases hj : j = i
      · subst hj; rw [fset_same] at z; exact .inr (t.mem c z).1
      · rw [fset_ne hj] at z; exact .inl ⟨j, z⟩
    · exact .inr (a.sub c z)
  have hσ : i < σ.length := by rw [← e.len]; exact hi
  refine ⟨⟨e.put (S := fun _ => False) hi (List.length_set) (fun j hj => List.getElem?_set_ne (fun z => hj z.symm)) (stay_refl fun _ => id) (fun c _ nb => ⟨id, fun z => nb (ow c z)⟩) (fun _ _ _ _ => id) (fun m' z => by
    cases z
    exact ⟨x, List.getElem?_set_self hσ, r.ban ow⟩) (fun z => by cases z) t.nd (fun j c _ hc hO => e.rs j c hc (t.mem c hO).1) (fun c hc z => (t.mem c hc).2 z) (fun j c _ hc z => e.rs j c hc (a.sub c z)) (fun c z => e.al c (a.sub c z)), fun _ h => h, ⟨a.tr.keep, fun c z => ?_⟩⟩, ow⟩
  rcases z with ⟨j, z⟩ | ⟨z, nz⟩
  · by_cases hj : j = i
    · subst hj; rw [fset_same] at z; exact a.tr.new c (.inr (t.mem c z))
    · rw [fset_ne hj] at z; exact a.tr.new c (.inl ⟨j, z⟩)
  · exact absurd z nz
theorem PostV.store {v : MV} {x : V} {i : Nat} (p : PostV k R σ H own env' v x H') (hi : i < env'.length) : ∃ fo', At k R (σ.set i (some x)) H own (env'.set i (some v)) fo' R H' := by
  obtain ⟨fo1, R1, O, a, r, t⟩ := p
  exact ⟨_, (a.store r t hi).1⟩
theorem putS_some {i : Nat} {v : MV} {ε ε' : PL.Env} (h : PL.putS lock ε i v = some ε') : i ∉ lock ∧ i < ε.length ∧ ε' = ε.set i (some v) := by
  unfold PL.putS at h
  split at h
  · cases h
  · rename_i hc
    cases h
    simp at hc
    exact ⟨hc.1, hc.2, rfl⟩
theorem lk_set {i : Nat} {x : V} (h : i ∉ lock) : Lk lock σ (σ.set i (some x)) := ⟨List.length_set, fun j hj => List.getElem?_set_ne (fun z => h (by rw [z]; exact hj))⟩
/-- name = value -/
theorem rd_set {i : Nat} {D : Ends} (h : tS k W C (.set i ie) D σ H) : tAsg (tE k W C ie) (gName i) D σ H := by
  obtain ⟨env, fo, R, ok, o⟩ := h
  unfold PL.evS at o
  refine ⟨env, fo, R, ok, o.bind.imp fun v e1 q x H1 p => ?_⟩
  cases hp : PL.putS C.lock e1 i v with
  | none => rw [hp] at q; exact q.elim
  | some e2 =>
    rw [hp] at q
    obtain ⟨h1, h2, h3⟩ := putS_some hp
    subst h3
    obtain ⟨fo', a⟩ := p.store h2
    exact q _ H1 ⟨lk_set h1, fo', a⟩
theorem ss_set {i : Nat} {x : Str} {pos' : Pos} (hN : X.N.Nodup) (hi : X.N[i]? = some x) (hx : Loc X.env.scope x) (he : PE X e (tE k W C ie)) (hs : swapsWith e (some (.Name x pos')) pos.line X.env = pure false) (hf : X.fn x = true ∨ X.env.scope.names.lookup x = some .local) :
    PS X (.Assign [.Name x pos'] e pos) (tS k W C (.set i ie)) := imS (ps_set hN hi hx he hs hf) fun _ _ _ h => rd_set h
theorem seqS {D : Ends} {r : PL.Res PL.Flow} (a1 : At k R σ H (Own fo) env1 fo1 R1 H1) (o : OutS k W R σ H (Own fo) lock D r) : OutS k W R1 σ H1 (Own fo1) lock D r := OutS.step a1 .refl o
theorem ss_ife {aa bb : List Stmt} {sa sb : ISs} (hc : PT X c (tT k W C t)) (ha : PSs X aa (tSs k W C sa)) (hb : PSs X bb (tSs k W C sb)) : PS X (.If c aa bb pos) (tS k W C (.ife t sa sb)) := imS (ps_if hc ha hb) fun D σ H ⟨env, fo, R, ok, o⟩ => by
  unfold PL.evS at o
  refine ⟨env, fo, R, ok, o.bind.imp fun d e q H1 p => ?_⟩
  obtain ⟨fo1, R1, a1⟩ := p
  cases d with
  | true => rw [if_pos rfl]; exact ⟨e, fo1, R1, a1.ok, seqS a1 q⟩
  | false => rw [if_neg Bool.false_ne_true]; exact ⟨e, fo1, R1, a1.ok, seqS a1 q⟩
/-- i, j = a, b -/
theorem rd_par {i j : Nat} {D : Ends} (h : tS k W C (.par i j ia ib) D σ H) : tPar i j (tCons (tE k W C ia) (tCons (tE k W C ib) tNil)) D σ H := by
  obtain ⟨env, fo, R, ok, o⟩ := h
  unfold PL.evS at o
  refine ⟨env, fo, R, ok, o.bind.imp fun v e1 q x H1 p1 => ?_⟩
  obtain ⟨fo1, R1, O1, a1, r1, t1⟩ := p1
  refine ⟨e1, fo1, R1, a1.ok, (q.bind.step a1 fun _ _ z => z).imp fun w e2 q2 y H2 p2 => ?_⟩
  refine ⟨x, y, rfl, ?_⟩
  obtain ⟨fo2, R2, O2, a2, r2, t2⟩ := p2
  have r1' := At.val a1.ok a2 (fun a h => (t1.mem a h).1) r1
  cases hp : PL.putS C.lock e2 i v with
  | none => rw [hp] at q2; exact q2.elim
  | some e3 =>
    rw [hp] at q2
    obtain ⟨h1, h2, h3⟩ := putS_some hp
    subst h3
    change OutS _ _ _ _ _ _ _ _ (match PL.putS C.lock (e2.set i (some v)) j w with | some ε4 => _ | none => _) at q2
    cases hp2 : PL.putS C.lock (e2.set i (some v)) j w with
    | none => rw [hp2] at q2; exact q2.elim
    | some e4 =>
      rw [hp2] at q2
      obtain ⟨g1, g2, g3⟩ := putS_some hp2
      subst g3
      have a12 := a1.step a2
      -- the first store keeps the second value as a temp: from the place with both temps
      have b1 : At k (fun c => R c ∨ c ∈ O2) σ H (Own fo) e2 fo2 R2 H2 := by
        refine ⟨a2.ok, fun c z => ?_, ⟨a12.tr.keep, fun c z => ?_⟩⟩
        · rcases z with z | z
          · exact a12.sub c z
          · exact (t2.mem c z).1
        · rcases z with z | ⟨z, nz⟩
          · exact a12.tr.new c (.inl z)
          · exact a12.tr.new c (.inr ⟨z, fun w => nz (.inl w)⟩)
      obtain ⟨a3, ow⟩ := b1.store (O := O1) r1' ⟨t1.nd, fun c hc => ⟨a2.sub c (t1.mem c hc).1, fun z => by
        rcases z with z | z
        · exact (t1.mem c hc).2 z
        · exact (t2.mem c z).2 (t1.mem c hc).1⟩⟩ h2
      have p2' : PostV k R (σ.set i (some x)) H (Own fo) (e2.set i (some v)) w y H2 := by
        refine ⟨_, fun c => R c ∨ c ∈ O2, O2, ⟨a3.ok, fun c z => .inl z, ⟨a3.tr.keep, fun c z => ?_⟩⟩, r2.ban ow, t2.nd, fun c hc => ⟨.inr hc, fun z => (t2.mem c hc).2 (a1.sub c z)⟩⟩
        rcases z with z | ⟨z, nz⟩
        · exact a3.tr.new c (.inl z)
        · rcases z with z | z
          · exact absurd z nz
          · exact a12.tr.new c (.inr ⟨(t2.mem c z).1, nz⟩)
      obtain ⟨fo4, a4⟩ := p2'.store g2
      exact q2 _ H2 ⟨(lk_set h1).trans (lk_set g1), fo4, a4⟩
end
end LB

end
section
set_option Elab.async false
set_option linter.all false
set_option maxRecDepth 100000
set_option maxHeartbeats 1000000
/-! Layer B, h: loops, targets. -/
namespace LB
open PySem PySem.Spec PyProof.Rows L2
open PL (PV MV Txt IE IEs IT II IS ISs)
section
variable {X : Cx} {k : Kx} {W : WX} {C : PL.Ctx} {R R' R1 R2 : Addr → Prop} {σ σ' τ : L2.St} {H H' H1 H2 : Hp} {own B : Addr → Prop} {env env' env0 env1 env2 rs : PL.Env} {fo fo1 fo2 : Nat → List Addr} {lock : List Nat}
variable {e a b c tg : Expr} {es : List Expr} {ie ia ib ic : IE} {ies : IEs} {pos p p2 : Pos} {t u : IT} {ii : II} {st : Stmt} {sts : List Stmt} {is : IS} {iss : ISs}
/-! ### while -/
theorem ss_wh {body : List Stmt} {sb : ISs} (hp : PassesOwn (model X.prog X.w) X.A X.env X.xe) (hc : PT X c (tT k W C t)) (hb : PSs X body (tSs k W C sb)) : PS X (.While c body [] pos) (tS k W C (.wh t sb)) := imS (ps_while hp hc hb) fun D σ H ⟨env, fo, R, ok, o⟩ => by
  unfold PL.evS at o
  refine ⟨fun m σ H => ∃ env fo, EnvOk k R H env σ fo ∧ OutS k W R σ H (Own fo) C.lock D (PL.whL (PL.evT C t) (PL.evSs C sb) m env), ⟨C.fuel, env, fo, ok, o⟩, ?_⟩
  rintro m σ H ⟨env, fo, ok, o⟩
  cases m with
  | zero => exact o.elim
  | succ n =>
    unfold PL.whL at o
    refine ⟨env, fo, R, ok, o.bind.imp fun d e1 q H1 p => ?_⟩
    obtain ⟨fo1, R1, a1⟩ := p
    have a1 := a1.drop (R' := R) a1.sub fun _ h => h
    cases d with
    | false => rw [if_neg Bool.false_ne_true]; exact q σ H1 ⟨.refl, fo1, a1⟩
    | true =>
      rw [if_pos rfl]
      refine ⟨fun σ H => ∃ env fo, EnvOk k R H env σ fo ∧ OutS k W R σ H (Own fo) C.lock D (PL.whL (PL.evT C t) (PL.evSs C sb) n env), fun σ' H' h => ⟨n, Nat.lt_succ_self n, h⟩, e1, fo1, R, a1.ok, ?_⟩
      have q := seqS a1 q
      cases hr : PL.evSs C sb e1 with
      | bad => rw [hr] at q; exact q
      | ex e ε => rw [hr] at q; exact q
      | ok f e2 =>
        rw [hr] at q
        cases f with
        | nx => exact fun σ' H' ⟨l, fo', a⟩ => ⟨e2, fo', a.ok, OutS.step a l q⟩
        | ct => exact fun σ' H' ⟨l, fo', a⟩ => ⟨e2, fo', a.ok, OutS.step a l q⟩
        | bk => exact q
        | rt v => exact q
/-! ### targets -/
def gNames : List Nat → TGs
  | [] => gNil
  | i :: r => gCons (gName i) (gNames r)
def gT (K : PySem.W.Frag) : PL.Tgt → TG
  | .nm i => gName i
  | .tp l => gTup K l.length (gNames l)
def tgSlots : PL.Tgt → List Nat
  | .nm i => [i]
  | .tp l => l
/-- a stored slot: nothing is owned there -/
theorem EnvOk.setP (e : EnvOk k R H env σ fo) {i : Nat} {v : PV} {x : V} (hi : i < env.length) (r : RepP k H (bn fo R) v x) : EnvOk k R H (env.set i (some (.p v))) (σ.set i (some x)) (fset fo i []) ∧ (∀ c, bn (fset fo i []) R c → bn fo R c) := by
  obtain ⟨a, ow⟩ := (At.refl e).store (v := .p v) (x := x) (i := i) (O := []) ⟨r, rfl⟩ .nil hi
  exact ⟨a.ok, ow⟩
theorem putSs_ok : ∀ {is : List Nat} {l : List PV} {vs : List V} {ε ε' : PL.Env} {σ : L2.St} {fo : Nat → List Addr} {Q : L2.St → Hp → Prop}, PL.putSs lock ε is l = some ε' → EnvOk k R H ε σ fo → RepPs k H (bn fo R) l vs →
    (∀ σ' fo', EnvOk k R H ε' σ' fo' → Lk lock σ σ' → (∀ a, Own fo' a → Own fo a) → (∀ j, j ∉ is → σ'[j]? = σ[j]?) → Q σ' H) → gNames is vs σ H Q ∧ is.length = vs.length
  | [], [], vs, ε, ε', σ, fo, Q, h, e, r, q => by
    cases h
    have r : vs = [] := r
    subst r
    exact ⟨⟨rfl, q σ fo e .refl (fun _ z => z) fun _ _ => rfl⟩, rfl⟩
  | [], _ :: _, _, _, _, _, _, _, h, _, _, _ => by cases h
  | _ :: _, [], _, _, _, _, _, _, h, _, _, _ => by cases h
  | i :: is, v :: l, vs, ε, ε', σ, fo, Q, h, e, r, q => by
    obtain ⟨x, vs', e1, r1, r2⟩ := r
    subst e1
    unfold PL.putSs at h
    cases hp : PL.putS lock ε i (.p v) with
    | none => rw [hp] at h; cases h
    | some ε1 =>
      rw [hp] at h
      obtain ⟨h1, h2, h3⟩ := putS_some hp
      subst h3
      obtain ⟨e2, ow⟩ := e.setP h2 r1
      obtain ⟨g1, g2⟩ := putSs_ok (Q := Q) h e2 (r2.stay (S := fun _ => False) (stay_refl fun _ => id) fun a _ nb => ⟨id, fun z => nb (ow a z)⟩) fun σ' fo' k1 k2 k3 k4 => q σ' fo' k1 ((lk_set h1).trans k2) (fun a z => own_fset (k3 a z)) fun j hj => by
        rw [k4 j fun z => hj (List.mem_cons_of_mem _ z), List.getElem?_set_ne]
        intro z
        exact hj (by rw [z]; exact List.mem_cons_self)
      exact ⟨⟨x, vs', rfl, g1⟩, by rw [List.length_cons, List.length_cons, g2]⟩
theorem putT_ok {tgt : PL.Tgt} {v : PV} {x : V} {ε ε' : PL.Env} {Q : L2.St → Hp → Prop} (h : PL.putT lock ε tgt v = some ε') (e : EnvOk k R H ε σ fo) (r : RepP k H (bn fo R) v x)
    (q : ∀ σ' fo', EnvOk k R H ε' σ' fo' → Lk lock σ σ' → (∀ a, Own fo' a → Own fo a) → (∀ j, j ∉ tgSlots tgt → σ'[j]? = σ[j]?) → Q σ' H) : gT k.K tgt x σ H Q := by
  cases tgt with
  | nm i =>
    have h : PL.putS lock ε i (.p v) = some ε' := h
    obtain ⟨h1, h2, h3⟩ := putS_some h
    subst h3
    obtain ⟨e2, ow⟩ := e.setP h2 r
    exact q _ _ e2 (lk_set h1) (fun a z => own_fset z) fun j hj => List.getElem?_set_ne fun z => hj (by rw [z]; exact List.mem_cons_self)
  | tp l =>
    cases v <;> first | cases h | skip
    rename_i w ps
    obtain ⟨a, vs, ex, sq, _, t⟩ := r
    have h : PL.putSs lock ε l ps = some ε' := h
    obtain ⟨g1, g2⟩ := putSs_ok (Q := Q) h e t q
    exact ⟨a, vs, ex, sq, g2.symm, g1⟩
/-- a, b = value -/
theorem rd_unp {l : List Nat} {D : Ends} (h : tS k W C (.unp l ie) D σ H) : tAsg (tE k W C ie) (gT k.K (.tp l)) D σ H := by
  obtain ⟨env, fo, R, ok, o⟩ := h
  unfold PL.evS at o
  refine ⟨env, fo, R, ok, o.bind.imp fun v e1 q x H1 p => ?_⟩
  obtain ⟨fo1, a1, r1⟩ := p.frz
  cases hp : PL.putT C.lock e1 (.tp l) (PL.frz v) with
  | none => rw [hp] at q; exact q.elim
  | some e2 =>
    rw [hp] at q
    exact putT_ok hp a1.ok r1 fun σ' fo' k1 k2 k3 _ => q σ' H1 ⟨k2, fo', k1, fun _ z => z, ⟨a1.tr.keep, fun c z => z.elim (fun z => a1.tr.new c (.inl (k3 c z))) fun z => absurd z.1 z.2⟩⟩
/-! ### for -/
/-- what is ours stands, to other slots too -/
theorem At.valg (e : EnvOk k R1 H1 env1 σ fo1) (b : At k R1 σ' H1 (Own fo1) env2 fo2 R2 H2) {m : MV} {x : V} {O : List Addr} (hO : ∀ a ∈ O, R1 a) (r : RepM k H1 (bn fo1 R1) m x O) : RepM k H2 (bn fo2 R2) m x O :=
  r.stay (S := Own fo1) ⟨b.tr.keep, e.chg⟩ (fun a ne nb => ⟨fun z => nb (.inl z), fun z => by
    have key : Own fo2 a ∨ (R2 a ∧ ¬ R1 a) := by
      rcases z with z | z
      · exact .inl z
      · exact .inr ⟨z, fun q => nb (.inr q)⟩
    rcases b.tr.new a key with z | z
    · exact nb (.inl z)
    · exact ne z⟩) fun a ha ⟨i, hi⟩ => e.rs i a hi (hO a ha)
/-- .. and comes back into its slot -/
theorem At.back {s : Nat} {m : MV} {x : V} {O : List Addr} (a1 : At k R σ H own env1 fo1 R1 H1) (tO : Tmp R R1 O) (r : RepM k H1 (bn fo1 R1) m x O) (b : At k R1 σ' H1 (Own fo1) env2 fo2 R2 H2) (hx : σ'[s]? = some (some x)) (hs : s < env2.length) :
    At k R σ' H own (env2.set s (some m)) (fset fo2 s O) (fun c => R2 c ∧ c ∉ O) H2 ∧ ∀ c, bn (fset fo2 s O) (fun c => R2 c ∧ c ∉ O) c → bn fo2 R2 c := by
  have r2 := At.valg a1.ok b (fun a h => (tO.mem a h).1) r
  have hO2 : ∀ c ∈ O, R2 c := fun c hc => b.sub c (tO.mem c hc).1
  have ow : ∀ c, bn (fset fo2 s O) (fun c => R2 c ∧ c ∉ O) c → bn fo2 R2 c := fun c z => by
    rcases z with ⟨i, z⟩ | z
    · by_cases hi : i = s
      · subst hi; rw [fset_same] at z; exact .inr (hO2 c z)
      · rw [fset_ne hi] at z; exact .inl ⟨i, z⟩
    · exact .inr z.1
  have e := b.ok
  refine ⟨⟨e.put (S := fun _ => False) hs rfl (fun _ _ => rfl) (stay_refl fun _ => id) (fun c _ nb => ⟨id, fun z => nb (ow c z)⟩) (fun _ _ _ _ => id) (fun m' z => by cases z; exact ⟨x, hx, r2.ban ow⟩) (fun z => by cases z) tO.nd (fun j c _ hc hO => e.rs j c hc (hO2 c hO)) (fun c hc z => z.2 hc) (fun j c _ hc z => e.rs j c hc z.1) (fun c z => e.al c z.1),
    fun c z => ⟨b.sub c (a1.sub c z), fun w => (tO.mem c w).2 z⟩, (a1.go b).tr.keep, fun c z => ?_⟩, ow⟩
  rcases z with ⟨i, z⟩ | ⟨⟨z, _⟩, nz⟩
  · by_cases hi : i = s
    · subst hi; rw [fset_same] at z; exact a1.tr.new c (.inr (tO.mem c z))
    · rw [fset_ne hi] at z; exact (a1.go b).tr.new c (.inl ⟨i, z⟩)
  · exact (a1.go b).tr.new c (.inr ⟨z, nz⟩)
theorem evI_lent {w : PL.Walk} {ε ε' : PL.Env} {s : Nat} {m : MV} (h : PL.evI C ii ε = .ok w ε') (hw : w.lent = some (s, m)) : ii = .mv s := by
  cases ii with
  | mv i =>
    unfold PL.evI at h
    split at h
    · split at h
      · cases h; cases hw
      · cases h
    · split at h
      · cases h; cases hw; rfl
      · cases h; cases hw
    · cases h
  | val e =>
    unfold PL.evI at h
    obtain ⟨v, e1, _, h⟩ := bind_ok h
    split at h
    · cases h; cases hw
    · cases h
  | rng1 a =>
    unfold PL.evI at h
    obtain ⟨v, e1, _, h⟩ := bind_ok h
    split at h
    · split at h
      · cases h; cases hw
      · cases h
    · cases h
  | rng2 a b =>
    unfold PL.evI at h
    obtain ⟨v, e1, _, h⟩ := bind_ok h
    obtain ⟨v, e1, _, h⟩ := bind_ok h
    split at h
    · split at h
      · cases h; cases hw
      · cases h
    · cases h
  | rng3 a b c =>
    unfold PL.evI at h
    obtain ⟨v, e1, _, h⟩ := bind_ok h
    obtain ⟨v, e1, _, h⟩ := bind_ok h
    obtain ⟨v, e1, _, h⟩ := bind_ok h
    split at h
    · split at h
      · cases h; cases hw
      · cases h
    · cases h
  | zip a b =>
    unfold PL.evI at h
    obtain ⟨v, e1, _, h⟩ := bind_ok h
    obtain ⟨v, e1, _, h⟩ := bind_ok h
    split at h
    · cases h; cases hw
    · cases h
  | rev e =>
    unfold PL.evI at h
    obtain ⟨v, e1, _, h⟩ := bind_ok h
    split at h
    · cases h; cases hw
    · cases h
theorem lockI_mem {i : Nat} (h : i ∈ lock) : i ∈ PL.lockI ii lock := by
  cases ii <;> first | exact h | exact List.mem_cons_of_mem _ h
theorem Lk.less {σ σ' : L2.St} (h : Lk (PL.lockI ii lock) σ σ') : Lk lock σ σ' := ⟨h.1, fun i hi => h.2 i (lockI_mem hi)⟩
theorem RepPs.at {l : List PV} {vs : List V} {i : Nat} {x : V} (r : RepPs k H B l vs) (h : vs[i]? = some x) : ∃ p, l[i]? = some p ∧ RepP k H B p x := by
  have hl := r.len
  have hi : i < l.length := by rw [hl]; exact (List.getElem?_eq_some_iff.mp h).1
  obtain ⟨v, h1, h2⟩ := r.get (i := i) (p := l[i]) (by simp [hi])
  rw [h] at h1
  cases h1
  exact ⟨_, by simp [hi], h2⟩
theorem RepPs.stayA (e : EnvOk k R1 H1 env1 σ fo1) (b : At k R1 σ' H1 (Own fo1) env2 fo2 R2 H2) {l : List PV} {vs : List V} (r : RepPs k H1 (bn fo1 R1) l vs) : RepPs k H2 (bn fo2 R2) l vs := by
  have := At.valg e b (m := .l (l.map .p)) (x := .non) (O := []) (fun _ h => nomatch h)
  exact r.stay (S := Own fo1) ⟨b.tr.keep, e.chg⟩ (fun a ne nb => ⟨fun z => nb (.inl z), fun z => by
    have key : Own fo2 a ∨ (R2 a ∧ ¬ R1 a) := by
      rcases z with z | z
      · exact .inl z
      · exact .inr ⟨z, fun q => nb (.inr q)⟩
    rcases b.tr.new a key with z | z
    · exact nb (.inl z)
    · exact ne z⟩)
end
end LB

end
section
set_option Elab.async false
set_option linter.all false
set_option maxRecDepth 100000
set_option maxHeartbeats 1000000
/-! Layer B, i: for. -/
namespace LB
open PySem PySem.Spec PyProof.Rows L2
open PL (PV MV Txt IE IEs IT II IS ISs)
section
variable {X : Cx} {k : Kx} {W : WX} {C : PL.Ctx} {R R' R1 R2 : Addr → Prop} {σ σ' τ : L2.St} {H H' H1 H2 : Hp} {own B : Addr → Prop} {env env' env0 env1 env2 rs : PL.Env} {fo fo1 fo2 : Nat → List Addr} {lock : List Nat}
variable {e a b c tg : Expr} {es : List Expr} {ie ia ib ic : IE} {ies : IEs} {pos p p2 : Pos} {t u : IT} {ii : II} {st : Stmt} {sts : List Stmt} {is : IS} {iss : ISs}
/-- a turn of the loop -/
def stepF (C : PL.Ctx) (lock : List Nat) (tgt : PL.Tgt) (sb : ISs) : PV → PL.Env → PL.Res PL.Flow := fun x ε2 => match PL.putT lock ε2 tgt x with
  | some ε3 => PL.evSs { C with lock := lock } sb ε3
  | none => .bad
def endF : PL.Flow → PL.Flow
  | .bk => .nx
  | f => f
theorem fo_eq {tgt : PL.Tgt} {sb : ISs} {ε : PL.Env} : PL.evS C (.fo tgt ii sb) ε = (PL.evI C ii ε).bind fun w ε1 => (PL.forL (stepF C (PL.lockI ii C.lock) tgt sb) w.items ε1).bind fun f ε4 => .ok (endF f) (PL.giveBack ε4 w.lent) := by
  conv => lhs; unfold PL.evS
  congr 1
/-- what is wanted when the loop has ended -/
def AftF (D : Ends) (fin : PL.Env → PL.Env) (k : Kx) (W : WX) (R : Addr → Prop) (σ : L2.St) (H : Hp) (own : Addr → Prop) (lock : List Nat) (r : PL.Res PL.Flow) : Prop :=
  OutS k W R σ H own lock D (r.bind fun f ε => .ok (endF f) (fin ε))
theorem ss_fo {tgt : PL.Tgt} {body : List Stmt} {sb : ISs} (hp : PassesOwn (model X.prog X.w) X.A X.env X.xe) (hc : X.calm = true) (hi : PI X tg e (tIt k W C ii)) (hg : PG X tg (gT k.K tgt)) (hb : PSs X body (tSs k W { C with lock := PL.lockI ii C.lock } sb)) (hs : ∀ x, foldedSetIterable e X.env x = pure x) :
    PS X (.For tg e body [] pos) (tS k W C (.fo tgt ii sb)) := imS (ps_for hp hc hi hg hb hs) fun D σ H ⟨env, fo, R, ok, o⟩ => by
  rw [fo_eq] at o
  cases hI : PL.evI C ii env with
  | bad => rw [hI] at o; exact o.elim
  | ex x ε => exact ⟨env, fo, R, ok, by rw [hI] at o ⊢; exact fun cls d H' p => o σ cls d H' .refl p⟩
  | ok w e1 =>
    refine ⟨env, fo, R, ok, ?_⟩
    rw [hI] at o ⊢
    intro J H1 p1
    obtain ⟨fo1, R1, a1, ⟨vs, G, rv, wk, gs⟩, lent⟩ := p1
    have hl := rv.len
    -- the loop from here: slots, what is left of it
    let o0 : Prop := OutS k W R σ H (Own fo) C.lock D ((PL.forL (stepF C (PL.lockI ii C.lock) tgt sb) w.items e1).bind fun f ε4 => .ok (endF f) (PL.giveBack ε4 w.lent))
    have o : OutS k W R σ H (Own fo) C.lock D ((PL.forL (stepF C (PL.lockI ii C.lock) tgt sb) w.items e1).bind fun f ε4 => .ok (endF f) (PL.giveBack ε4 w.lent)) := o
    -- what comes when all is given back
    have fin : ∀ (σ2 : L2.St) (H2 : Hp) (ε : PL.Env) (fo2 : Nat → List Addr) (R2 : Addr → Prop), Lk (PL.lockI ii C.lock) σ σ2 → At k R1 σ2 H1 (Own fo1) ε fo2 R2 H2 → ∃ fo3 R3, At k R σ2 H (Own fo) (PL.giveBack ε w.lent) fo3 R3 H2 ∧ (∀ c, bn fo3 R3 c → bn fo2 R2 c) ∧ (∀ c, R2 c → ¬ R1 c → R3 c) := by
      intro σ2 H2 ε fo2 R2 l a2
      cases hw : w.lent with
      | none =>
        refine ⟨fo2, R2, a1.go a2, fun _ z => z, fun c z _ => z⟩
      | some q =>
        obtain ⟨s, m⟩ := q
        have hii := evI_lent hI hw
        obtain ⟨l1, l2, x, O, hx, rm, tO⟩ := lent s m hw
        have hsl : σ2[s]? = some (some x) := by
          rw [l.2 s (by rw [hii]; exact List.mem_cons_self)]; exact hx
        have hlen : s < ε.length := by
          rw [a2.ok.len]; exact (List.getElem?_eq_some_iff.mp hsl).1
        obtain ⟨b1, b2⟩ := At.back a1 tO rm a2 hsl hlen
        exact ⟨_, _, b1, b2, fun c z nz => ⟨z, fun w => nz (tO.mem c w).1⟩⟩
    let Pv : Nat → L2.St → Hp → Prop := fun i σ2 H2 => ∃ ε fo2, At k R1 σ2 H1 (Own fo1) ε fo2 R1 H2 ∧ Lk (PL.lockI ii C.lock) σ σ2 ∧ OutS k W R σ H (Own fo) C.lock D ((PL.forL (stepF C (PL.lockI ii C.lock) tgt sb) (w.items.drop i) ε).bind fun f ε4 => .ok (endF f) (PL.giveBack ε4 w.lent))
    refine for_it wk Pv ⟨e1, fo1, .refl a1.ok, .refl, o⟩ (fun i σ2 H2 _ ⟨ε, fo2, a2, _, _⟩ => gs H2 a2.tr.keep) (fun i x σ2 H2 H3 hlt ⟨ε, fo2, a2, l2, o2⟩ y => ?_) fun σ2 H2 ⟨ε, fo2, a2, l2, o2⟩ => ?_
    · obtain ⟨eH, hx⟩ := y
      subst eH
      obtain ⟨pv, hpv, rp⟩ := rv.at hx
      have hd : w.items.drop i = pv :: w.items.drop (i + 1) := by
        have hi' : i < w.items.length := (List.getElem?_eq_some_iff.mp hpv).1
        rw [List.drop_eq_getElem_cons hi']
        congr 1
        have := (List.getElem?_eq_some_iff.mp hpv).2
        exact this
      rw [hd] at o2
      have rp2 : RepP k H3 (bn fo2 R1) pv x := (At.valg a1.ok a2 (m := .p pv) (O := []) (fun _ h => nomatch h) ⟨rp, rfl⟩).1
      unfold PL.forL at o2
      cases hp' : PL.putT (PL.lockI ii C.lock) ε tgt pv with
      | none =>
        have hst : stepF C (PL.lockI ii C.lock) tgt sb pv ε = .bad := by unfold stepF; rw [hp']
        rw [hst] at o2
        exact o2.elim
      | some ε3 =>
        have hst : stepF C (PL.lockI ii C.lock) tgt sb pv ε = PL.evSs { C with lock := PL.lockI ii C.lock } sb ε3 := by unfold stepF; rw [hp']
        rw [hst] at o2
        refine putT_ok hp' a2.ok rp2 fun σ3 fo3 k1 k2 k3 _ => ?_
        have a3 : At k R1 σ3 H1 (Own fo1) ε3 fo3 R1 H3 := ⟨k1, fun _ z => z, ⟨a2.tr.keep, fun c z => z.elim (fun z => a2.tr.new c (.inl (k3 c z))) fun z => absurd z.1 z.2⟩⟩
        have l3 := l2.trans k2
        refine ⟨ε3, fo3, R1, k1, ?_⟩
        cases hr : PL.evSs { C with lock := PL.lockI ii C.lock } sb ε3 with
        | bad => rw [hr] at o2; exact o2
        | ex x4 ε4 =>
          rw [hr] at o2
          intro σ4 cls d H4 l4 p4
          have l34 : Lk (PL.lockI ii C.lock) σ σ4 := l3.trans l4
          refine o2 σ4 cls d H4 l34.less ?_
          exact (p4.go a3).go a1
        | ok f ε4 =>
          rw [hr] at o2
          have nxt : ∀ σ4 H4, PostS k R1 σ3 H3 (Own fo3) (PL.lockI ii C.lock) ε4 σ4 H4 → OutS k W R σ H (Own fo) C.lock D ((PL.forL (stepF C (PL.lockI ii C.lock) tgt sb) (w.items.drop (i + 1)) ε4).bind fun f ε4 => .ok (endF f) (PL.giveBack ε4 w.lent)) → Pv (i + 1) σ4 H4 := fun σ4 H4 ⟨l4, fo4, a4⟩ o3 => ⟨ε4, fo4, a3.go a4, l3.trans l4, o3⟩
          cases f with
          | nx => exact fun σ4 H4 p4 => nxt σ4 H4 p4 o2
          | ct => exact fun σ4 H4 p4 => nxt σ4 H4 p4 o2
          | bk =>
            intro σ4 H4 ⟨l4, fo4, a4⟩
            have l34 : Lk (PL.lockI ii C.lock) σ σ4 := l3.trans l4
            obtain ⟨fo5, R5, b1, _, _⟩ := fin σ4 H4 ε4 fo4 R1 l34 (a3.go a4)
            exact o2 σ4 H4 ⟨l34.less, fo5, b1.drop b1.sub fun _ h => h⟩
          | rt v =>
            intro x5 H4 ⟨σ4, l4, p4⟩
            have l34 : Lk (PL.lockI ii C.lock) σ σ4 := l3.trans l4
            obtain ⟨fo4, R4, O4, a4, r4, t4⟩ := p4
            obtain ⟨fo5, R5, b1, b2, b3⟩ := fin σ4 H4 ε4 fo4 R4 l34 (a3.go a4)
            exact o2 x5 H4 ⟨σ4, l34.less, fo5, R5, O4, b1, r4.ban b2, t4.nd, fun c hc => ⟨b3 c (t4.mem c hc).1 (t4.mem c hc).2, fun z => (t4.mem c hc).2 (a1.sub c z)⟩⟩
    · have hd : w.items.drop vs.length = [] := by rw [← hl]; simp
      rw [hd] at o2
      unfold PL.forL at o2
      obtain ⟨fo5, R5, b1, _, _⟩ := fin σ2 H2 ε fo2 R1 l2 a2
      exact o2 σ2 H2 ⟨l2.less, fo5, b1.drop b1.sub fun _ h => h⟩
end
end LB

end
section
set_option Elab.async false
set_option linter.all false
set_option maxRecDepth 100000
set_option maxHeartbeats 1000000
/-! Layer B, j: comprehensions. -/
namespace LB
open PySem PySem.Spec PyProof.Rows L2
open PL (PV MV Txt IE IEs IT II IS ISs)
section
variable {X : Cx} {k : Kx} {W : WX} {C : PL.Ctx} {R R' R1 R2 R4 : Addr → Prop} {σ σ' σ3 τ : L2.St} {H H' H1 H2 H4 : Hp} {own B : Addr → Prop} {env env' env0 env1 env2 rs ε ε4 : PL.Env} {fo fo1 fo2 fo4 : Nat → List Addr} {lock ow : List Nat}
variable {e a b c tg : Expr} {es : List Expr} {ie ia ib ic : IE} {ies : IEs} {pos p p2 : Pos} {t u : IT} {ii : II} {st : Stmt} {sts : List Stmt} {is : IS} {iss : ISs}
theorem wipe_get (σ : L2.St) (i : Nat) : ∀ vs : List Nat, (wipe σ vs)[i]? = if i ∈ vs then (if i < σ.length then some none else none) else σ[i]?
  | [] => by simp [wipe]
  | v :: vs => by
    have ih := wipe_get σ i vs
    unfold wipe
    by_cases h : i = v
    · subst h
      rw [if_pos (List.mem_cons_self)]
      by_cases hl : i < σ.length
      · rw [if_pos hl, List.getElem?_set_self (by rw [wipe_length]; exact hl)]
      · rw [if_neg hl, List.getElem?_eq_none (by rw [List.length_set, wipe_length]; omega)]
    · rw [List.getElem?_set_ne (fun z => h z.symm), ih]
      simp [h]
theorem wipe_ext {σ σ' : L2.St} {vs : List Nat} (hl : σ'.length = σ.length) (h : ∀ j, j ∉ vs → σ'[j]? = (wipe σ vs)[j]?) : wipe σ' vs = wipe σ vs := by
  apply List.ext_getElem?
  intro i
  rw [wipe_get, wipe_get]
  by_cases hi : i ∈ vs
  · rw [if_pos hi, if_pos hi, hl]
  · rw [if_neg hi, if_neg hi, h i hi, wipe_get, if_neg hi]
theorem wipeE_len (ε : PL.Env) : ∀ vs : List Nat, (PL.wipeE ε vs).length = ε.length
  | [] => rfl
  | v :: vs => by unfold PL.wipeE; rw [List.length_set, wipeE_len ε vs]
theorem wipeE_at (ε : PL.Env) (i : Nat) : ∀ vs : List Nat, PL.Env.at (PL.wipeE ε vs) i = if i ∈ vs then none else ε.at i
  | [] => by simp [PL.wipeE]
  | v :: vs => by
    have ih := wipeE_at ε i vs
    unfold PL.wipeE
    by_cases h : i = v
    · subst h
      rw [if_pos (List.mem_cons_self)]
      by_cases hl : i < ε.length
      · exact at_set (by rw [wipeE_len]; exact hl) none
      · exact at_out (by rw [List.length_set, wipeE_len]; omega)
    · rw [at_set_ne h, ih]
      simp [h]
theorem restE_len (ε0 ε : PL.Env) : ∀ vs : List Nat, (PL.restE ε0 ε vs).length = ε.length
  | [] => rfl
  | v :: vs => by unfold PL.restE; rw [List.length_set, restE_len ε0 ε vs]
theorem restE_at {ε0 ε : PL.Env} (hl : ε.length = ε0.length) (i : Nat) : ∀ vs : List Nat, PL.Env.at (PL.restE ε0 ε vs) i = if i ∈ vs then ε0.at i else ε.at i
  | [] => by simp [PL.restE]
  | v :: vs => by
    have ih := restE_at hl i vs
    unfold PL.restE
    by_cases h : i = v
    · subst h
      rw [if_pos (List.mem_cons_self)]
      by_cases hl' : i < ε.length
      · exact at_set (by rw [restE_len]; exact hl') _
      · rw [at_out (by rw [List.length_set, restE_len]; omega), at_out (by omega)]
    · rw [at_set_ne h, ih]
      simp [h]
theorem noOwn_at (h : PL.noOwn ε ow = true) {i : Nat} (hi : i ∈ ow) : ε.at i = none ∨ ∃ v, ε.at i = some (.p v) := by
  unfold PL.noOwn at h
  have := List.all_eq_true.mp h i hi
  split at this
  · exact .inl (by assumption)
  · exact .inr ⟨_, by assumption⟩
  · cases this
/-- a block's start: its own slots are empty -/
theorem EnvOk.wiped (e : EnvOk k R H ε σ fo) (h : PL.noOwn ε ow = true) : EnvOk k R H (PL.wipeE ε ow) (wipe σ ow) fo := by
  have fz : ∀ i ∈ ow, fo i = [] := fun i hi => by
    rcases noOwn_at h hi with z | ⟨v, z⟩
    · exact e.nil i z
    · obtain ⟨x, _, r⟩ := e.rep i _ z
      exact r.2
  refine ⟨by rw [wipeE_len, wipe_length]; exact e.len, fun i m q => ?_, fun i q => ?_, e.nd, e.dj, e.rs, e.al, e.gl⟩
  · rw [wipeE_at] at q
    by_cases hi : i ∈ ow
    · rw [if_pos hi] at q; cases q
    · rw [if_neg hi] at q
      obtain ⟨x, h1, r⟩ := e.rep i m q
      exact ⟨x, by rw [wipe_get, if_neg hi]; exact h1, r⟩
  · rw [wipeE_at] at q
    by_cases hi : i ∈ ow
    · exact fz i hi
    · rw [if_neg hi] at q; exact e.nil i q
def restF (ow : List Nat) (fo : Nat → List Addr) : Nat → List Addr := fun i => if i ∈ ow then [] else fo i
theorem own_rest {a : Addr} (h : Own (restF ow fo) a) : Own fo a := by
  obtain ⟨i, h⟩ := h
  unfold restF at h
  split at h
  · cases h
  · exact ⟨i, h⟩
/-- a block's end: its slots are as they were -/
theorem At.rest (a : At k R1 σ H1 own ε fo2 R2 H2) (h : PL.noOwn ε ow = true) (b : At k R2 σ3 H2 (Own fo2) ε4 fo4 R4 H4) (hl : σ3.length = σ.length) (hσ : ∀ j, j ∉ ow → σ3[j]? = (wipe σ ow)[j]?) :
    At k R1 σ H1 own (PL.restE ε ε4 ow) (restF ow fo4) R4 H4 ∧ PL.noOwn (PL.restE ε ε4 ow) ow = true ∧ ∀ c, bn (restF ow fo4) R4 c → bn fo4 R4 c := by
  have e := a.ok
  have e4 := b.ok
  have el : ε4.length = ε.length := by rw [e4.len, e.len, hl]
  have dn : ∀ c, bn (restF ow fo4) R4 c → bn fo4 R4 c := fun c z => z.imp own_rest id
  refine ⟨⟨⟨by rw [restE_len, e4.len]; exact hl, fun i m q => ?_, fun i q => ?_, fun i => ?_, fun i j c ha hb => ?_, fun i c ha => ?_, e4.al, e4.gl⟩, fun c z => b.sub c (a.sub c z), (a.go b).tr.keep, fun c z => ?_⟩, ?_, dn⟩
  · rw [restE_at el] at q
    by_cases hi : i ∈ ow
    · rw [if_pos hi] at q
      rcases noOwn_at h hi with z | ⟨v, z⟩
      · rw [z] at q; cases q
      · rw [z] at q
        cases q
        obtain ⟨x, h1, r⟩ := e.rep i _ z
        refine ⟨x, h1, ?_⟩
        have r4 := At.valg e b (m := .p v) (O := []) (fun _ h => nomatch h) ⟨r.1, rfl⟩
        unfold restF
        rw [if_pos hi]
        exact ⟨r4.1.ban dn, rfl⟩
    · rw [if_neg hi] at q
      obtain ⟨x, h1, r⟩ := e4.rep i m q
      rw [hσ i hi, wipe_get, if_neg hi] at h1
      refine ⟨x, h1, ?_⟩
      unfold restF
      rw [if_neg hi]
      exact r.ban dn
  · rw [restE_at el] at q
    unfold restF
    by_cases hi : i ∈ ow
    · rw [if_pos hi]
    · rw [if_neg hi] at q ⊢; exact e4.nil i q
  · unfold restF
    split
    · exact List.nodup_nil
    · exact e4.nd i
  · unfold restF at ha hb
    split at ha
    · cases ha
    · split at hb
      · cases hb
      · exact e4.dj i j c ha hb
  · unfold restF at ha
    split at ha
    · cases ha
    · exact e4.rs i c ha
  · rcases z with z | z
    · exact (a.go b).tr.new c (.inl (own_rest z))
    · exact (a.go b).tr.new c (.inr z)
  · unfold PL.noOwn at h ⊢
    rw [List.all_eq_true] at h ⊢
    intro i hi
    have := h i hi
    rw [restE_at el, if_pos hi]
    exact this
/-- what is ours is written to -/
theorem EnvOk.heap {S : Addr → Prop} (e : EnvOk k R H env σ fo) (st : Stay H H' S) (hS : ∀ a, S a → R a) (al : ∀ a, R a → H' a ≠ none) : EnvOk k R H' env σ fo :=
  ⟨e.len, fun i m q => let ⟨x, h1, r⟩ := e.rep i m q; ⟨x, h1, r.stay st (fun a _ nb => ⟨fun z => nb (.inr (hS a z)), fun z => nb z⟩) fun a ha z => e.rs i a ha (hS a z)⟩, e.nil, e.nd, e.dj, e.rs, al, fun q hq => (e.gl q hq).stay st fun _ _ nb => (nb trivial).elim⟩
end
end LB

end
section
set_option Elab.async false
set_option linter.all false
set_option maxRecDepth 100000
set_option maxHeartbeats 1000000
/-! Layer B, k: comprehensions, read. -/
namespace LB
open PySem PySem.Spec PyProof.Rows L2
open PL (PV MV Txt IE IEs IT II IS ISs)
section
variable {X : Cx} {k : Kx} {W : WX} {C : PL.Ctx} {R R' R1 R2 R4 : Addr → Prop} {σ σ' σ3 τ : L2.St} {H H' H1 H2 H4 : Hp} {own B : Addr → Prop} {env env' env0 env1 env2 rs ε ε4 : PL.Env} {fo fo1 fo2 fo4 : Nat → List Addr} {lock ow : List Nat}
variable {e a b c tg : Expr} {es : List Expr} {ie ia ib ic : IE} {ies : IEs} {pos p p2 : Pos} {t u : IT} {ii : II} {st : Stmt} {sts : List Stmt} {is : IS} {iss : ISs}
def WF : WX := fun _ _ _ _ => False
def stepC (C : PL.Ctx) (ow : List Nat) (tgt : PL.Tgt) (t : IT) (ie : IE) : PV → PL.Env → PL.Res (Option MV) := fun x ε2 => match PL.putT C.lock (PL.wipeE ε2 ow) tgt x with
  | some ε3 => (PL.evT C t ε3).noex.bind fun b ε4 => match b with
    | true => (PL.ev C ie ε4).noex.bind fun m ε5 => .ok (some m) (PL.restE ε2 ε5 ow)
    | false => .ok none (PL.restE ε2 ε4 ow)
  | none => .bad
theorem comp_eq {tgt : PL.Tgt} {ε : PL.Env} : PL.ev C (.comp ow tgt ii t ie) ε = (PL.evI C ii ε).bind fun w ε1 => if decide (w.items.length ≤ PL.LIM) && PL.noOwn ε1 ow then (PL.compL (stepC C ow tgt t ie) w.items ε1).bind fun l ε6 => .ok (.l l) (PL.giveBack ε6 w.lent) else .bad := by
  conv => lhs; unfold PL.ev
  congr 1
/-- what is left of the loop, with ms behind us -/
def RemC (k : Kx) (W : WX) (R : Addr → Prop) (σ : L2.St) (H : Hp) (own : Addr → Prop) (P : MV → PL.Env → Prop) (f : PV → PL.Env → PL.Res (Option MV)) (fin : PL.Env → PL.Env) (l : List PV) (ms : List MV) (ε : PL.Env) : Prop :=
  Outc k W R σ H own P ((PL.compL f l ε).bind fun r ε6 => .ok (.l (ms ++ r)) (fin ε6))
theorem RemC.turn {P : MV → PL.Env → Prop} {f : PV → PL.Env → PL.Res (Option MV)} {fin : PL.Env → PL.Env} {x : PV} {l : List PV} {ms : List MV} {ε ε1 : PL.Env} {o : Option MV} (h : RemC k W R σ H own P f fin (x :: l) ms ε) (hf : f x ε = .ok o ε1) : RemC k W R σ H own P f fin l (ms ++ o.toList) ε1 := by
  unfold RemC at h ⊢
  unfold PL.compL at h
  rw [hf] at h
  change Outc _ _ _ _ _ _ _ (PL.Res.bind (PL.Res.bind (PL.compL f l ε1) _) _) at h
  cases hc : PL.compL f l ε1 with
  | bad => rw [hc] at h; exact h
  | ex e ε2 => rw [hc] at h; exact h
  | ok r ε2 =>
    rw [hc] at h
    cases o with
    | none =>
      change P (.l (ms ++ r)) (fin ε2) at h
      show P (.l ((ms ++ []) ++ r)) (fin ε2)
      rw [List.append_nil]; exact h
    | some m =>
      change P (.l (ms ++ m :: r)) (fin ε2) at h
      show P (.l ((ms ++ [m]) ++ r)) (fin ε2)
      rw [List.append_assoc]; exact h
theorem RemC.bad {P : MV → PL.Env → Prop} {f : PV → PL.Env → PL.Res (Option MV)} {fin : PL.Env → PL.Env} {x : PV} {l : List PV} {ms : List MV} {ε : PL.Env} (h : RemC k W R σ H own P f fin (x :: l) ms ε) (hf : f x ε = .bad) : False := by
  unfold RemC at h
  unfold PL.compL at h
  rw [hf] at h
  exact h
theorem putSs_len : ∀ {is : List Nat} {l : List PV} {ε ε' : PL.Env}, PL.putSs lock ε is l = some ε' → ε'.length = ε.length
  | [], [], _, _, h => by cases h; rfl
  | [], _ :: _, _, _, h => by cases h
  | _ :: _, [], _, _, h => by cases h
  | i :: is, v :: l, ε, ε', h => by
    unfold PL.putSs at h
    cases hp : PL.putS lock ε i (.p v) with
    | none => rw [hp] at h; cases h
    | some ε1 =>
      rw [hp] at h
      obtain ⟨_, _, h3⟩ := putS_some hp
      rw [putSs_len h, h3, List.length_set]
theorem rd_comp {tgt : PL.Tgt} {Q : VK} (hts : ∀ i ∈ tgSlots tgt, i ∈ ow) (h : tE k W C (.comp ow tgt ii t ie) σ H Q) :
    tLc (tIt k W C ii) (gT k.K tgt) (tT k WF C t) (tE k WF C ie) ow σ H Q := by
  obtain ⟨env, fo, R, ok, o⟩ := h
  rw [comp_eq] at o
  refine ⟨env, fo, R, ok, o.bind.imp fun w e1 q1 J H1 p1 => ?_⟩
  obtain ⟨fo1, R1, a1, ⟨vs, G, rv, wk, gs⟩, lent⟩ := p1
  have hl := rv.len
  split at q1
  · rename_i hc
    rw [Bool.and_eq_true, decide_eq_true_eq] at hc
    obtain ⟨hlim, hno⟩ := hc
    intro Dn hD
    have rem0 : RemC k W R σ H (Own fo) (fun v env' => ∀ x H', PostV k R σ H (Own fo) env' v x H' → Q x H') (stepC C ow tgt t ie) (fun ε => PL.giveBack ε w.lent) w.items [] e1 := q1
    have nR1 : ¬ R1 Dn := fun z => a1.ok.al Dn z hD
    let Pv : Nat → Hp → Prop := fun i Hc => ∃ ε fo2 R2 ms us O, At k R1 σ H1 (Own fo1) ε fo2 R2 Hc ∧ PL.noOwn ε ow = true ∧ Hc Dn = some (.lst us) ∧ RepMs k Hc (bn fo2 R2) ms us O ∧ Tmp R1 R2 (Dn :: O) ∧ us.length ≤ i ∧
      RemC k W R σ H (Own fo) (fun v env' => ∀ x H', PostV k R σ H (Own fo) env' v x H' → Q x H') (stepC C ow tgt t ie) (fun ε => PL.giveBack ε w.lent) (w.items.drop i) ms ε
    refine lc_it wk Pv ⟨e1, fo1, fun c => c = Dn ∨ R1 c, [], [], [], (At.refl a1.ok).lay hD, hno, upd_same, ⟨rfl, rfl⟩, ⟨by simp, fun c hc => ?_⟩, Nat.zero_le _, rem0⟩ (fun i Hc _ ⟨ε, fo2, R2, ms, us, O, a2, _⟩ => gs Hc a2.tr.keep) (fun i x Hc H3 hlt ⟨ε, fo2, R2, ms, us, O, a2, hn2, hDc, rms, tO, hlen, rem⟩ y => ?_) fun Hc ⟨ε, fo2, R2, ms, us, O, a2, hn2, hDc, rms, tO, hlen, rem⟩ => ?_
    · have : c = Dn := by simpa using hc
      subst this
      exact ⟨.inl rfl, nR1⟩
    · obtain ⟨eH, hx⟩ := y
      subst eH
      obtain ⟨pv, hpv, rp⟩ := rv.at hx
      have hd : w.items.drop i = pv :: w.items.drop (i + 1) := by
        have hi' : i < w.items.length := (List.getElem?_eq_some_iff.mp hpv).1
        rw [List.drop_eq_getElem_cons hi']
        congr 1
        exact (List.getElem?_eq_some_iff.mp hpv).2
      rw [hd] at rem
      have rp2 : RepP k H3 (bn fo2 R2) pv x := (At.valg a1.ok a2 (m := .p pv) (O := []) (fun _ h => nomatch h) ⟨rp, rfl⟩).1
      have ew := a2.ok.wiped hn2
      cases hp' : PL.putT C.lock (PL.wipeE ε ow) tgt pv with
      | none => exact (rem.bad (by unfold stepC; rw [hp'])).elim
      | some ε3 =>
        have hst : stepC C ow tgt t ie pv ε = (PL.evT C t ε3).noex.bind fun b ε4 => match b with
          | true => (PL.ev C ie ε4).noex.bind fun m ε5 => .ok (some m) (PL.restE ε ε5 ow)
          | false => .ok none (PL.restE ε ε4 ow) := by unfold stepC; rw [hp']
        refine putT_ok hp' ew rp2 fun σ3 fo3 k1 k2 k3 k4 => ?_
        have hl3 : σ3.length = σ.length := by
          have h1 := k1.len
          have h2 : ε3.length = (PL.wipeE ε ow).length := by
            cases tgt with
            | nm j =>
              obtain ⟨_, _, g⟩ := putS_some (show PL.putS C.lock (PL.wipeE ε ow) j (.p pv) = some ε3 from hp')
              rw [g, List.length_set]
            | tp l =>
              cases pv <;> first | cases hp' | skip
              rename_i w' ps
              exact putSs_len (show PL.putSs C.lock (PL.wipeE ε ow) l ps = some ε3 from hp')
          rw [← h1, h2, wipeE_len, a2.ok.len]
        have hσ3 : ∀ j, j ∉ ow → σ3[j]? = (wipe σ ow)[j]? := fun j hj => k4 j fun z => hj (hts j z)
        refine ⟨wipe_ext hl3 hσ3, ε3, fo3, R2, k1, ?_⟩
        have a3 : At k R2 σ3 H3 (Own fo2) ε3 fo3 R2 H3 := ⟨k1, fun _ z => z, ⟨fun _ _ q _ => q, fun c z => z.elim (fun z => .inl (k3 c z)) fun z => absurd z.1 z.2⟩⟩
        cases hT : PL.evT C t ε3 with
        | bad => exact (rem.bad (by rw [hst, hT]; rfl)).elim
        | ex e4 ε4 => exact (rem.bad (by rw [hst, hT]; rfl)).elim
        | ok bb ε4 =>
          intro H4 ⟨fo4, R4, a4⟩
          have a34 := a3.go a4
          cases bb with
          | false =>
            rw [if_neg Bool.false_ne_true]
            obtain ⟨g1, g2, g3⟩ := a2.rest hn2 a34 hl3 hσ3
            have hDn : H4 Dn = some (.lst us) := a34.tr.keep Dn _ hDc fun ⟨j, hj⟩ => a2.ok.rs j Dn hj (tO.mem Dn List.mem_cons_self).1
            have rms4 : RepMs k H4 (bn (restF ow fo4) R4) ms us O := by
              have z : RepMs k H4 (bn fo4 R4) ms us O := by
                have := At.valg a2.ok a34 (m := .l ms) (x := .ref Dn) (O := Dn :: O) (fun a h => (tO.mem a h).1) ⟨Dn, us, O, rfl, hDc, rms, rfl⟩
                obtain ⟨a', vs', O', q1, q2, q3, q4⟩ := this
                cases q1
                rw [hDn] at q2
                cases q2
                cases q4
                exact q3
              exact z.stay (S := fun _ => False) (stay_refl fun _ => id) (fun c _ nb => ⟨id, fun q => nb (g3 c q)⟩) fun _ _ => id
            have rem' := rem.turn (o := none) (by rw [hst, hT]; rfl)
            exact ⟨_, _, R4, ms, us, O, g1, g2, hDn, rms4, ⟨tO.nd, fun c hc => ⟨a34.sub c (tO.mem c hc).1, (tO.mem c hc).2⟩⟩, Nat.le_succ_of_le hlen, by simpa using rem'⟩
          | true =>
            rw [if_pos rfl]
            refine ⟨ε4, fo4, R4, a4.ok, ?_⟩
            cases hE : PL.ev C ie ε4 with
            | bad => exact (rem.bad (by rw [hst, hT]; show PL.Res.bind (PL.ev C ie ε4).noex _ = _; rw [hE]; rfl)).elim
            | ex e5 ε5 => exact (rem.bad (by rw [hst, hT]; show PL.Res.bind (PL.ev C ie ε4).noex _ = _; rw [hE]; rfl)).elim
            | ok m ε5 =>
              intro yv H5 ⟨fo5, R5, Om, a5, rm, tm⟩
              have a35 := a34.go a5
              obtain ⟨g1, g2, g3⟩ := a2.rest hn2 a35 hl3 hσ3
              have nOD : ¬ Own fo2 Dn := fun ⟨j, hj⟩ => a2.ok.rs j Dn hj (tO.mem Dn List.mem_cons_self).1
              have hDn : H5 Dn = some (.lst us) := a35.tr.keep Dn _ hDc nOD
              have z : RepMs k H5 (bn fo5 R5) ms us O := by
                have := At.valg a2.ok a35 (m := .l ms) (x := .ref Dn) (O := Dn :: O) (fun a h => (tO.mem a h).1) ⟨Dn, us, O, rfl, hDc, rms, rfl⟩
                obtain ⟨a', vs', O', q1, q2, q3, q4⟩ := this
                cases q1
                rw [hDn] at q2
                cases q2
                cases q4
                exact q3
              have hR4 : ∀ c ∈ Dn :: O, R4 c := fun c hc => a34.sub c (tO.mem c hc).1
              have hnm : ∀ c ∈ Dn :: O, c ∉ Om := fun c hc hm => (tm.mem c hm).2 (hR4 c hc)
              have nd := List.nodup_cons.mp tO.nd
              let H6 := upd H5 Dn (.lst (us ++ [yv]))
              have st6 : Stay H5 H6 fun c => c = Dn := ⟨fun c o hc hn => by show upd H5 Dn _ c = _; rw [upd_ne hn]; exact hc, fun c o hc ho => by rw [hc, hDn] at ho; cases ho; exact .inl ⟨_, rfl⟩⟩
              have hR5D : R5 Dn := a35.sub Dn (tO.mem Dn List.mem_cons_self).1
              have al6 : ∀ c, R5 c → H6 c ≠ none := fun c hc => by
                by_cases hcD : c = Dn
                · rw [hcD]; show upd H5 Dn _ Dn ≠ none; rw [upd_same]; simp
                · show upd H5 Dn _ c ≠ none; rw [upd_ne hcD]; exact a5.ok.al c hc
              have e6 : EnvOk k R5 H6 (PL.restE ε ε5 ow) σ (restF ow fo5) := g1.ok.heap st6 (fun c hc => by rw [hc]; exact hR5D) al6
              have ob6 : Okb H5 (bn fo5 R5) (bn (restF ow fo5) R5) fun c => c = Dn := fun c _ nb => ⟨fun hc => nb (.inr (by rw [hc]; exact hR5D)), fun q => nb (g3 c q)⟩
              have g6 : At k R1 σ H1 (Own fo1) (PL.restE ε ε5 ow) (restF ow fo5) R5 H6 := ⟨e6, g1.sub, ⟨fun c o hc hn => by
                have := g1.tr.keep c o hc hn
                have hcD : c ≠ Dn := fun z => by rw [z, hD] at hc; cases hc
                show upd H5 Dn _ c = _
                rw [upd_ne hcD]; exact this, g1.tr.new⟩⟩
              have rms6 : RepMs k H6 (bn (restF ow fo5) R5) (ms ++ [m]) (us ++ [yv]) (O ++ (Om ++ [])) :=
                (z.stay st6 ob6 fun c hc hcD => nd.1 (by rw [← hcD]; exact hc)).app ⟨yv, [], Om, [], rfl, rm.stay st6 ob6 fun c hc hcD => hnm c (by rw [hcD]; exact List.mem_cons_self) hc, ⟨rfl, rfl⟩, rfl⟩
              rw [List.append_nil] at rms6
              have rem' := rem.turn (o := some m) (ε1 := PL.restE ε ε5 ow) (by rw [hst, hT]; show PL.Res.bind (PL.ev C ie ε4).noex _ = _; rw [hE]; rfl)
              refine ⟨us, hDn, ?_, _, _, R5, ms ++ [m], us ++ [yv], O ++ Om, g6, g2, upd_same, rms6, ⟨?_, fun c hc => ?_⟩, ?_, rem'⟩
              · rw [← lim_eq]
                have h1 : i < vs.length := hlt
                rw [← hl] at h1
                omega
              · refine List.nodup_cons.mpr ⟨fun hm => ?_, List.nodup_append.mpr ⟨nd.2, tm.nd, fun c hc d hd hcd => ?_⟩⟩
                · rcases List.mem_append.mp hm with q | q
                  · exact nd.1 q
                  · exact hnm Dn List.mem_cons_self q
                · subst hcd
                  exact hnm c (List.mem_cons_of_mem _ hc) hd
              · rcases List.mem_cons.mp hc with q | q
                · subst q
                  exact ⟨hR5D, nR1⟩
                · rcases List.mem_append.mp q with q | q
                  · exact ⟨a35.sub c (tO.mem c (List.mem_cons_of_mem _ q)).1, (tO.mem c (List.mem_cons_of_mem _ q)).2⟩
                  · exact ⟨(tm.mem c q).1, fun z => (tm.mem c q).2 (a34.sub c (a2.sub c z))⟩
              · rw [List.length_append, List.length_singleton]; omega
    · have hd : w.items.drop vs.length = [] := by rw [← hl]; simp
      rw [hd] at rem
      unfold RemC PL.compL at rem
      change ∀ x H', PostV k R σ H (Own fo) (PL.giveBack ε w.lent) (.l (ms ++ [])) x H' → Q x H' at rem
      rw [List.append_nil] at rem
      have rl : RepM k Hc (bn fo2 R2) (.l ms) (.ref Dn) (Dn :: O) := ⟨Dn, us, O, rfl, hDc, rms, rfl⟩
      cases hw : w.lent with
      | none =>
        rw [hw] at rem
        exact rem _ Hc ⟨fo2, R2, Dn :: O, a1.go a2, rl, tO.nd, fun c hc => ⟨(tO.mem c hc).1, fun z => (tO.mem c hc).2 (a1.sub c z)⟩⟩
      | some q =>
        obtain ⟨s, m⟩ := q
        rw [hw] at rem
        obtain ⟨l1, l2, x, Ol, hx, rm, tl⟩ := lent s m hw
        have hlen' : s < ε.length := by rw [a2.ok.len]; exact (List.getElem?_eq_some_iff.mp hx).1
        obtain ⟨b1, b2⟩ := At.back a1 tl rm a2 hx hlen'
        exact rem _ Hc ⟨_, _, Dn :: O, b1, rl.ban b2, tO.nd, fun c hc => ⟨⟨(tO.mem c hc).1, fun z => (tO.mem c hc).2 (tl.mem c z).1⟩, fun z => (tO.mem c hc).2 (a1.sub c z)⟩⟩
  · exact q1.elim
variable {elt : Expr} {ifs : List Expr} {scope : Scope} {ow' : List (Str × Nat)} {tgt : PL.Tgt}
/-- [elt for target in iter if ..] -/
theorem ev_comp (hc : X.calm = true) (hN : X.N.Nodup) (hi : PI X tg e (tIt k W C ii)) (ok : BlkOk X.N X.env.scope scope ow')
    (hg : ∀ (s : Shared) (H : Hp) (C' : Addr) (cl : List (Str × Addr)) (fp : List Addr), PG (X.blk s H scope (compEnvC scope cl C' X.env) fp) tg (gT k.K tgt))
    (ht : ∀ (s : Shared) (H : Hp) (C' : Addr) (cl : List (Str × Addr)) (fp : List Addr), PTs (X.blk s H scope (compEnvC scope cl C' X.env) fp) ifs (tT k WF C t))
    (he : ∀ (s : Shared) (H : Hp) (C' : Addr) (cl : List (Str × Addr)) (fp : List Addr), PE (X.blk s H scope (compEnvC scope cl C' X.env) fp) elt (tE k WF C ie))
    (hs : ∀ x, foldedSetIterable e X.env x = pure x) (hts : ∀ i ∈ tgSlots tgt, i ∈ ow'.map (·.2)) :
    PE X (.ListComp elt [⟨tg, e, ifs, 0⟩] scope pos) (tE k W C (.comp (ow'.map (·.2)) tgt ii t ie)) := imE (pe_lc hc hN hi ok hg ht he hs) fun _ _ _ h => rd_comp hts h
theorem ss_setc {i : Nat} {y : Str} {py spos : Pos} (hc : X.calm = true) (hN : X.N.Nodup) (hy : X.N[i]? = some y) (hyl : X.env.scope.names.lookup y = some .local)
    (hsw : swapsWith (.ListComp elt [⟨tg, e, ifs, 0⟩] scope pos) (some (.Name y py)) spos.line X.env = pure true) (hi : PI X tg e (tIt k W C ii)) (ok : BlkOk X.N X.env.scope scope ow')
    (hg : ∀ (s : Shared) (H : Hp) (C' : Addr) (cl : List (Str × Addr)) (fp : List Addr), PG (X.blk s H scope (compEnvC scope cl C' X.env) fp) tg (gT k.K tgt))
    (ht : ∀ (s : Shared) (H : Hp) (C' : Addr) (cl : List (Str × Addr)) (fp : List Addr), PTs (X.blk s H scope (compEnvC scope cl C' X.env) fp) ifs (tT k WF C t))
    (he : ∀ (s : Shared) (H : Hp) (C' : Addr) (cl : List (Str × Addr)) (fp : List Addr), PE (X.blk s H scope (compEnvC scope cl C' X.env) fp) elt (tE k WF C ie))
    (hs : ∀ x, foldedSetIterable e X.env x = pure x) (hts : ∀ i ∈ tgSlots tgt, i ∈ ow'.map (·.2)) :
    PS X (.Assign [.Name y py] (.ListComp elt [⟨tg, e, ifs, 0⟩] scope pos) spos) (tS k W C (.set i (.comp (ow'.map (·.2)) tgt ii t ie))) :=
  imS (ps_setLc hc hN hy hyl hsw hi ok hg ht he hs) fun D σ H h => by
    have := rd_set h
    exact rd_comp hts this
theorem ts_nil : PTs X [] (tT k W C .tt) := ⟨fun pins s σ H Q I ⟨env, fo, R, ok, o⟩ => pts_nil.run pins s σ H Q I (by
  unfold PL.evT at o
  exact o H ⟨fo, R, .refl ok⟩)⟩
end
end LB

end
section
set_option Elab.async false
set_option linter.all false
set_option maxRecDepth 100000
set_option maxHeartbeats 1000000
/-! Layer B, l: a slot's list is changed. -/
namespace LB
open PySem PySem.Spec PyProof.Rows L2
open PL (PV MV Txt IE IEs IT II IS ISs)
section
variable {X : Cx} {k : Kx} {W : WX} {C : PL.Ctx} {R R' R1 R2 R4 : Addr → Prop} {σ σ' σ3 τ : L2.St} {H H' H1 H2 H4 : Hp} {own B : Addr → Prop} {env env' env0 env1 env2 rs ε ε4 : PL.Env} {fo fo1 fo2 fo4 : Nat → List Addr} {lock ow : List Nat}
variable {e a b c tg : Expr} {es : List Expr} {ie ia ib ic : IE} {ies : IEs} {pos p p2 : Pos} {t u : IT} {ii : II} {st : Stmt} {sts : List Stmt} {is : IS} {iss : ISs}
theorem At.relist (a1 : At k R σ H own env1 fo1 R1 H1) {i : Nat} {m xs' : MV} {a : Addr} {o' : HO} {O0 O' Ot : List Addr} (hs : env1.at i = some m) (hx : σ[i]? = some (some (.ref a)))
    (hfo : ∀ c, c ∈ fo1 i ↔ c = a ∨ c ∈ O0) (hO' : ∀ c ∈ O', c ∈ O0 ∨ (R1 c ∧ ¬ R c)) (nd : (a :: O').Nodup) (hOt : ∀ c ∈ Ot, (c ∈ O0 ∨ (R1 c ∧ ¬ R c)) ∧ c ∉ O' ∧ c ≠ a)
    (rm : ∀ B, (∀ c, B c → bn fo1 R1 c) → RepM k (upd H1 a o') B xs' (.ref a) (a :: O')) (hch : ∃ o, H1 a = some o ∧ ((∃ xs, o = .lst xs) ∨ (∃ kvs, o = .dK kvs) ∨ ∃ kvs, o = .dT kvs)) :
    At k R σ H own (env1.set i (some xs')) (fset fo1 i (a :: O')) (fun c => R c ∨ c ∈ Ot) (upd H1 a o') ∧ Stay H1 (upd H1 a o') (fun c => c = a) ∧ Okb H1 (bn fo1 R1) (bn (fset fo1 i (a :: O')) fun c => R c ∨ c ∈ Ot) (fun c => c = a) := by
  have e := a1.ok
  have ai : a ∈ fo1 i := (hfo a).mpr (.inl rfl)
  have inB : ∀ c, (c ∈ O0 ∨ (R1 c ∧ ¬ R c)) → bn fo1 R1 c := fun c z => z.elim (fun z => .inl ⟨i, (hfo c).mpr (.inr z)⟩) fun z => .inr z.1
  have ow : ∀ c, bn (fset fo1 i (a :: O')) (fun c => R c ∨ c ∈ Ot) c → bn fo1 R1 c := fun c z => by
    rcases z with ⟨j, z⟩ | z | z
    · by_cases hj : j = i
      · subst hj
        rw [fset_same] at z
        rcases List.mem_cons.mp z with z | z
        · rw [z]; exact .inl ⟨j, ai⟩
        · exact inB c (hO' c z)
      · rw [fset_ne hj] at z; exact .inl ⟨j, z⟩
    · exact .inr (a1.sub c z)
    · exact inB c (hOt c z).1
  have stt : Stay H1 (upd H1 a o') fun c => c = a := ⟨fun c o hc hn => by rw [upd_ne hn]; exact hc, fun c o hc ho => by
    obtain ⟨o2, h1, h2⟩ := hch
    rw [hc, h1] at ho
    cases ho
    exact h2⟩
  have obb : Okb H1 (bn fo1 R1) (bn (fset fo1 i (a :: O')) fun c => R c ∨ c ∈ Ot) (fun c => c = a) := fun c _ nb => ⟨fun z => nb (by rw [z]; exact .inl ⟨i, ai⟩), fun z => nb (ow c z)⟩
  have notO : ∀ j c, j ≠ i → c ∈ fo1 j → c ≠ a ∧ ¬ (c ∈ O0 ∨ (R1 c ∧ ¬ R c)) := fun j c hj hc => by
    refine ⟨fun z => hj (e.dj j i c hc (by rw [z]; exact ai)), fun z => ?_⟩
    rcases z with z | z
    · exact hj (e.dj j i c hc ((hfo c).mpr (.inr z)))
    · exact e.rs j c hc z.1
  have nR : ∀ c ∈ fo1 i, ¬ R c := fun c hc z => e.rs i c hc (a1.sub c z)
  refine ⟨⟨e.put (at_lt hs) rfl (fun _ _ => rfl) stt obb (fun j c hj hc => (notO j c hj hc).1) (fun m' z => by cases z; exact ⟨_, hx, rm _ ow⟩) (fun z => by cases z) nd (fun j c hj hc hO => ?_) (fun c hc z => ?_) (fun j c hj hc z => ?_) fun c z => ?_, fun c z => .inl z, ⟨fun c o hc hn => ?_, fun c z => ?_⟩⟩, stt, obb⟩
  · rcases List.mem_cons.mp hO with z | z
    · exact (notO j c hj hc).1 z
    · exact (notO j c hj hc).2 (hO' c z)
  · rcases List.mem_cons.mp hc with q | q
    · rcases z with z | z
      · rw [q] at z; exact nR a ai z
      · exact (hOt c z).2.2 q
    · rcases z with z | z
      · rcases hO' c q with w | w
        · exact nR c ((hfo c).mpr (.inr w)) z
        · exact w.2 z
      · exact (hOt c z).2.1 q
  · rcases z with z | z
    · exact e.rs j c hc (a1.sub c z)
    · exact (notO j c hj hc).2 (hOt c z).1
  · by_cases hca : c = a
    · rw [hca, upd_same]; simp
    · rw [upd_ne hca]
      have := ow c (.inr z)
      rcases this with w | w
      · exact e.alO w
      · exact e.al c w
  · have h1 := a1.tr.keep c o hc hn
    have hca : c ≠ a := fun z => by
      rcases a1.tr.new a (.inl ⟨i, ai⟩) with w | w
      · rw [z] at hn; exact hn w
      · rw [z, w] at hc; cases hc
    rw [upd_ne hca]; exact h1
  · have key : Own fo1 c ∨ (R1 c ∧ ¬ R c) := by
      rcases z with ⟨j, z⟩ | ⟨z, nz⟩
      · by_cases hj : j = i
        · subst hj
          rw [fset_same] at z
          rcases List.mem_cons.mp z with z | z
          · rw [z]; exact .inl ⟨j, ai⟩
          · exact (hO' c z).imp (fun z => ⟨j, (hfo c).mpr (.inr z)⟩) id
        · rw [fset_ne hj] at z; exact .inl ⟨j, z⟩
      · rcases z with z | z
        · exact absurd z nz
        · exact (hOt c z).1.imp (fun z => ⟨i, (hfo c).mpr (.inr z)⟩) id
    exact a1.tr.new c key
theorem RepMs.rev : ∀ {xs : List MV} {vs : List V} {O : List Addr}, RepMs k H B xs vs O → ∃ O', RepMs k H B xs.reverse vs.reverse O' ∧ (∀ c, c ∈ O' ↔ c ∈ O) ∧ (O.Nodup → O'.Nodup)
  | [], _, _, h => by
    obtain ⟨rfl, rfl⟩ := h
    exact ⟨[], ⟨rfl, rfl⟩, fun c => Iff.rfl, fun h => h⟩
  | x :: r, _, _, h => by
    obtain ⟨v, vs', O1, O2, e1, r1, r2, e2⟩ := h
    obtain ⟨O', g1, g2, g3⟩ := RepMs.rev r2
    subst e1 e2
    refine ⟨O' ++ (O1 ++ []), ?_, fun c => ?_, fun h => ?_⟩
    · rw [List.reverse_cons, List.reverse_cons]
      exact g1.app ⟨v, [], O1, [], rfl, r1, ⟨rfl, rfl⟩, rfl⟩
    · simp [g2 c, or_comm]
    · rw [List.append_nil]
      obtain ⟨h1, h2, h3⟩ := List.nodup_append.mp h
      exact List.nodup_append.mpr ⟨g3 h2, h1, fun x hx y hy e => h3 y hy x ((g2 x).mp hx) e.symm⟩
def MuS (k : Kx) (m : PL.Mut) (r : V → List V → Hp → VK → Prop) : Prop := ∀ (R : Addr → Prop) (σ : L2.St) (H : Hp) (own : Addr → Prop) (env1 : PL.Env) (fo1 : Nat → List Addr) (R1 : Addr → Prop) (H1 : Hp) (i : Nat) (xs ws xs' : List MV) (a : Addr) (vs ys : List V) (O0 Ow : List Addr) (r' : MV) (Q : VK),
  At k R σ H own env1 fo1 R1 H1 → env1.at i = some (.l xs) → σ[i]? = some (some (.ref a)) → H1 a = some (.lst vs) → RepMs k H1 (bn fo1 R1) xs vs O0 → fo1 i = a :: O0 → RepMs k H1 (bn fo1 R1) ws ys Ow → Tmp R R1 Ow →
  PL.mutF m xs ws = some (r', xs') → (∀ z H', PostV k R σ H own (env1.set i (some (.l xs'))) r' z H' → Q z H') → r (.ref a) ys H1 Q
theorem mem_iff {a : Addr} {O0 : List Addr} {l : List Addr} (h : l = a :: O0) : ∀ c, c ∈ l ↔ c = a ∨ c ∈ O0 := fun c => by rw [h, List.mem_cons]
theorem mus_append : MuS k .append rAppend := by
  intro R σ H own env1 fo1 R1 H1 i xs ws xs' a vs ys O0 Ow r' Q a1 hs hx ha rx hfo rw' tw hm q
  obtain ⟨v, rfl⟩ : ∃ v, ws = [v] := by
    cases ws with
    | nil => cases hm
    | cons v ws => cases ws with
      | nil => exact ⟨v, rfl⟩
      | cons _ _ => cases hm
  have hm : (if xs.length < PL.LIM then some (MV.p .non, xs ++ [v]) else none) = some (r', xs') := hm
  split at hm
  · rename_i hlt
    cases hm
    obtain ⟨y, ys', P1, P2, e1, r1, r2, e2⟩ := rw'
    obtain ⟨rfl, rfl⟩ := r2
    subst e1 e2
    rw [List.append_nil] at tw
    have ndf := a1.ok.nd i
    rw [hfo] at ndf
    have nd0 := List.nodup_cons.mp ndf
    have hO1 : ∀ c ∈ P1, c ∉ fo1 i := fun c hc z => a1.ok.rs i c z (tw.mem c hc).1
    refine ⟨a, vs, y, rfl, rfl, ha, by rw [← rx.len, ← lim_eq]; exact hlt, ?_⟩
    obtain ⟨g1, g2, g3⟩ := a1.relist (xs' := .l (xs ++ [v])) (o' := .lst (vs ++ [y])) (O' := O0 ++ P1) (Ot := []) hs hx (mem_iff hfo) (fun c hc => (List.mem_append.mp hc).imp id fun z => tw.mem c z) (by
      refine List.nodup_cons.mpr ⟨fun z => ?_, List.nodup_append.mpr ⟨nd0.2, tw.nd, fun c hc d hd e => ?_⟩⟩
      · rcases List.mem_append.mp z with z | z
        · exact nd0.1 z
        · exact hO1 a z (by rw [hfo]; exact List.mem_cons_self)
      · subst e
        exact hO1 c hd (by rw [hfo]; exact List.mem_cons_of_mem _ hc)) (fun c hc => nomatch hc) (fun B hB => by
      have st6 : Stay H1 (upd H1 a (.lst (vs ++ [y]))) fun c => c = a := ⟨fun c o hc hn => by rw [upd_ne hn]; exact hc, fun c o hc ho => by rw [hc, ha] at ho; cases ho; exact .inl ⟨_, rfl⟩⟩
      have ob : Okb H1 (bn fo1 R1) B fun c => c = a := fun c _ nb => ⟨fun z => nb (.inl ⟨i, by rw [z, hfo]; exact List.mem_cons_self⟩), fun z => nb (hB c z)⟩
      have t1 := rx.stay st6 ob fun c hc z => nd0.1 (by rw [← z]; exact hc)
      have t2 := r1.stay st6 ob fun c hc z => hO1 c hc (by rw [z, hfo]; exact List.mem_cons_self)
      have t3 : RepMs k (upd H1 a (.lst (vs ++ [y]))) B (xs ++ [v]) (vs ++ [y]) (O0 ++ (P1 ++ [])) := t1.app ⟨y, [], P1, [], rfl, t2, ⟨rfl, rfl⟩, rfl⟩
      rw [List.append_nil] at t3
      exact ⟨a, _, _, rfl, upd_same, t3, rfl⟩) ⟨_, ha, .inl ⟨_, rfl⟩⟩
    exact q _ _ (.pure g1 rfl)
  · cases hm
theorem mus_reverse : MuS k .reverse rReverse := by
  intro R σ H own env1 fo1 R1 H1 i xs ws xs' a vs ys O0 Ow r' Q a1 hs hx ha rx hfo rw' tw hm q
  obtain rfl : ws = [] := by
    cases ws with
    | nil => rfl
    | cons _ _ => cases hm
  have hm : some (MV.p .non, xs.reverse) = some (r', xs') := hm
  cases hm
  obtain ⟨rfl, rfl⟩ := rw'
  have ndf := a1.ok.nd i
  rw [hfo] at ndf
  have nd0 := List.nodup_cons.mp ndf
  obtain ⟨O', k1, k2, k3⟩ := rx.rev
  refine ⟨a, vs, rfl, rfl, ha, ?_⟩
  obtain ⟨g1, g2, g3⟩ := a1.relist (xs' := .l xs.reverse) (o' := .lst vs.reverse) (O' := O') (Ot := []) hs hx (mem_iff hfo) (fun c hc => .inl ((k2 c).mp hc)) (List.nodup_cons.mpr ⟨fun z => nd0.1 ((k2 a).mp z), k3 nd0.2⟩) (fun c hc => nomatch hc) (fun B hB => by
    have st6 : Stay H1 (upd H1 a (.lst vs.reverse)) fun c => c = a := ⟨fun c o hc hn => by rw [upd_ne hn]; exact hc, fun c o hc ho => by rw [hc, ha] at ho; cases ho; exact .inl ⟨_, rfl⟩⟩
    have ob : Okb H1 (bn fo1 R1) B fun c => c = a := fun c _ nb => ⟨fun z => nb (.inl ⟨i, by rw [z, hfo]; exact List.mem_cons_self⟩), fun z => nb (hB c z)⟩
    exact ⟨a, _, _, rfl, upd_same, k1.stay st6 ob fun c hc z => nd0.1 (by rw [← z]; exact (k2 c).mp hc), rfl⟩) ⟨_, ha, .inl ⟨_, rfl⟩⟩
  exact q _ _ (.pure g1 rfl)
theorem mus_pop : MuS k .pop rPop := by
  intro R σ H own env1 fo1 R1 H1 i xs ws xs' a vs ys O0 Ow r' Q a1 hs hx ha rx hfo rw' tw hm q
  obtain rfl : ws = [] := by
    cases ws with
    | nil => rfl
    | cons _ _ => cases hm
  have hm : (match xs.getLast? with | some v => some (v, xs.dropLast) | none => none) = some (r', xs') := hm
  split at hm
  · rename_i v hv
    injection hm with hm
    injection hm with h1 h2
    subst h1 h2
    obtain ⟨rfl, rfl⟩ := rw'
    have ndf := a1.ok.nd i
    rw [hfo] at ndf
    have nd0 := List.nodup_cons.mp ndf
    have hne : xs ≠ [] := fun z => by rw [z] at hv; cases hv
    have hl : xs[xs.length - 1]? = some v := by rw [List.getLast?_eq_getElem?] at hv; exact hv
    obtain ⟨vs1, y, vs2, O1, Oj, O2, e1, e2, e3, t1, rj, t2⟩ := rx.split hl
    have hd : xs.drop (xs.length - 1 + 1) = [] := List.drop_eq_nil_of_le (by omega)
    rw [hd] at t2
    obtain ⟨rfl, rfl⟩ := t2
    rw [List.append_nil] at e3
    have hlen := rx.len
    refine ⟨a, vs, y, rfl, rfl, ha, ?_, ?_⟩
    · rw [e1, List.length_append, List.length_singleton]; simp
    · have hvd : vs.dropLast = vs1 := by rw [e1]; simp
      have hxd : xs.dropLast = xs.take (xs.length - 1) := List.dropLast_eq_take
      rw [hvd]
      rw [e3] at nd0
      obtain ⟨n1, n2, n3⟩ := List.nodup_append.mp nd0.2
      have st6 : Stay H1 (upd H1 a (.lst vs1)) fun c => c = a := ⟨fun c o hc hn => by rw [upd_ne hn]; exact hc, fun c o hc ho => by rw [hc, ha] at ho; cases ho; exact .inl ⟨_, rfl⟩⟩
      obtain ⟨g1, g2, g3⟩ := a1.relist (xs' := .l xs.dropLast) (o' := .lst vs1) (O' := O1) (Ot := Oj) hs hx (mem_iff hfo) (fun c hc => .inl (by rw [e3]; exact List.mem_append_left _ hc)) (List.nodup_cons.mpr ⟨fun z => nd0.1 (List.mem_append_left _ z), n1⟩) (fun c hc => ⟨.inl (by rw [e3]; exact List.mem_append_right _ hc), fun z => n3 c z c hc rfl, fun z => nd0.1 (by rw [← z]; exact List.mem_append_right _ hc)⟩) (fun B hB => by
        have ob : Okb H1 (bn fo1 R1) B fun c => c = a := fun c _ nb => ⟨fun z => nb (.inl ⟨i, by rw [z, hfo]; exact List.mem_cons_self⟩), fun z => nb (hB c z)⟩
        rw [hxd]
        exact ⟨a, _, _, rfl, upd_same, t1.stay st6 ob fun c hc z => nd0.1 (by rw [← z]; exact List.mem_append_left _ hc), rfl⟩) ⟨_, ha, .inl ⟨_, rfl⟩⟩
      refine q y _ ⟨_, _, Oj, g1, rj.stay g2 g3 fun c hc z => nd0.1 (by rw [← z]; exact List.mem_append_right _ hc), n2, fun c hc => ⟨.inr hc, fun z => a1.ok.rs i c (by rw [hfo, e3]; exact List.mem_cons_of_mem _ (List.mem_append_right _ hc)) (a1.sub c z)⟩⟩
  · cases hm
theorem mus_extend : MuS k .extend rExtend := by
  intro R σ H own env1 fo1 R1 H1 i xs ws xs' a vs ys O0 Ow r' Q a1 hs hx ha rx hfo rw' tw hm q
  obtain ⟨v, rfl⟩ : ∃ v, ws = [v] := by
    cases ws with
    | nil => cases hm
    | cons v ws => cases ws with
      | nil => exact ⟨v, rfl⟩
      | cons _ _ => cases hm
  have hm : (match PL.lstV v with | some l => (if xs.length + l.length ≤ PL.LIM then some (MV.p .non, xs ++ l.map .p) else none) | none => none) = some (r', xs') := hm
  split at hm
  · rename_i l hl
    split at hm
    · rename_i hlt
      cases hm
      obtain ⟨y, ys', P1, P2, e1, r1, r2, e2⟩ := rw'
      obtain ⟨rfl, rfl⟩ := r2
      subst e1 e2
      have ndf := a1.ok.nd i
      rw [hfo] at ndf
      have nd0 := List.nodup_cons.mp ndf
      obtain ⟨b, zs, ey, hb, tz⟩ := lstV_rep hl r1
      subst ey
      refine ⟨a, b, vs, zs, rfl, rfl, ha, hb, by rw [← rx.len, ← tz.len, ← lim_eq]; exact hlt, ?_⟩
      obtain ⟨g1, g2, g3⟩ := a1.relist (xs' := .l (xs ++ l.map .p)) (o' := .lst (vs ++ zs)) (O' := O0) (Ot := []) hs hx (mem_iff hfo) (fun c hc => .inl hc) ndf (fun c hc => nomatch hc) (fun B hB => by
        have st6 : Stay H1 (upd H1 a (.lst (vs ++ zs))) fun c => c = a := ⟨fun c o hc hn => by rw [upd_ne hn]; exact hc, fun c o hc ho => by rw [hc, ha] at ho; cases ho; exact .inl ⟨_, rfl⟩⟩
        have ob : Okb H1 (bn fo1 R1) B fun c => c = a := fun c _ nb => ⟨fun z => nb (.inl ⟨i, by rw [z, hfo]; exact List.mem_cons_self⟩), fun z => nb (hB c z)⟩
        have t1 := rx.stay st6 ob fun c hc z => nd0.1 (by rw [← z]; exact hc)
        have t3 := t1.app (repMs_map (tz.stay st6 ob))
        rw [List.append_nil] at t3
        exact ⟨a, _, _, rfl, upd_same, t3, rfl⟩) ⟨_, ha, .inl ⟨_, rfl⟩⟩
      exact q _ _ (.pure g1 rfl)
    · cases hm
  · cases hm
/-- x.m(..) of a slot's list -/
theorem rd_mut {m : PL.Mut} {r : V → List V → Hp → VK → Prop} (hs : MuS k m r) {i : Nat} {Q : VK} (h : tE k W C (.mut m i ies) σ H Q) : tBM k.K "list" r (tVar i) (tVs k W C ies) σ H Q := by
  obtain ⟨env, fo, R, ok, o⟩ := h
  unfold PL.ev at o
  cases hi : env.at i with
  | none => rw [hi] at o; exact o.elim
  | some m0 =>
    rw [hi] at o
    cases m0 with
    | p v => exact o.elim
    | d t ks vs => exact o.elim
    | l xs0 =>
      obtain ⟨x, hx, rx0⟩ := ok.rep i _ hi
      obtain ⟨a, vs0, O0, ex, hv0, _, _⟩ := rx0
      subst ex
      refine ⟨.ref a, hx, .inl ⟨rfl, vs0, SqL.of hv0⟩, env, fo, R, ok, (Outc.bind o).imp fun ws e1 q1 ys H1 p1 => ?_⟩
      obtain ⟨fo1, R1, Ow, a1, rw', tw⟩ := p1
      cases hi1 : e1.at i with
      | none => rw [hi1] at q1; exact q1.elim
      | some m1 =>
        rw [hi1] at q1
        cases m1 with
        | p v => exact q1.elim
        | d t ks vs => exact q1.elim
        | l xs =>
          change Outc _ _ _ _ _ _ _ (match PL.mutF m xs ws with | some (r, xs') => PL.Res.ok r (e1.set i (some (MV.l xs'))) | none => PL.Res.bad) at q1
          obtain ⟨x', hx', rx⟩ := a1.ok.rep i _ hi1
          rw [hx] at hx'
          cases hx'
          obtain ⟨a', vs, O1, ex, hv, rxs, hfo⟩ := rx
          cases ex
          cases hm : PL.mutF m xs ws with
          | none => rw [hm] at q1; exact q1.elim
          | some pr =>
            obtain ⟨r', xs'⟩ := pr
            rw [hm] at q1
            exact hs R σ H (Own fo) e1 fo1 R1 H1 i xs ws xs' a vs ys O1 Ow r' Q a1 hi1 hx hv rxs hfo rw' tw hm q1
theorem rd_mut0 {m : PL.Mut} {r : V → List V → Hp → VK → Prop} (hs : MuS k m r) {i : Nat} {Q : VK} (h : tE k W C (.mut m i .nil) σ H Q) : tBM0 k.K "list" r (tVar i) σ H Q := by
  obtain ⟨x, hx, ty, env, fo, R, ok, o⟩ := rd_mut hs h
  unfold PL.evs at o
  exact ⟨x, hx, ty, o [] H ⟨fo, R, [], .refl ok, ⟨rfl, rfl⟩, .nil⟩⟩
end
end LB

end
section
set_option Elab.async false
set_option linter.all false
set_option maxRecDepth 100000
set_option maxHeartbeats 1000000
/-! Layer B, m: stores into lists and dicts. -/
namespace LB
open PySem PySem.Spec PyProof.Rows L2
open PL (PV MV Txt IE IEs IT II IS ISs)
section
variable {X : Cx} {k : Kx} {W : WX} {C : PL.Ctx} {R R' R1 R2 R4 : Addr → Prop} {σ σ' σ3 τ : L2.St} {H H' H1 H2 H4 : Hp} {own B : Addr → Prop} {env env' env0 env1 env2 rs ε ε4 : PL.Env} {fo fo1 fo2 fo4 : Nat → List Addr} {lock ow : List Nat}
variable {e a b c tg : Expr} {es : List Expr} {ie ia ib ic : IE} {ies : IEs} {pos p p2 : Pos} {t u : IT} {ii : II} {st : Stmt} {sts : List Stmt} {is : IS} {iss : ISs}
theorem At.reslot (a1 : At k R σ H own env1 fo1 R1 H1) {i : Nat} {m m' : MV} {x : V} {b : Addr} {o' : HO} {F' : List Addr} (hs : env1.at i = some m) (hx : σ[i]? = some (some x)) (hb : b ∈ fo1 i)
    (hF : ∀ c ∈ F', c ∈ fo1 i ∨ (R1 c ∧ ¬ R c)) (nd : F'.Nodup) (rm : ∀ B, (∀ c, B c → bn fo1 R1 c) → RepM k (upd H1 b o') B m' x F') :
    At k R σ H own (env1.set i (some m')) (fset fo1 i F') R (upd H1 b o') := by
  have e := a1.ok
  have inB : ∀ c, (c ∈ fo1 i ∨ (R1 c ∧ ¬ R c)) → bn fo1 R1 c := fun c z => z.elim (fun z => .inl ⟨i, z⟩) fun z => .inr z.1
  have ow : ∀ c, bn (fset fo1 i F') R c → bn fo1 R1 c := fun c z => by
    rcases z with ⟨j, z⟩ | z
    · by_cases hj : j = i
      · subst hj
        rw [fset_same] at z
        exact inB c (hF c z)
      · rw [fset_ne hj] at z; exact .inl ⟨j, z⟩
    · exact .inr (a1.sub c z)
  have stt : Stay H1 (upd H1 b o') fun c => c = b := ⟨fun c o hc hn => by rw [upd_ne hn]; exact hc, fun c o hc ho => by rw [hc] at ho; exact e.chg b o ⟨i, hb⟩ ho⟩
  have notO : ∀ j c, j ≠ i → c ∈ fo1 j → c ≠ b ∧ ¬ (c ∈ fo1 i ∨ (R1 c ∧ ¬ R c)) := fun j c hj hc => by
    refine ⟨fun z => hj (e.dj j i c hc (by rw [z]; exact hb)), fun z => ?_⟩
    rcases z with z | z
    · exact hj (e.dj j i c hc z)
    · exact e.rs j c hc z.1
  refine ⟨e.put (at_lt hs) rfl (fun _ _ => rfl) stt (fun c _ nb => ⟨fun z => nb (by rw [z]; exact .inl ⟨i, hb⟩), fun z => nb (ow c z)⟩) (fun j c hj hc => (notO j c hj hc).1) (fun m2 z => by cases z; exact ⟨_, hx, rm _ ow⟩) (fun z => by cases z) nd (fun j c hj hc hO => (notO j c hj hc).2 (hF c hO)) (fun c hc z => ?_) (fun j c hj hc z => e.rs j c hc (a1.sub c z)) fun c z => ?_, fun c z => z, ⟨fun c o hc hn => ?_, fun c z => ?_⟩⟩
  · rcases hF c hc with w | w
    · exact e.rs i c w (a1.sub c z)
    · exact w.2 z
  · by_cases hca : c = b
    · rw [hca, upd_same]; simp
    · rw [upd_ne hca]; exact e.al c (a1.sub c z)
  · have h1 := a1.tr.keep c o hc hn
    have hca : c ≠ b := fun z => by
      rcases a1.tr.new b (.inl ⟨i, hb⟩) with w | w
      · rw [z] at hn; exact hn w
      · rw [z, w] at hc; cases hc
    rw [upd_ne hca]; exact h1
  · rcases z with ⟨j, z⟩ | ⟨z, nz⟩
    · by_cases hj : j = i
      · subst hj
        rw [fset_same] at z
        rcases hF c z with w | w
        · exact a1.tr.new c (.inl ⟨j, w⟩)
        · exact a1.tr.new c (.inr w)
      · rw [fset_ne hj] at z; exact a1.tr.new c (.inl ⟨j, z⟩)
    · exact absurd z nz
def rSetK : TSet := fun o i v H Q => rSetL o i v H Q ∨ rSetD o i v H Q
theorem set_K (hu : X.A.units + 1 < cLine) : PSet X rSetK := by
  intro pins s σ H o i v ov iv u Q I ro ri rv h
  rcases h with h | h
  · exact set_list pins s σ H o i v ov iv u Q I ro ri rv h
  · exact set_dict hu pins s σ H o i v ov iv u Q I ro ri rv h
theorem set_mid {α : Type} {l1 l2 : List α} {z x : α} {j : Nat} (h : l1.length = j) : (l1 ++ z :: l2).set j x = l1 ++ x :: l2 := by
  subst h
  rw [List.set_append, if_neg (by omega)]
  simp
/-- a store into a list of a slot -/
theorem rd_six {i : Nat} {D : Ends} (h : tS k W C (.six i ib ie) D σ H) : tAsg (tE k W C ie) (gSub (tVar i) (tE k W C ib) rSetK) D σ H := by
  obtain ⟨env, fo, R, ok, o⟩ := h
  unfold PL.evS at o
  split at o
  · exact o.elim
  · rename_i hno
    obtain ⟨m0, hm0⟩ : ∃ m, env.at i = some m := by
      cases q : env.at i with
      | none => rw [q] at hno; exact absurd rfl hno
      | some m => exact ⟨m, rfl⟩
    obtain ⟨x0, hx0, _⟩ := ok.rep i m0 hm0
    refine ⟨env, fo, R, ok, o.bind.imp fun v e1 q1 x H1 p1 => ⟨x0, hx0, ?_⟩⟩
    obtain ⟨fo1, R1, O1, a1, r1, t1⟩ := p1
    refine ⟨e1, fo1, R1, a1.ok, (q1.bind.step a1 fun _ _ z => z).imp fun κ e2 q2 y H2 p2 => ?_⟩
    obtain ⟨fo2, R2, O2, a2, r2, t2⟩ := p2
    have a12 := a1.step a2
    have r1' := At.val a1.ok a2 (fun a h => (t1.mem a h).1) r1
    have tm1 : ∀ c ∈ O1, R2 c ∧ ¬ R c := fun c hc => ⟨a2.sub c (t1.mem c hc).1, (t1.mem c hc).2⟩
    have e := a2.ok
    split at q2
    · rename_i xs j hi
      split at q2
      · rename_i n hn
        obtain ⟨x', hx', rx⟩ := e.rep i _ hi
        rw [hx0] at hx'
        cases hx'
        obtain ⟨a, vs, O0, ex, hv, rxs, hfo⟩ := rx
        have hlen := rxs.len
        have hnl : n < xs.length := by
          unfold PL.ixN at hn
          split at hn
          · split at hn
            · cases hn; omega
            · cases hn
          · split at hn
            · cases hn; omega
            · cases hn
        have hg : xs[n]? = some xs[n] := by simp [hnl]
        obtain ⟨vs1, z, vs2, P1, Pj, P3, e1', e2', e3', k1, k2, k3⟩ := rxs.split hg
        have ndf := e.nd i
        rw [hfo, e3'] at ndf
        have nd0 := List.nodup_cons.mp ndf
        obtain ⟨n1, n2, n3⟩ := List.nodup_append.mp nd0.2
        obtain ⟨n4, n5, n6⟩ := List.nodup_append.mp n2
        have ai : a ∈ fo2 i := by rw [hfo]; exact List.mem_cons_self
        have hO1 : ∀ c ∈ O1, c ∉ fo2 i := fun c hc w => e.rs i c w (tm1 c hc).1
        have m1 : ∀ c ∈ P1, c ∈ fo2 i := fun c hc => by rw [hfo, e3']; exact List.mem_cons_of_mem _ (List.mem_append_left _ hc)
        have m3 : ∀ c ∈ P3, c ∈ fo2 i := fun c hc => by rw [hfo, e3']; exact List.mem_cons_of_mem _ (List.mem_append_right _ (List.mem_append_right _ hc))
        refine .inl ⟨a, vs, j, n, ex, r2.1, hv, by rw [← ixN_eq, ← hlen]; exact hn, ?_⟩
        have hset : vs.set n x = vs1 ++ x :: vs2 := by rw [e1']; exact set_mid e2'
        rw [hset]
        have g := a12.reslot (m' := .l (xs.set n v)) (o' := .lst (vs1 ++ x :: vs2)) (F' := a :: (P1 ++ (O1 ++ P3))) hi hx0 ai (fun c hc => ?_) ?_ fun B hB => ?_
        · exact q2 σ _ ⟨.refl, _, g⟩
        · rcases List.mem_cons.mp hc with w | w
          · rw [w]; exact .inl ai
          · rcases List.mem_append.mp w with w | w
            · exact .inl (m1 c w)
            · rcases List.mem_append.mp w with w | w
              · exact .inr (tm1 c w)
              · exact .inl (m3 c w)
        · refine List.nodup_cons.mpr ⟨fun w => ?_, List.nodup_append.mpr ⟨n1, List.nodup_append.mpr ⟨t1.nd, n5, fun c hc d hd ed => ?_⟩, fun c hc d hd ed => ?_⟩⟩
          · rcases List.mem_append.mp w with w | w
            · exact nd0.1 (List.mem_append_left _ w)
            · rcases List.mem_append.mp w with w | w
              · exact hO1 a w ai
              · exact nd0.1 (List.mem_append_right _ (List.mem_append_right _ w))
          · subst ed
            exact hO1 c hc (m3 c hd)
          · subst ed
            rcases List.mem_append.mp hd with w | w
            · exact hO1 c w (m1 c hc)
            · exact n3 c hc c (List.mem_append_right _ w) rfl
        · have st6 : Stay H2 (upd H2 a (.lst (vs1 ++ x :: vs2))) fun c => c = a := ⟨fun c o hc hn => by rw [upd_ne hn]; exact hc, fun c o hc ho => by rw [hc, hv] at ho; cases ho; exact .inl ⟨_, rfl⟩⟩
          have ob : Okb H2 (bn fo2 R2) B fun c => c = a := fun c _ nb => ⟨fun z => nb (by rw [z]; exact .inl ⟨i, ai⟩), fun z => nb (hB c z)⟩
          rw [ex]
          exact ⟨a, _, _, rfl, upd_same, RepMs.join hg (k1.stay st6 ob fun c hc z => nd0.1 (by rw [← z]; exact List.mem_append_left _ hc)) (r1'.stay st6 ob fun c hc z => hO1 c hc (by rw [z]; exact ai)) (k3.stay st6 ob fun c hc z => nd0.1 (by rw [← z]; exact List.mem_append_right _ (List.mem_append_right _ hc))), rfl⟩
      · exact q2.elim
    · rename_i tt ks ws kk hi
      split at q2
      · rename_i hc
        rw [Bool.and_eq_true, decide_eq_true_eq] at hc
        obtain ⟨x', hx', rx⟩ := e.rep i _ hi
        rw [hx0] at hx'
        cases hx'
        obtain ⟨a, vs, ex, rws, hfo, dic⟩ := rx
        have ai : a ∈ fo2 i := by rw [hfo]; exact List.mem_singleton.mpr rfl
        have ad : At k R σ H (Own fo) e2 fo2 R H2 := a12.drop a12.sub fun _ h => h
        have bs : ∀ c, bn fo2 R c → bn fo2 R2 c := fun c z => z.imp id fun z => a12.sub c z
        have rv : RepP k H2 (bn fo2 R) (PL.frz v) x := r1'.frz (fun c _ nb z => nb (bs c z)) fun c hc z => by
          rcases z with ⟨l, z⟩ | z
          · exact e.rs l c z (tm1 c hc).1
          · exact (tm1 c hc).2 z
        have rk : RepP k H2 (bn fo2 R) kk y := r2.1.ban bs
        have rws' : RepPs k H2 (bn fo2 R) ws vs := rws.stay (S := fun _ => False) (stay_refl fun _ => id) fun c _ nb => ⟨id, fun z => nb (bs c z)⟩
        obtain ⟨o', vs', d1, d2, d3, d4⟩ := dic_put (w := PL.frz v) (v := x) dic rws' hc.1 rk rv (by rw [← lim_eq]; exact hc.2)
        refine .inr ⟨a, _, ex, d1, ?_⟩
        obtain ⟨oo, ho, _⟩ := dic.there
        have g := ad.reslot (m' := .d tt (PL.dput ks ws kk (PL.frz v)).1 (PL.dput ks ws kk (PL.frz v)).2) (o' := o') (F' := [a]) hi hx0 ai (fun c hc => .inl (by rw [hfo]; exact hc)) (by simp) fun B hB => ?_
        · exact q2 σ _ ⟨.refl, _, g⟩
        · have st6 : Stay H2 (upd H2 a o') fun c => c = a := ⟨fun c o hc hn => by rw [upd_ne hn]; exact hc, fun c o hc ho' => by rw [hc] at ho'; exact e.chg a o ⟨i, ai⟩ ho'⟩
          have ob : Okb H2 (bn fo2 R) B fun c => c = a := fun c _ nb => ⟨fun z => nb (by rw [z]; exact .inl ⟨i, ai⟩), fun z => nb (hB c z)⟩
          rw [ex]
          exact ⟨a, vs', rfl, d3.stay st6 ob, rfl, d2⟩
      · exact q2.elim
    · exact q2.elim
/-! ### in the statement's form -/
theorem sw_sub {o i : Expr} {p1 : Pos} {l : Nat} {en : PySem.Env} : swapsWithSole [.Subscript o i p1] e l en = pure false := by
  cases e <;> rfl
theorem sst_sub {o i : Expr} {p1 : Pos} {en : PySem.Env} : swappedStores [.Subscript o i p1] e en = pure none := by
  cases e <;> rfl
theorem asg_sub {o i : Expr} {p1 : Pos} {en : PySem.Env} (h : plainIx i = true) (v : Value) : assign (.Subscript o i p1) en v = (do
      let ov ← holding [v] (eval o en)
      let iv ← holding [v, ov] (eval i en)
      standAt p1
      holding [v, ov, iv] (setItem ov iv v)
      release [v, ov, iv] []) := by
  cases i <;> first | rfl | cases h
theorem ss_six {i : Nat} {x : Str} {p1 p3 : Pos} (hu : X.A.units + 1 < cLine) (hN : X.N[i]? = some x) (hv : Vis X.env.scope x) (hd : (x == ("__debug__" : Str)) = false) (hcd : (x == ("__classdict__" : Str)) = false) (hb : PE X b (tE k W C ib)) (he : PE X e (tE k W C ie)) (hp : plainIx b = true) :
    PS X (.Assign [.Subscript (.Name x p1) b p3] e pos) (tS k W C (.six i ib ie)) := imS (ps_asg he (pg_sub (pe_var hN hv hd hcd) hb (set_K hu) (asg_sub hp)) sw_sub sst_sub rfl) fun _ _ _ h => rd_six h
/-- a store into a list within a list of a slot -/
theorem rd_six2 {i : Nat} {ik : IE} {D : Ends} (pk : pureE ik = true) (h : tS k W C (.six2 i ib ik ie) D σ H) : tAsg (tE k W C ie) (gSub (tOp (rIxK k.K) (tVar i) (tE k W C ib)) (tPI k C ik) rSetK) D σ H := by
  obtain ⟨env, fo, R, ok, o⟩ := h
  unfold PL.evS at o
  split at o
  · exact o.elim
  · rename_i hno
    obtain ⟨m0, hm0⟩ : ∃ m, env.at i = some m := by
      cases q : env.at i with
      | none => rw [q] at hno; exact absurd rfl hno
      | some m => exact ⟨m, rfl⟩
    obtain ⟨x0, hx0, _⟩ := ok.rep i m0 hm0
    refine ⟨env, fo, R, ok, o.bind.imp fun v e1 q1 x H1 p1 => ⟨x0, hx0, ?_⟩⟩
    obtain ⟨fo1, R1, O1, a1, r1, t1⟩ := p1
    refine ⟨e1, fo1, R1, a1.ok, (q1.bind.step a1 fun _ _ z => z).imp fun κ e2 q2 y H2 p2 => ?_⟩
    obtain ⟨fo2, R2, O2, a2, r2, t2⟩ := p2
    have a12 := a1.step a2
    have r1' := At.val a1.ok a2 (fun a h => (t1.mem a h).1) r1
    have tm1 : ∀ c ∈ O1, R2 c ∧ ¬ R c := fun c hc => ⟨a2.sub c (t1.mem c hc).1, (t1.mem c hc).2⟩
    have e := a2.ok
    cases hj : PL.ev C ik e2 with
    | ex e3 ε => exact (pure_noex pk hj).elim
    | bad => rw [hj] at q2; exact q2.elim
    | ok w2 e3 =>
      rw [hj] at q2
      dsimp only [PL.Res.bind] at q2
      split at q2
      · rename_i xs ja jb hi
        have ee := pure_env pk hj
        subst ee
        obtain ⟨x', hx', rx⟩ := e.rep i _ hi
        rw [hx0] at hx'
        cases hx'
        obtain ⟨a, vs, O0, ex, hv, rxs, hfo⟩ := rx
        split at q2
        · rename_i n hn
          split at q2
          · rename_i ys hy
            split at q2
            · rename_i mm hmm
              obtain ⟨vs1, z, vs2, P1, Pj, P3, g1, g2, g3, k1, k2, k3⟩ := rxs.split hy
              obtain ⟨b', us, Q0, eb, hus, rus, eQ⟩ := k2
              subst eb
              have hat : atI vs ja = some (.ref b') := atI_of rxs.len hn (by rw [g1, ← g2]; simp)
              refine .inr (.inl ⟨a, vs, ja, .ref b', ex, r2.1, SqL.of hv, hat, e3, fo2, R2, jb, e3, a2.ok, hj, .inl ⟨b', us, jb, mm, rfl, rfl, hus, by rw [← ixN_eq, ← rus.len]; exact hmm, ?_⟩⟩)
              have hml : mm < ys.length := by
                unfold PL.ixN at hmm
                split at hmm
                · split at hmm
                  · cases hmm; omega
                  · cases hmm
                · split at hmm
                  · cases hmm; omega
                  · cases hmm
              have hg : ys[mm]? = some ys[mm] := by simp [hml]
              obtain ⟨us1, z2, us2, S1, Sj, S3, f1, f2, f3, l1, l2, l3⟩ := rus.split hg
              have hset : us.set mm x = us1 ++ x :: us2 := by rw [f1]; exact set_mid f2
              rw [hset]
              have ndf := e.nd i
              rw [hfo, g3, eQ, f3] at ndf
              have nd0 := List.nodup_cons.mp ndf
              obtain ⟨n1, n2, n3⟩ := List.nodup_append.mp nd0.2
              obtain ⟨n4, n5, n6⟩ := List.nodup_append.mp n2
              have nb := List.nodup_cons.mp n4
              obtain ⟨n7, n8, n9⟩ := List.nodup_append.mp nb.2
              obtain ⟨n10, n11, n12⟩ := List.nodup_append.mp n8
              have mem : ∀ c, c ∈ fo2 i ↔ c = a ∨ c ∈ P1 ∨ (c = b' ∨ c ∈ S1 ∨ c ∈ Sj ∨ c ∈ S3) ∨ c ∈ P3 := fun c => by
                rw [hfo, g3, eQ, f3]
                simp [List.mem_append, or_assoc]
              have bi : b' ∈ fo2 i := (mem b').mpr (.inr (.inr (.inl (.inl rfl))))
              have hO1 : ∀ c ∈ O1, c ∉ fo2 i := fun c hc w => e.rs i c w (tm1 c hc).1
              have hba : a ≠ b' := fun z => nd0.1 (by rw [z]; exact List.mem_append_right _ (List.mem_append_left _ List.mem_cons_self))
              have nP1 : ∀ c ∈ P1, c ≠ b' := fun c hc z => n3 c hc c (by rw [z]; exact List.mem_append_left _ List.mem_cons_self) rfl
              have nP3 : ∀ c ∈ P3, c ≠ b' := fun c hc z => n6 b' List.mem_cons_self c hc z.symm
              have nS1 : ∀ c ∈ S1, c ≠ b' := fun c hc z => nb.1 (by rw [← z]; exact List.mem_append_left _ hc)
              have nS3 : ∀ c ∈ S3, c ≠ b' := fun c hc z => nb.1 (by rw [← z]; exact List.mem_append_right _ (List.mem_append_right _ hc))
              have g := a12.reslot (m' := .l (xs.set n (.l (ys.set mm v)))) (o' := .lst (us1 ++ x :: us2)) (F' := a :: (P1 ++ ((b' :: (S1 ++ (O1 ++ S3))) ++ P3))) hi hx0 bi (fun c hc => ?_) ?_ fun B hB => ?_
              · exact q2 σ _ ⟨.refl, _, g⟩
              · by_cases hO : c ∈ O1
                · exact .inr (tm1 c hO)
                · refine .inl ((mem c).mpr ?_)
                  simp only [List.mem_cons, List.mem_append] at hc
                  rcases hc with h | h | (h | h | h | h) | h
                  · exact .inl h
                  · exact .inr (.inl h)
                  · exact .inr (.inr (.inl (.inl h)))
                  · exact .inr (.inr (.inl (.inr (.inl h))))
                  · exact absurd h hO
                  · exact .inr (.inr (.inl (.inr (.inr (.inr h)))))
                  · exact .inr (.inr (.inr h))
              · have hI : ∀ c, c ∈ S1 ++ (O1 ++ S3) → c ∈ O1 ∨ c ∈ S1 ∨ c ∈ S3 := fun c hc => by
                  simp only [List.mem_append] at hc
                  rcases hc with h | h | h
                  · exact .inr (.inl h)
                  · exact .inl h
                  · exact .inr (.inr h)
                have ndI : (S1 ++ (O1 ++ S3)).Nodup := by
                  refine List.nodup_append.mpr ⟨n7, List.nodup_append.mpr ⟨t1.nd, n11, fun c hc d hd ed => ?_⟩, fun c hc d hd ed => ?_⟩
                  · subst ed
                    exact hO1 c hc ((mem c).mpr (.inr (.inr (.inl (.inr (.inr (.inr hd)))))))
                  · subst ed
                    rcases List.mem_append.mp hd with w | w
                    · exact hO1 c w ((mem c).mpr (.inr (.inr (.inl (.inr (.inl hc))))))
                    · exact n9 c hc c (List.mem_append_right _ w) rfl
                have ndB : (b' :: (S1 ++ (O1 ++ S3))).Nodup := List.nodup_cons.mpr ⟨fun w => by
                  rcases hI b' w with w | w | w
                  · exact hO1 b' w bi
                  · exact nS1 b' w rfl
                  · exact nS3 b' w rfl, ndI⟩
                have inB : ∀ c, c ∈ b' :: (S1 ++ (O1 ++ S3)) → c ∈ O1 ∨ c ∈ b' :: (S1 ++ (Sj ++ S3)) := fun c hc => by
                  rcases List.mem_cons.mp hc with w | w
                  · exact .inr (by rw [w]; exact List.mem_cons_self)
                  · rcases hI c w with w | w | w
                    · exact .inl w
                    · exact .inr (List.mem_cons_of_mem _ (List.mem_append_left _ w))
                    · exact .inr (List.mem_cons_of_mem _ (List.mem_append_right _ (List.mem_append_right _ w)))
                refine List.nodup_cons.mpr ⟨fun w => ?_, List.nodup_append.mpr ⟨n1, List.nodup_append.mpr ⟨ndB, n5, fun c hc d hd ed => ?_⟩, fun c hc d hd ed => ?_⟩⟩
                · rcases List.mem_append.mp w with w | w
                  · exact nd0.1 (List.mem_append_left _ w)
                  · rcases List.mem_append.mp w with w | w
                    · rcases inB a w with w | w
                      · exact hO1 a w ((mem a).mpr (.inl rfl))
                      · exact nd0.1 (List.mem_append_right _ (List.mem_append_left _ w))
                    · exact nd0.1 (List.mem_append_right _ (List.mem_append_right _ w))
                · subst ed
                  rcases inB c hc with w | w
                  · exact hO1 c w ((mem c).mpr (.inr (.inr (.inr hd))))
                  · exact n6 c w c hd rfl
                · subst ed
                  rcases List.mem_append.mp hd with w | w
                  · rcases inB c w with w | w
                    · exact hO1 c w ((mem c).mpr (.inr (.inl hc)))
                    · exact n3 c hc c (List.mem_append_left _ w) rfl
                  · exact n3 c hc c (List.mem_append_right _ w) rfl
              · have st6 : Stay H2 (upd H2 b' (.lst (us1 ++ x :: us2))) fun c => c = b' := ⟨fun c o hc hn => by rw [upd_ne hn]; exact hc, fun c o hc ho => by rw [hc, hus] at ho; cases ho; exact .inl ⟨_, rfl⟩⟩
                have ob : Okb H2 (bn fo2 R2) B fun c => c = b' := fun c _ nb => ⟨fun z => nb (by rw [z]; exact .inl ⟨i, bi⟩), fun z => nb (hB c z)⟩
                rw [ex]
                refine ⟨a, vs1 ++ .ref b' :: vs2, _, rfl, by rw [upd_ne hba, ← g1]; exact hv, RepMs.join hy (k1.stay st6 ob nP1) ⟨b', _, _, rfl, upd_same, RepMs.join hg (l1.stay st6 ob nS1) (r1'.stay st6 ob fun c hc z => hO1 c hc (by rw [z]; exact bi)) (l3.stay st6 ob nS3), rfl⟩ (k3.stay st6 ob nP3), rfl⟩
            · exact q2.elim
          · exact q2.elim
        · exact q2.elim
      · exact q2.elim
theorem ss_six2 {i : Nat} {ik : IE} {x : Str} {p1 p3 p4 : Pos} (hu : X.A.units + 1 < cLine) (hK : X.K = k.K) (hN : X.N[i]? = some x) (hv : Vis X.env.scope x) (hd : (x == ("__debug__" : Str)) = false) (hcd : (x == ("__classdict__" : Str)) = false) (hb : PE X b (tE k W C ib)) (hc : PE X c (tPI k C ik)) (pk : pureE ik = true) (he : PE X e (tE k W C ie)) (hp : plainIx b = true) (hp2 : plainIx c = true) :
    PS X (.Assign [.Subscript (.Subscript (.Name x p1) b p3) c p4] e pos) (tS k W C (.six2 i ib ik ie)) := imS (ps_asg he (pg_sub (pe_ix (ix_all hu) (pe_var hN hv hd hcd) hb (plainIx_ok hp)) hc (set_K hu) (asg_sub hp2)) sw_sub sst_sub rfl) fun _ _ _ h => by
  have := rd_six2 pk h
  rw [hK]
  exact this
end
end LB

end
section
set_option Elab.async false
set_option linter.all false
set_option maxRecDepth 100000
set_option maxHeartbeats 1000000
/-! Layer B, n: in, pairs of targets, an empty dict. -/
namespace LB
open PySem PySem.Spec PyProof.Rows L2
open PL (PV MV Txt IE IEs IT II IS ISs)
section
variable {X : Cx} {k : Kx} {W : WX} {C : PL.Ctx} {R R' R1 R2 R4 : Addr → Prop} {σ σ' σ3 τ : L2.St} {H H' H1 H2 H4 : Hp} {own B : Addr → Prop} {env env' env0 env1 env2 rs ε ε4 : PL.Env} {fo fo1 fo2 fo4 : Nat → List Addr} {lock ow : List Nat}
variable {e a b c tg : Expr} {es : List Expr} {ie ia ib ic : IE} {ies : IEs} {pos p p2 : Pos} {t u : IT} {ii : II} {st : Stmt} {sts : List Stmt} {is : IS} {iss : ISs}
/-! ### in -/
def rInD (neg : Bool) : L2.R2 := fun x y H Q => ∃ a o, y = .ref a ∧ DGet H a x o ∧ Q (.bl (if neg then !o.isSome else o.isSome)) H
theorem op_inD (hu : X.A.units + 1 < cLine) : OpR X (compareOp .In) (rInD false) := by
  intro pins s σ H x y v u Q I rx ry h
  obtain ⟨a, o, rfl, g, q⟩ := h
  obtain rfl : u = Value.ref a := ry
  exact d_in hu I g rx fun s' I' => ⟨.bl o.isSome, H, I', rfl, q⟩
theorem op_notInD (hu : X.A.units + 1 < cLine) : OpR X (compareOp .NotIn) (rInD true) := by
  intro pins s σ H x y v u Q I rx ry h
  obtain ⟨a, o, rfl, g, q⟩ := h
  obtain rfl : u = Value.ref a := ry
  exact d_notIn hu I g rx fun s' I' => ⟨.bl (!o.isSome), H, I', rfl, q⟩
def rInS (neg : Bool) : L2.R2 := fun x y H Q => ∃ i j, x = .str i ∧ y = .str j ∧ Q (.bl (if neg then !(!(Builtin.Str.occurrences j i 0 j.length 1).isEmpty) else !(Builtin.Str.occurrences j i 0 j.length 1).isEmpty)) H
theorem op_inS : OpR X (compareOp .In) (rInS false) := op_in_str
theorem op_notInS : OpR X (compareOp .NotIn) (rInS true) := op_notIn_str
def rInK (K : PySem.W.Frag) (neg : Bool) : L2.R2 := fun x y H Q => rInD neg x y H Q ∨ rInS neg x y H Q ∨ rIn K neg x y H Q
theorem op_inK (hu : X.A.units + 1 < cLine) : OpR X (compareOp .In) (rInK X.K false) := OpR.or (op_inD hu) (OpR.or op_inS op_in_seq)
theorem op_notInK (hu : X.A.units + 1 < cLine) : OpR X (compareOp .NotIn) (rInK X.K true) := OpR.or (op_notInD hu) (OpR.or op_notInS op_notIn_seq)
theorem dget_any {x : PV} : ∀ (ks ws : List PV), ws.length = ks.length → ((ks.any fun z => PL.eqv z x) = (PL.dget ks ws x).isSome)
  | [], [], _ => rfl
  | [], _ :: _, h => by cases h
  | _ :: _, [], h => by cases h
  | z :: ks, w :: ws, h => by
    rw [List.any_cons]
    show _ = (if PL.eqv z x = true then some w else PL.dget ks ws x).isSome
    cases hz : PL.eqv z x with
    | true => rfl
    | false => exact dget_any ks ws (Nat.succ.inj h)
theorem mem_rep {v : PV} {m : MV} {c neg : Bool} {x y : V} {O : List Addr} {Q : VK} (h : PL.memF v m = some c) (rx : RepP k H B v x) (ry : RepM k H B m y O) (q : Q (.bl (if neg then !c else c)) H) : rInK k.K neg x y H Q := by
  have dicD : ∀ {t : Bool} {ks ws : List PV} {vs : List V} {a : Addr}, PL.sameSort t v = true → DicAt t H a ks vs → RepPs k H B ws vs → (ks.any fun z => PL.eqv z v) = c → y = .ref a → rInK k.K neg x y H Q := fun {t ks ws vs a} hs d r hc ey => by
    obtain ⟨o, g1, g2, g3⟩ := dic_get d r hs rx
    refine .inl ⟨a, o, ey, g1, ?_⟩
    have hl : ws.length = ks.length := by
      have := r.len
      cases t with
      | false =>
        obtain ⟨kk, f1, f2, _, _⟩ := d
        have h1 := congrArg List.length f1
        rw [List.length_map, List.length_map] at h1
        omega
      | true =>
        obtain ⟨kk, f1, f2, _, _⟩ := d
        have h1 := congrArg List.length f1
        rw [List.length_map, List.length_map] at h1
        omega
    have ha := dget_any (x := v) ks ws hl
    have ho : o.isSome = c := by
      rw [← hc, ha]
      cases hg : PL.dget ks ws v with
      | none => rw [g3 hg]; rfl
      | some w => obtain ⟨z, ez, _⟩ := g2 w hg; rw [ez]; rfl
    rw [ho]; exact q
  unfold PL.memF at h
  split at h
  · split at h
    · rename_i hs
      cases h
      obtain ⟨a, vs, ey, r, _, d⟩ := ry
      exact dicD hs d r rfl ey
    · cases h
  · split at h
    · rename_i hs
      cases h
      obtain ⟨a, vs, ey, _, r, d⟩ := ry.1
      exact dicD hs d r rfl ey
    · cases h
  · split at h
    · rename_i s _ cc
      cases h
      refine .inr (.inl ⟨strOf [cc], strOf s, rx, ry.1, ?_⟩)
      have hf : (!(Builtin.Str.occurrences (strOf s) (strOf [cc]) 0 (strOf s).length 1).isEmpty) = s.contains cc := by
        have := PySem.StrLaws.found_one (strOf s) cc
        rw [strOf_cps] at this
        refine Eq.trans this ?_
        rw [List.contains_eq_mem]
      rw [hf]
      exact q
    · cases h
  · split at h
    · rename_i l hl
      split at h
      · rename_i hf
        cases h
        rw [Bool.and_eq_true] at hf
        obtain ⟨a, vs, ey, sq, t⟩ := seqV_rep hl ry
        obtain ⟨i1, i2⟩ := inV_rep hf.1 rx hf.2 t
        refine .inr (.inr ⟨a, vs, ey, sq, flat_rep hf.1 rx, i1, ?_⟩)
        rw [i2]; exact q
      · cases h
    · cases h
theorem cms_isIn : CmS k .isIn (rInK k.K false) := by
  intro R H fo u v c x y O1 O2 Q r1 r2 hc q
  unfold PL.cmpF at hc
  split at hc <;> try contradiction
  exact mem_rep (neg := false) hc r1.1 r2 q
theorem cms_notIn : CmS k .notIn (rInK k.K true) := by
  intro R H fo u v c x y O1 O2 Q r1 r2 hc q
  unfold PL.cmpF at hc
  split at hc <;> try contradiction
  split at hc
  · rename_i c' hm
    cases hc
    exact mem_rep (neg := true) hm r1.1 r2 q
  · cases hc
end
end LB

end
section
set_option Elab.async false
set_option linter.all false
set_option maxRecDepth 100000
set_option maxHeartbeats 1000000
/-! Layer B, o: targets in the text, pairs, an empty dict. -/
namespace LB
open PySem PySem.Spec PyProof.Rows L2
open PL (PV MV Txt IE IEs IT II IS ISs)
section
variable {X : Cx} {k : Kx} {W : WX} {C : PL.Ctx} {R R' R1 R4 : Addr → Prop} {σ σ' σ3 τ : L2.St} {H H' H1 H2 H4 : Hp} {own B : Addr → Prop} {env env' env0 env1 env2 rs ε ε4 : PL.Env} {fo fo1 fo2 fo4 : Nat → List Addr} {lock ow : List Nat}
variable {e a b c tg : Expr} {es : List Expr} {ie ia ib ic : IE} {ies : IEs} {pos p p2 : Pos} {t u : IT} {ii : II} {st : Stmt} {sts : List Stmt} {is : IS} {iss : ISs}
/-- a name that may be stored to -/
structure StOk (X : Cx) (i : Nat) (x : Str) : Prop where
  ix : X.N[i]? = some x
  loc : Loc X.env.scope x
  fn : X.fn x = true ∨ X.env.scope.names.lookup x = some .local
inductive NamesOk (X : Cx) : List Expr → List Nat → Prop where
  | nil : NamesOk X [] []
  | cons {i : Nat} {x : Str} {p : Pos} {es : List Expr} {l : List Nat} (h : StOk X i x) (r : NamesOk X es l) : NamesOk X (.Name x p :: es) (i :: l)
theorem NamesOk.len {l : List Nat} (h : NamesOk X es l) (en : PySem.Env) : (assignEach es en).length = l.length ∧ (assignEach es en).findIdx? (·.1) = none := by
  induction h with
  | nil => exact ⟨rfl, rfl⟩
  | @cons i x p es l h r ih =>
    have e1 : assignEach (.Name x p :: es) en = (false, assign (.Name x p) en) :: assignEach es en := rfl
    rw [e1]
    refine ⟨by rw [List.length_cons, List.length_cons, ih.1], ?_⟩
    rw [List.findIdx?_cons, ih.2]
    rfl
theorem NamesOk.pgs {l : List Nat} (hN : X.N.Nodup) (h : NamesOk X es l) : PGs X es (gNames l) := by
  induction h with
  | nil => exact pgs_nil
  | @cons i x p es l h r ih => exact pgs_cons (pg_name hN h.ix h.loc h.fn) ih rfl
inductive TgOk (X : Cx) : Expr → PL.Tgt → Prop where
  | nm {i : Nat} {x : Str} {p : Pos} (h : StOk X i x) : TgOk X (.Name x p) (.nm i)
  | tp {es : List Expr} {l : List Nat} {kk : Nat} {p : Pos} (h : NamesOk X es l) : TgOk X (.Tuple es kk p) (.tp l)
theorem TgOk.pg {tgt : PL.Tgt} (hc : X.calm = true) (hK : X.K = k.K) (hN : X.N.Nodup) (h : TgOk X e tgt) : PG X e (gT k.K tgt) := by
  cases h with
  | nm h => exact pg_name hN h.ix h.loc h.fn
  | tp h =>
    rw [← hK]
    exact pg_tup hc (h.pgs hN) (h.len _).1 (h.len _).2
def isTup : Expr → Bool
  | .Tuple _ _ _ => true
  | _ => false
def isComp : Expr → Bool
  | .ListComp _ _ _ _ => true
  | .SetComp _ _ _ _ => true
  | .DictComp _ _ _ _ _ => true
  | _ => false
theorem sw_none {l : Nat} {en : PySem.Env} {o : Option Expr} (h : isComp e = false) : swapsWith e o l en = pure false := by
  cases e <;> first | rfl | cases h
theorem ss_unp {l : List Nat} {es : List Expr} {kk : Nat} {p1 : Pos} (hc : X.calm = true) (hK : X.K = k.K) (hN : X.N.Nodup) (hl : NamesOk X es l) (he : PE X e (tE k W C ie)) (ht : isTup e = false) (hcm : isComp e = false) :
    PS X (.Assign [.Tuple es kk p1] e pos) (tS k W C (.unp l ie)) := by
  refine imS (ps_asg he ((TgOk.tp hl).pg (k := k) hc hK hN) (by cases e <;> first | rfl | cases hcm) (by cases e <;> first | rfl | cases ht) rfl) fun _ _ _ h => rd_unp h
theorem swp_ok {en : PySem.Env} {x y : Str} {px py pt pt2 : Pos} {kt k2 : Nat} (hk : en.scope.kind = .function) (hx : en.scope.names.lookup x = some .local) (hy : en.scope.names.lookup y = some .local) (hl : (px.line == py.line) = true) (hxy : x ≠ y)
    (sa : isStar a = false) (sb : isStar b = false) (h1 : ([a, b].all (foldedForSure 8)) = false) (h2 : ([a, b].all (constantsAlone 8)) = false) :
    swappedStores [.Tuple [.Name x px, .Name y py] kt pt] (.Tuple [a, b] k2 pt2) en = pure (some [x, y]) := by
  have hb : en.blockKind = .function := by unfold Env.blockKind; rw [hk]; rfl
  have kx : en.kindOf x = some .local := hx
  have ky : en.kindOf y = some .local := hy
  have hle : px.line = py.line := by simpa using hl
  unfold swappedStores
  simp only [hb, h1, h2]
  simp [kx, ky, hle, hxy, Expr.pos, List.eraseDups_cons, Ne.symm hxy]
  intro h
  rcases h with h | h
  · cases a <;> first | (cases sa; done) | (cases h; done)
  · cases b <;> first | (cases sb; done) | (cases h; done)
theorem ss_par {i j : Nat} {x y : Str} {px py pt pt2 : Pos} {kt k2 : Nat} (hc : X.calm = true) (hN : X.N.Nodup) (hi : X.N[i]? = some x) (hj : X.N[j]? = some y) (hij : i ≠ j) (hx : X.env.scope.names.lookup x = some .local) (hy : X.env.scope.names.lookup y = some .local) (hk : X.env.scope.kind = .function)
    (hl : (px.line == py.line) = true) (hxy : x ≠ y) (sa : noStars [a, b] = true) (h1 : ([a, b].all (foldedForSure 8)) = false) (h2 : ([a, b].all (constantsAlone 8)) = false) (ha : PE X a (tE k W C ia)) (hb : PE X b (tE k W C ib)) :
    PS X (.Assign [.Tuple [.Name x px, .Name y py] kt pt] (.Tuple [a, b] k2 pt2) pos) (tS k W C (.par i j ia ib)) := by
  have hs' : (!isStar a && (!isStar b && true)) = true := sa
  simp only [Bool.and_eq_true, Bool.not_eq_true'] at hs'
  obtain ⟨s1, s2, _⟩ := hs'
  exact imS (ps_par hc hN hi hj hij hx hy (pa_cons ha (pa_cons hb pa_nil (star_cons s2 _)) (star_cons s1 _)) (swp_ok hk hx hy hl hxy s1 s2 h1 h2) rfl) fun _ _ _ h => rd_par h
theorem ev_dctF : PE X (.Dict [] [] pos) (tE k W C (.dct false)) := imE pe_dnewK fun σ H Q ⟨env, fo, R, ok, o⟩ p hp => by
  unfold PL.ev at o
  refine o _ _ ⟨fo, _, [p], (At.refl ok).lay hp, ⟨p, [], rfl, rfl, rfl, [], rfl, rfl, List.nodup_nil, ?_⟩, by simp, fun c hc => ?_⟩
  · rw [upd_same]; rfl
  · have : c = p := by simpa using hc
    subst this
    exact ⟨.inl rfl, fun z => ok.al c z hp⟩
theorem ev_dctT : PE X (.Dict [] [] pos) (tE k W C (.dct true)) := imE pe_dnewT fun σ H Q ⟨env, fo, R, ok, o⟩ p hp => by
  unfold PL.ev at o
  refine o _ _ ⟨fo, _, [p], (At.refl ok).lay hp, ⟨p, [], rfl, rfl, rfl, [], rfl, rfl, List.nodup_nil, ?_⟩, by simp, fun c hc => ?_⟩
  · rw [upd_same]; rfl
  · have : c = p := by simpa using hc
    subst this
    exact ⟨.inl rfl, fun z => ok.al c z hp⟩
end
end LB

end
section
set_option Elab.async false
set_option linter.all false
set_option maxRecDepth 100000
set_option maxHeartbeats 4000000
/-! Layer B, H1: isinstance(e, C) and e.f of a caught exception. -/
namespace LB
open PySem PySem.Spec PyProof.Rows L2
open PL (PV MV Txt IE IEs IT II IS ISs)
/-- what the written part says of an exception class -/
structure ExK (K : PySem.W.Frag) (C : Addr) : Prop where
  hcl : (PySem.W.clsIn K C).isSome = true
  xf : XfC K C
  ha : PySem.W.findIn K (.ref C) "__class__" = some (some (.builtin "object.__class__"))
  hm : PySem.W.mroIn K C (.type "object") = some true
  hn : PySem.W.specialIn K (.builtin "object.__class__") "__get__" = some (some (.builtin "getset_descriptor.__get__"))
  htk : PySem.W.takesIn K (.builtin "object.__class__") = some true
/-- the exceptions that are known are at hand -/
def ExcAt (k : Kx) (X : Cx) : Prop := ∀ a c d, k.ex a c d → ∃ oe C, (a, oe) ∈ X.pn ∧ k.cl c = some C ∧ oe.cls = .ref C ∧ oe.dict = d ∧ ∃ vs, oe.data = .fields vs
/-- such an exception, in the tracked heap -/
structure ExV (X : Cx) (H : Hp) (x : V) (C : Addr) : Prop where
  ex : ∃ a oe, x = .ref a ∧ (a, oe) ∈ X.pn ∧ oe.cls = .ref C ∧ (∃ vs, oe.data = .fields vs) ∧ (oe.dict = none ∨ ∃ dd fs, oe.dict = some dd ∧ H dd = some (.xd fs))
section
variable {X : Cx} {pins : List (Addr × Obj)} {σ : L2.St} {H : Hp} {s : Shared}
theorem ExV.kit {x : V} {C : Addr} {u : Value} (I : Inv X pins σ H s) (E : ExK X.K C) (e : ExV X H x C) (r : RelV x u) : ∃ P : Heap → Prop, PySem.W.KitX X.K u (.ref C) P ∧ P s.heap ∧ u ≠ .builtin "__main__.__loader__#opaque" := by
  obtain ⟨a, oe, rfl, hp, hc, ⟨vs, hd⟩, h⟩ := e.ex
  obtain rfl : u = Value.ref a := r
  obtain ⟨ha, _⟩ := I.pin (a, oe) (List.mem_append_left _ hp)
  have hno : PySem.W.notCls oe = true := by unfold PySem.W.notCls; rw [hd] <;> rfl
  rcases h with h | ⟨dd, fs, h, hx⟩
  · exact ⟨_, PySem.W.kitx_exc (od := none) E.hcl E.xf.ga E.xf.gg E.xf.exC E.ha E.hn E.htk E.hm, ⟨ha, hc, hno, by rw [h]; trivial⟩, fun z => nomatch z⟩
  · have hx : ObjOk X.prog X.w H s.heap dd (.xd fs) := I.hok dd _ hx
    obtain ⟨mA, hns, hr⟩ := hx
    obtain ⟨od, ho, hl⟩ := lookIn_ns hns
    exact ⟨_, PySem.W.kitx_exc (od := some od) E.hcl E.xf.ga E.xf.gg E.xf.exC E.ha E.hn E.htk E.hm, ⟨ha, hc, hno, by rw [h]; exact ho⟩, fun z => nomatch z⟩
end
def rIsiE (X : Cx) : List V → Hp → VK → Prop := fun xs H Q => ∃ (x c : V) (C : Addr) (u : Value) (b : Bool), xs = [x, c] ∧ ClsV c u ∧ ExV X H x C ∧ ExK X.K C ∧ PySem.W.kitOne X.K (.ref C) u = some b ∧ Q (.bl b) H
def rIsiTE (X : Cx) : List V → Hp → VK → Prop := fun xs H Q => ∃ (x : V) (tp : Addr) (cs : List V) (C : Addr) (us : List Value) (b : Bool), xs = [x, .ref tp] ∧ H tp = some (.tup cs) ∧ Paired ClsV cs us ∧ ExV X H x C ∧ ExK X.K C ∧ PySem.W.kitAny X.K (.ref C) us = some b ∧ Q (.bl b) H
theorem call_isiE {X : Cx} : CallR X (.builtin "isinstance") (rIsiE X) := by
  intro pins s σ H xs us Q I r h
  obtain ⟨x, c, C, u, b, rfl, k, ev, E, e, q⟩ := h
  obtain ⟨u1, u2, rfl, r1, r2⟩ := vals2 r
  have e2 := k.eq r2
  subst e2
  obtain ⟨P, Z, p, hx⟩ := ev.kit I E r1
  exact PySem.W.kia_one Z I.kIn p e hx fun tk => ⟨.bl b, H, I.tok tk, rfl, q⟩
theorem call_isiTE {X : Cx} : CallR X (.builtin "isinstance") (rIsiTE X) := by
  intro pins s σ H xs us Q I r h
  obtain ⟨x, tp, cs, C, ws, b, rfl, hT, k, ev, E, e, q⟩ := h
  obtain ⟨u1, u2, rfl, r1, r2⟩ := vals2 r
  cases (show u2 = Value.ref tp from r2)
  obtain ⟨P, Z, p, hx⟩ := ev.kit I E r1
  obtain ⟨_, its, rv, o, h1, h2, n, h3⟩ := (show ObjOk X.prog X.w H s.heap tp (.tup cs) from I.hok tp _ hT)
  have e3 := ClsV.all k rv
  subst e3
  obtain ⟨oc, od, dt, sl⟩ := o
  simp only at h2 h3
  subst h2 h3
  exact PySem.W.kia_tup Z I.kIn p h1 e hx fun tk => ⟨.bl b, H, I.tok tk, rfl, q⟩
/-- e.f -/
theorem pe_xfp {X : Cx} {e : Expr} {te : TE} {pos : Pos} {n : Str} (he : PE X e te) (hb : attributeBase e n X.env (eval e X.env) = eval e X.env) :
    PE X (.Attribute e n pos) fun σ H Q => te σ H fun x H1 => ∃ a oe C dd fs v, x = .ref a ∧ (a, oe) ∈ X.pn ∧ oe.cls = .ref C ∧ (∃ vs, oe.data = .fields vs) ∧ XfC X.K C ∧ PySem.W.findIn X.K (.ref C) n = some none ∧ oe.dict = some dd ∧ H1 dd = some (.xd fs) ∧ fs.lookup n = some v ∧ Q v H1 := by
  refine ⟨fun pins s σ H Q I h => ?_⟩
  refine attr_of hb (thn (he.run pins s σ H _ I h) fun u s1 hh => ?_)
  obtain ⟨x, H1, I1, rx, a, oe, C, dd, fs, v, ex, hp, hc, ⟨vs, hd⟩, T, hno, ed, ea, l, q⟩ := hh
  subst ex
  obtain rfl : u = Value.ref a := rx
  obtain ⟨ha, _⟩ := I1.pin (a, oe) (List.mem_append_left _ hp)
  have hx : ObjOk X.prog X.w H1 s1.heap dd (.xd fs) := I1.hok dd _ ea
  obtain ⟨mA, hns, hr⟩ := hx
  obtain ⟨od, ho, hl⟩ := lookIn_ns hns
  obtain ⟨u, hu, ru⟩ := RelO.some_of (v := v) (o := mA n) (by rw [← l]; exact hr n)
  have J : PySem.W.InstAt s1.heap a oe C (some od) := ⟨ha, hc, by unfold PySem.W.notCls; rw [hd] <;> rfl, by rw [ed]; exact ho⟩
  exact HandSPX.exc_get I1.kIn J T.ga T.gg T.exC (PySem.W.findObj_own T.hdC hno rfl (by rw [hl, hu])) (handed_of ru) ⟨v, H1, I1.tok _, ru, q⟩
section
variable {X : Cx} {k : Kx} {W : WX} {C : PL.Ctx} {R R' : Addr → Prop} {σ : L2.St} {H H' : Hp} {own B : Addr → Prop} {env : PL.Env} {fo : Nat → List Addr}
variable {e a b c : Expr} {es : List Expr} {ie ia ib ic : IE} {pos : Pos} {x : Str} {p : Pos}
/-- a known exception's value -/
theorem ExcAt.val (hx : ExcAt k X) {c f : Txt} {w : PV} {x : V} (r : RepP k H B (.exc c f w) x) : ∃ C, k.cl c = some C ∧ ExV X H x C := by
  obtain ⟨a, d, rfl, ke, r⟩ := r
  obtain ⟨oe, C, h1, h2, h3, h4, h5⟩ := hx _ _ _ ke
  refine ⟨C, h2, ⟨a, oe, rfl, h1, h3, h5, ?_⟩⟩
  rcases r with ⟨_, r⟩ | ⟨dd, y, e1, e2, _⟩
  · exact .inl (h4.trans r)
  · exact .inr ⟨dd, _, h4.trans e1, e2⟩
/-- an own class as isinstance's second, as a value -/
structure ClsW (k : Kx) (K : PySem.W.Frag) (par : List (Txt × Txt)) (D : Txt) (v : V) (u : Value) : Prop where
  cv : ClsV v u
  kit : ∀ c A, k.cl c = some A → PySem.W.kitOne K (.ref A) u = some (PL.isSub par 8 c D)
theorem isaF_own {par : List (Txt × Txt)} {m : MV} {D : Txt} {r : Bool} (h : PL.isaF par m (.own D) = some r) : ∃ c f w, m = .p (.exc c f w) ∧ r = PL.isSub par 8 c D := by
  unfold PL.isaF at h
  split at h
  · rename_i c f w d heq
    cases heq
    cases h
    exact ⟨_, _, _, rfl, rfl⟩
  · rename_i c hc hh
    split at h
    · rename_i t ht
      unfold PL.tagIs at h
      cases t <;> cases h
    · cases h
theorem ev_isaE {D : Txt} {v : V} {u : Value} (hK : X.K = k.K) (hx : ExcAt k X) (hE : ∀ c A, k.cl c = some A → ExK k.K A) (hD : ClsW k k.K C.par D v u) (ha : PE X a (tO k W C ia)) (hb : PE X b (tC v)) (sa : noStars [a, b] = true) (hg : Gl X "isinstance") (hm : X.mg "isinstance" = none) :
    PE X (.Call (.Name "isinstance" p) [a, b] [] pos) (tE k W C (.isa ia [.own D])) := by
  have s1 : isStar a = false := by
    have : (!isStar a && (!isStar b && true)) = true := sa
    simp at this; exact this.1
  have s2 : isStar b = false := by
    have : (!isStar a && (!isStar b && true)) = true := sa
    simp at this; exact this.2
  refine imE (pe_callB call_isiE hg hm rfl (pa_cons ha (pa_cons hb pa_nil (star_cons s2 _)) (star_cons s1 _)) (by decide) (by decide) (star_cons s1 _) (star_none (by show (!isStar b && true) = true; rw [s2]; rfl) _ _)) fun σ H Q ⟨env, fo, R, ok, o⟩ => ?_
  unfold PL.ev at o
  refine ⟨env, fo, R, ok, o.bind.imp fun o1 e1 q1 x H1 p1 => ?_⟩
  obtain ⟨fo1, R1, O1, a1, r1, t1⟩ := p1
  cases hg1 : o1.get e1 with
  | none => rw [hg1] at q1; exact q1.elim
  | some u' =>
    rw [hg1] at q1
    change Outc _ _ _ _ _ _ _ (match PL.isasF C.par u' [.own D] with | some b => PL.Res.ok (MV.p (PV.bl b)) e1 | none => PL.Res.bad) at q1
    cases hi : PL.isasF C.par u' [.own D] with
    | none => rw [hi] at q1; exact q1.elim
    | some r =>
      rw [hi] at q1
      have hi' : PL.isaF C.par u' (.own D) = some r := by
        unfold PL.isasF at hi
        cases h1 : PL.isaF C.par u' (.own D) with
        | none => rw [h1] at hi; cases hi
        | some a0 =>
          rw [h1] at hi
          cases hi
          rw [Bool.or_false]
      obtain ⟨cc, f, w, rfl, rfl⟩ := isaF_own hi'
      obtain ⟨O', r'⟩ := r1.look a1.ok hg1
      obtain ⟨A, hA, ev⟩ := hx.val r'.1
      exact ⟨x, v, A, u, _, rfl, hD.cv, ev, by rw [hK]; exact hE _ _ hA, by rw [hK]; exact hD.kit _ _ hA, q1 _ _ (.pure a1 rfl)⟩
theorem isas_own {par : List (Txt × Txt)} {K : PySem.W.Frag} {c f : Txt} {w : PV} {A : Addr} (hA : k.cl c = some A) : ∀ {Ds : List Txt} {vs : List V} {us : List Value} {r : Bool}, PL.isasF par (.p (.exc c f w)) (Ds.map .own) = some r → (Ds.zip (vs.zip us)).length = Ds.length → vs.length = Ds.length → us.length = Ds.length → (∀ q ∈ Ds.zip (vs.zip us), ClsW k K par q.1 q.2.1 q.2.2) → PySem.W.kitAny K (.ref A) us = some r ∧ Paired ClsV vs us
  | [], vs, us, r, h, _, h1, h2, _ => by
    obtain rfl : vs = [] := List.eq_nil_of_length_eq_zero h1
    obtain rfl : us = [] := List.eq_nil_of_length_eq_zero h2
    cases h
    exact ⟨kitAny_nil, .nil⟩
  | D :: Ds, v :: vs, u :: us, r, h, h0, h1, h2, hh => by
    have hd := hh (D, v, u) (by simp)
    unfold PL.isasF at h
    rw [List.map_cons] at h
    change (match PL.isaF par (.p (.exc c f w)) (.own D), PL.isasF par (.p (.exc c f w)) (Ds.map .own) with
      | some a, some b => some (a || b)
      | _, _ => none) = some r at h
    cases h3 : PL.isasF par (.p (.exc c f w)) (Ds.map .own) with
    | none => rw [h3] at h; cases h
    | some b =>
      rw [h3] at h
      change some (PL.isSub par 8 c D || b) = some r at h
      cases h
      obtain ⟨g1, g2⟩ := isas_own hA h3 (by simpa using h0) (by simpa using h1) (by simpa using h2) fun q hq => hh q (by simp only [List.zip_cons_cons, List.mem_cons]; exact .inr hq)
      refine ⟨kitAny_cons (hd.kit _ _ hA) (fun z => ?_) (fun z => ?_), .cons hd.cv g2⟩
      · have z : PL.isSub par 8 c D = false := z
        rw [g1, z]; rfl
      · have z : PL.isSub par 8 c D = true := z
        rw [z]; rfl
  | D :: Ds, [], us, r, h, _, h1, h2, _ => by cases h1
  | D :: Ds, v :: vs, [], r, h, _, h1, h2, _ => by cases h2
theorem isas_exc {par : List (Txt × Txt)} {m : MV} {D : Txt} {Ds : List Txt} {r : Bool} (h : PL.isasF par m ((D :: Ds).map .own) = some r) : ∃ c f w, m = .p (.exc c f w) := by
  unfold PL.isasF at h
  rw [List.map_cons] at h
  change (match PL.isaF par m (.own D), PL.isasF par m (Ds.map .own) with
      | some a, some b => some (a || b)
      | _, _ => none) = some r at h
  cases h1 : PL.isaF par m (.own D) with
  | none => rw [h1] at h; cases h
  | some a => obtain ⟨c, f, w, e, _⟩ := isaF_own h1; exact ⟨c, f, w, e⟩
theorem ev_isaTE {D : Txt} {Ds : List Txt} {vs : List V} {us : List Value} {x1 : _} {p3 : Pos} (hK : X.K = k.K) (hx : ExcAt k X) (hE : ∀ c A, k.cl c = some A → ExK k.K A) (hl : vs.length = (D :: Ds).length) (hl2 : us.length = (D :: Ds).length) (hn : vs.length ≤ 100)
    (hD : ∀ q ∈ (D :: Ds).zip (vs.zip us), ClsW k k.K C.par q.1 q.2.1 q.2.2) (ha : PE X a (tO k W C ia)) (hb : PA X es (fun _ H Q => Q vs H)) (sa : isStar a = false) (hg : Gl X "isinstance") (hm : X.mg "isinstance" = none) :
    PE X (.Call (.Name "isinstance" p) [a, .Tuple es x1 p3] [] pos) (tE k W C (.isa ia ((D :: Ds).map .own))) := by
  refine imE (pe_callB call_isiTE hg hm rfl (pa_cons ha (pa_cons (pe_tup hb) pa_nil (star_cons rfl _)) (star_cons sa _)) (by decide) (by decide) (star_cons sa _) (star_none rfl _ _)) fun σ H Q ⟨env, fo, R, ok, o⟩ => ?_
  unfold PL.ev at o
  refine ⟨env, fo, R, ok, o.bind.imp fun o1 e1 q1 x H1 p1 => ?_⟩
  obtain ⟨fo1, R1, O1, a1, r1, t1⟩ := p1
  cases hg1 : o1.get e1 with
  | none => rw [hg1] at q1; exact q1.elim
  | some u =>
    rw [hg1] at q1
    change Outc _ _ _ _ _ _ _ (match PL.isasF C.par u ((D :: Ds).map .own) with | some b => PL.Res.ok (MV.p (PV.bl b)) e1 | none => PL.Res.bad) at q1
    cases hi : PL.isasF C.par u ((D :: Ds).map .own) with
    | none => rw [hi] at q1; exact q1.elim
    | some r =>
      rw [hi] at q1
      refine ⟨len_ok (by omega), fun tp hp => ?_⟩
      obtain ⟨O', r'⟩ := r1.look a1.ok hg1
      have q := q1 (.bl r) _ (.pure (a1.lay (o := .tup vs) hp) rfl)
      obtain ⟨c, f, w, rfl⟩ := isas_exc hi
      have r2 := r'.lay (o := .tup vs) hp
      obtain ⟨A, hA, ev⟩ := hx.val r2.1
      obtain ⟨g1, g2⟩ := isas_own (vs := vs) (us := us) hA hi (by rw [List.length_zip, List.length_zip, hl, hl2]; simp) hl hl2 hD
      exact ⟨x, tp, vs, A, us, r, rfl, upd_same, g2, ev, by rw [hK]; exact hE _ _ hA, by rw [hK]; exact g1, q⟩
/-- v.f -/
theorem ev_atr {i : Nat} {y : Str} {f : Txt} {py : Pos} (hK : X.K = k.K) (hx : ExcAt k X) (hE : ∀ c A, k.cl c = some A → ExK k.K A) (hf : f ≠ []) (hno : ∀ c A, k.cl c = some A → PySem.W.findIn k.K (.ref A) (strOf f) = some none) (hN : X.N[i]? = some y) (hv : Vis X.env.scope y) (hd : (y == ("__debug__" : Str)) = false) (hcd : (y == ("__classdict__" : Str)) = false) :
    PE X (.Attribute (.Name y py) (strOf f) pos) (tE k W C (.atr (.var i) f)) := by
  refine imE (pe_xfp (pe_var hN hv hd hcd) rfl) fun σ H Q ⟨env, fo, R, ok, o⟩ => ?_
  unfold PL.ev PL.ev PL.readV at o
  cases hm : env.at i with
  | none => rw [hm] at o; exact o.elim
  | some m =>
    rw [hm] at o
    cases m with
    | l xs => exact o.elim
    | d t ks vs => exact o.elim
    | p v =>
      cases v with
      | exc c g w =>
        change Outc _ _ _ _ _ _ _ (if f = g then PL.Res.ok (MV.p w) env else .bad) at o
        by_cases hfg : f = g
        · subst hfg
          rw [if_pos rfl] at o
          obtain ⟨z, h1, r⟩ := ok.rep i _ hm
          obtain ⟨⟨a, d, e1, ke, r1⟩, r2⟩ := r
          obtain ⟨oe, A, g1, g2, g3, g4, g5⟩ := hx _ _ _ ke
          rcases r1 with ⟨z, _⟩ | ⟨dd, yy, e2, e3, r1⟩
          · exact absurd z hf
          · refine ⟨z, h1, a, oe, A, dd, _, yy, e1, g1, g3, g5, by rw [hK]; exact (hE _ _ g2).xf, by rw [hK]; exact hno _ _ g2, g4.trans e2, e3, by simp [List.lookup], ?_⟩
            exact o yy H (.pure (.refl ok) r1)
        · rw [if_neg hfg] at o; exact o.elim
      | _ => exact o.elim
end
end LB

end
section
set_option Elab.async false
set_option linter.all false
set_option maxRecDepth 100000
set_option maxHeartbeats 4000000
/-! Layer B, X0: super().__init__(e) in the __init__ of an exception of the program, self.what = e behind it. -/
namespace LB
open PySem PySem.Spec PyProof.Rows L2
open PySem.W (kxs_mw)
def exoOf (C t1 : Addr) (d : Option Addr) : Obj := { cls := .ref C, dict := d, data := .fields #[.ref t1, .none, .none, .none, .bool false, .none] }
section
variable {prog : Program} {w : World} {A : Around} {E : Value → Shared → Prop} {s : Shared}
/-- the call of super's bound __init__: only the exception is changed -/
theorem xs_call {K : PySem.W.Frag} {u x C t : Addr} {dv : Option Addr} {rest : List Value} {Q : Value → Shared → Prop} (T : OexC K C) (X : K.In s.heap)
    (hu : s.heap.get? u = some (kxs_mw "ValueError.__init__" x)) (he : s.heap.get? x = some (exoOf C t dv)) (hz : rest.length ≤ sizeLine)
    (h : ∀ h' (t1 : Addr), (∀ b o, b ≠ x → s.heap.get? b = some o → h'.get? b = some o) → h'.get? x = some (exoOf C t1 dv) → Q .none { s with heap := h' }) :
    wpAny (model prog w) A (call (.ref u) rest) Q E s := by
  obtain ⟨nm, q, N, bs, bm, sn, sub, ab, col, dd, k0, k1, k2, k3, k5, hC, hbm⟩ := T.cls
  have hC' := X _ _ hC
  obtain ⟨hh, g, d, tk, os⟩ := s
  refine wpAny_call (codeAny_of_tree ?_)
  show wpAny _ A.in1 (callAny (.ref u) ⟨rest, []⟩) _ _ _
  simp only [callAny]
  refine wpAny_bind (wpAny_load hu ?_)
  simp only [kxs_mw, show (Value.type "method-wrapper" == Value.type "method" || Value.type "method-wrapper" == Value.type "builtin_function_or_method" || Value.type "method-wrapper" == Value.type "method-wrapper") = true by decide, if_true]
  refine PySem.W.KFB.if_so (by decide) ?_
  refine wpAny_bind (PySem.W.check_bound_init F.excBase_ValueError.toExcCallFacts hC' he rfl ?_)
  refine wpAny_bind (wpAny_pure (wpAny_pure ?_))
  refine ⟨plainId_quiet F.excBase_ValueError.init.plain _, codeAny_builtin F.excBase_ValueError.initEntry ?_⟩
  exact PySem.W.exc_init_tree (cls := .ref C) (t0 := t) (dv := dv) (c2 := .none) (c3 := .none) (b4 := .bool false) he hz fun h' k e _ => h h' _ k e
end
/-- what the written part says of the super() of an exception's __init__ -/
structure XsF (X : Cx) (C fI cda cc : Addr) (an : Str) : Prop where
  func : X.env.func = some fI
  code : X.env.code = .ref cda
  fn : ∃ oc od fd osl ar, X.K.lookup fI = some ⟨oc, od, .func fd, osl⟩ ∧ (fd.params.posonlyargs ++ fd.params.args).head? = some ar ∧ ar.arg = an
  cdr : ∃ ccl cdd vs ccs file tf, X.K.lookup cda = some ⟨ccl, cdd, .fields vs, ccs⟩ ∧ vs[2]? = some (.str file tf) ∧ ((X.prog.main.file : Str) == file) = true
  cl : X.env.cells.lookup ("__class__" : Str) = some cc
  cell : ∃ cl cld csl, X.K.lookup cc = some ⟨cl, cld, .cell (some (.ref C)), csl⟩
  cls : ∃ oc od cd osl, X.K.lookup C = some ⟨oc, od, .cls cd, osl⟩
  sub : PySem.W.mroIn X.K C (.ref C) = some true
  sup : X.mg "super" = none
  hks : X.env.scope.names.lookup ("super" : Str) = some .globalImplicit
  hkc : X.env.scope.names.lookup ("__class__" : Str) = some .free
  hka : X.env.scope.names.lookup an = some .local
  top : (X.prog.main.scope.names.lookup ("super" : Str)).isSome = false
  op : PySem.W.nsIn X.K cStatics "thirdparty.any" = some none
  init : PySem.W.ks_superIn X.K C C "__init__" = some (some (.builtin "ValueError.__init__"))
  sVE : PySem.W.subIn X.K (.ref C) (.type "ValueError") = some true
/-- o.m(e): the base at this place of the code, then the method -/
theorem xs_form {M : Model} {A : Around} {c : Code} {E : Value → Shared → Prop} {s : Shared} {env : Env} {o e : Expr} {m : Str} {apos pos : Pos} {Q : Value → Shared → Prop} (hse : starEach [e] env = [(false, eval e env)]) (hpos : (apos.endLine == pos.line) = true)
    (h : _root_.PySem.wpAt M A c (attributeBase o m env (eval o env)) (fun ov s1 => wpAny M A (calleeOf true o env ov m) (fun f s2 => wpAny M A (callWith pos f.1 f.2 (backTo pos [(false, eval e env)]) []) Q E s2) E s1) E s) :
    _root_.PySem.wpAt M A c (eval (.Call (.Attribute o m apos) [e] [] pos) env) Q E s := by
  have hf : methodCallForm ([e].length + ([] : List Keyword).length) (backTo pos [(false, eval e env)]) (backToKw pos (keywordEach [] env)) = true := rfl
  have hk : backToKw pos (keywordEach [] env) = [] := rfl
  have hp : methodCallPos true o env apos pos = pure pos := by
    unfold methodCallPos
    rw [hpos]
    rfl
  rw [arm_eval_Call, hse]
  refine _root_.PySem.wpAt_bind (ks_wpAt_mono h (fun ov s1 h1 => _root_.PySem.wpAt_of_wpAny (wpAny_bind (wpAny_standAt ?_))) fun _ _ z => z)
  unfold methodCall
  rw [hf, hp, hk]
  exact wpAny_bind (wpAny_holding (wpAny_mono h1 (fun f s2 h2 => wpAny_bind (wpAny_pure h2)) fun _ _ z => z))
theorem exo_nex {a C : Addr} {H : Hp} (h : H a = some (exo a C none)) : upd H a (exo a C none) = H := by
  funext b
  by_cases hb : b = a
  · rw [hb, upd_same, h]
  · rw [upd_ne hb]
section
variable {X : Cx} {pins : List (Addr × Obj)} {σ : L2.St} {H : Hp} {s : Shared} {C fI cda cc a : Addr} {an : Str} {p0 p1 p2 p3 pos : Pos} {e1 : Expr} {ta : TA} {body : List Stmt} {R : Hp → Prop}
theorem xs_super (F : XsF X C fI cda cc an) (T : OexC X.K C) (I : Inv X pins σ H s) (iN : X.N[0]? = some an) (iS : σ[0]? = some (some (.ref a))) (e : H a = some (exo a C none)) (ha : PA X [e1] ta)
    (q : ta σ H fun vs H1 => vs.length ≤ 1000 ∧ H1 a = some (exo a C none) ∧ R H1)
    (hq : swapsWith (.Call (.Attribute (.Call (.Name "super" p0) [] [] p1) "__init__" p2) [e1] [] p3) none pos.line X.env = pure false) (hse : starEach [e1] X.env = [(false, eval e1 X.env)]) (hpos : (p2.endLine == p3.line) = true) :
    _root_.PySem.wpAt (model X.prog X.w) X.A (.func body X.env) (exec (.Expr (.Call (.Attribute (.Call (.Name "super" p0) [] [] p1) "__init__" p2) [e1] [] p3) pos) X.env)
      (fun fl s' => fl = .next ∧ ∃ H1, Inv X pins σ H1 s' ∧ H1 a = some (exo a C none) ∧ R H1) X.xe s := by
  obtain ⟨oc, od, fd, osl, ar, hf, hp, har⟩ := F.fn
  obtain ⟨ccl, cdd, vs0, ccs, file, tf, hcode, hvs, hfile⟩ := F.cdr
  obtain ⟨cl, cld, csl, hcell⟩ := F.cell
  obtain ⟨oD, odD, cdD, osD, hD⟩ := F.cls
  have KX := I.kIn
  refine ks_wpAt_Expr_any (xs_form hse hpos ?_) I.quiet hq
  obtain ⟨m, hn, hl⟩ := I.loc
  obtain ⟨u, ru, hu⟩ := hl 0 an (.ref a) iN iS (.inl F.hka)
  obtain rfl : u = Value.ref a := ru
  have hm : m an = some (.ref a) := by
    rcases hu with ⟨_, h⟩ | ⟨h, _⟩
    · exact h
    · have h' : X.env.scope.names.lookup an = some .cell ∨ X.env.scope.names.lookup an = some .free := h
      rw [F.hka] at h'
      rcases h' with h' | h' <;> cases h'
  obtain ⟨t0, he⟩ := exo_at I.hok e
  obtain ⟨mb, hb1, hb2⟩ := I.mod.blt
  obtain ⟨hh, g, d, t, os⟩ := s
  refine ks_wpAt_super_base (env := X.env) F.hks F.hkc (by decide) F.func (KX _ _ hf) rfl hp F.code (KX _ _ hcode) rfl hvs hfile F.top ?_
  refine PySem.W.ks_loadName_global I.ok.kind F.hks (PySem.Calls.loadGlobal_builtin (by rw [I.ok.glob]; exact I.mod.glob.keeps I.bk) F.sup (by rw [I.ok.blt]; exact hb1.keeps I.bk)
    ((hb2 _ (by decide)).trans (show bootBuiltins "super" = some (.type "super") by kernel_rfl)) ⟨rfl, ?_⟩)
  refine wpAny_loadName_free I.ok.kind F.hkc F.cl ⟨_, KX _ _ hcell, rfl⟩ ?_
  rw [har]
  refine wpAny_loadName_local I.ok.kind F.hka hn hm ?_
  refine ks_wpAny_isType_cls (KX _ _ hD) rfl ⟨rfl, ?_⟩
  refine ks_wpAny_call_super (KX _ _ hD) rfl he rfl (fun c z => nomatch z) (PySem.W.looks_mroIn KX F.sub) fun h1 so1 k1 => ?_
  have I2 : Inv X ((hh.objs.size, PySem.W.ks_superObj C a C) :: pins) σ H ⟨h1, g, d, t, os⟩ := _root_.ClX.pin_new (t' := t) I k1 (Nat.le_refl _) so1 (fun v z => nomatch z)
  have KX2 := I2.kIn
  have he2 := k1 _ _ he
  have In2 : PySem.W.InstAt h1 a (exoOf C t0 none) C none := ⟨he2, rfl, rfl, trivial⟩
  have hi2 : PySem.W.Looks (model X.prog X.w) h1 (isInstance (.ref a) (.type "ValueError")) true := In2.type.andThen (PySem.W.looks_subIn KX2 F.sVE)
  have hs := F.init
  cases hc : PySem.W.clsIn X.K C with
  | none => unfold PySem.W.ks_superIn at hs; rw [hc] at hs; cases hs
  | some cd =>
    unfold PySem.W.ks_superIn at hs
    rw [hc] at hs
    refine PySem.W.kxs_getMethod PySem.W.kxs_ValueError so1 (PySem.W.looks_opaque KX2 F.op) (l₀ := cd.mro) ?_ rfl KX2 hs hi2 (PySem.W.ks_ne KX2 In2 hc) (by decide) ?_
    · exact fun A Q E s k q => wpAny_bind ((PySem.W.looks_clsIn KX2 hc) A _ E s k (wpAny_pure q))
    have I3 : Inv X ((h1.objs.size, kxs_mw "ValueError.__init__" a) :: (hh.objs.size, PySem.W.ks_superObj C a C) :: pins) σ H ⟨h1.push (kxs_mw "ValueError.__init__" a), g, d, t + 1, os⟩ :=
      _root_.ClX.pin_new (t' := t + 1) I2 (fun _ _ z => Heap.get?_push_of_some _ z) (Nat.le_refl _) (Heap.get?_push_size h1 rfl) (fun v z => nomatch z)
    refine PySem.W.kxs_callWith (i := "ValueError.__init__") (x := a) rfl (PySem.Calls.evalArgs_plain ?_)
    have hr := ha.run p3 _ _ σ H _ I3 q
    rw [hse] at hr
    refine thn hr fun us s4 ⟨vs, H1, I4, rv, hz, e4, r⟩ => ?_
    have hu4 := (I4.pin _ (List.mem_append_right _ List.mem_cons_self)).1
    refine ⟨hu4, ?_⟩
    obtain ⟨t4, he4⟩ := exo_at I4.hok e4
    refine xs_call T I4.kIn hu4 he4 (by show us.length ≤ sizeLine; rw [← rv.length, sizeLine_eq]; omega) fun h' t1 k hx => ?_
    have J := I4.write (t' := s4.toks) (x := a) (e := a) (o := exo a C none) (by rw [e4]; exact True.intro) (.inl rfl) k ⟨_, hx⟩ (exo_ok hx)
    rw [exo_nex e4] at J
    exact ⟨rfl, H1, J.pins_of fun p hp => J.pin p (List.mem_append_right _ (List.mem_cons_of_mem _ (List.mem_cons_of_mem _ hp))), e4, r⟩
end
end LB

end
section
set_option Elab.async false
set_option linter.all false
set_option maxRecDepth 100000
set_option maxHeartbeats 4000000
/-! Layer B, X1: the __init__ of an exception of the program keeps its promise. -/
namespace LB
open PySem PySem.Spec PyProof.Rows L2
open PySem.W (kxs_mw)
/-- the context of such an __init__: its one cell is the class's, from outside -/
def cxX (CX : CXT) (P : Program) (w : World) (K : PySem.W.Frag) (mg : Str → Option Value) (base : Heap) (N : List Str) (qual : Str) (scope : Scope) (f : Addr) (cd : Value) (cc : Addr) (A : Around) (outer : List Env) (s : Shared) (H : Hp) (E : XK) : Cx where
  prog := P
  w := w
  K := K
  mg := mg
  base := base
  A := A.deeper (PySem.W.ksEnv qual scope s.heap.objs.size f cd cc)
  N := N
  s_0 := s
  H_0 := H
  env := PySem.W.ksEnv qual scope s.heap.objs.size f cd cc
  outer := outer
  stack := PySem.W.ksEnv qual scope s.heap.objs.size f cd cc :: outer
  ex := []
  calm := true
  fn := fun _ => false
  pn := []
  xe := fun e s' => wpAny (model P w) (A.deeper (PySem.W.ksEnv qual scope s.heap.objs.size f cd cc)) (leaving (PySem.W.ksEnv qual scope s.heap.objs.size f cd cc) e) (fun _ s'' => CX outer H s E e s'') (fun e' s'' => CX outer H s E e' s'') s'
/-- its scope -/
structure XScope (scope : Scope) (n0 n1 : Str) : Prop where
  kind : scope.kind = .function
  co : scope.isCoroutine = false
  gen : scope.isGenerator = false
  k0 : scope.names.lookup n0 = some .local
  k1 : scope.names.lookup n1 = some .local
  nc : ∀ y ∈ scope.names, y.2 ≠ .cell
  fr : ∀ y ∈ scope.names, y.2 = .free → y.1 = "__class__"
  ne : n0 ≠ n1
section
variable {CX : CXT} {P : Program} {w : World} {K : PySem.W.Frag} {mg : Str → Option Value} {base : Heap} {qual n0 n1 : Str} {scope : Scope} {f cc C : Addr} {cd : Value} {A : Around} {outer : List Env} {s : Shared} {H : Hp} {E : XK}
theorem inv_startX {h0 : Heap} {tk : Nat} {u0 u1 : Value} {v0 v1 : V} (S : XScope scope n0 n1) (hd : A.handled = none) (e0 : Env0 P w K mg base A outer s H) (r0 : RelV v0 u0) (r1 : RelV v1 u1)
    (hcc : ∃ cl cld csl, K.lookup cc = some ⟨cl, cld, .cell (some (.ref C)), csl⟩) (hns : h0.Ns s.heap.objs.size fun x => [(n0, u0), (n1, u1)].reverse.lookup x) (hk : ∀ b o, s.heap.get? b = some o → h0.get? b = some o) :
    Inv (cxX CX P w K mg base [n0, n1] qual scope f cd cc A outer s H E) [] [some v0, some v1] H { s with heap := h0, toks := tk } := by
  obtain ⟨cl, cld, csl, hcc⟩ := hcc
  have hb : base.get? cc = some ⟨cl, cld, .cell (some (.ref C)), csl⟩ := e0.mod.kin _ _ hcc
  have cs : ∀ x c, List.lookup x [(("__class__" : Str), cc)] = some c → x = "__class__" ∧ c = cc := fun x c h => by
    rw [List.lookup_cons] at h
    cases q : x == ("__class__" : Str) with
    | true => rw [q] at h; exact ⟨eq_of_beq q, (Option.some.inj h).symm⟩
    | false => rw [q] at h; cases h
  have noA : ∀ b : Addr, b ∉ (cxX CX P w K mg base [n0, n1] qual scope f cd cc A outer s H E).ex := fun b z => absurd (show b ∈ ([] : List Addr) from z) (by simp)
  refine ⟨⟨e0.mod, S.kind, rfl, rfl, Nat.le_refl _, fun y z c h1 h2 => ?_, fun y hy => ?_, fun y c z _ => (nomatch z), fun _ => hd, Around.frames_deeper e0.frames, .inr ⟨rfl, rfl⟩, fun b z => absurd z (noA b), e0.bs, e0.bsz, fun b _ _ => noA b, fun b z => absurd z (noA b), e0.funs, e0.frf⟩,
    rfl, e0.bare, Un.kept hk, ⟨_, hns, fun i y v h1 h2 h3 => ?_⟩, fun y c h => ?_, e0.hok.fresh (Nat.le_refl _), fun y c h => ?_, fun p hp => absurd (show p ∈ ([] : List (Addr × Obj)) from hp) (by simp), e0.hok.kept hk, rfl⟩
  · rw [(cs y c h1).1, (cs z c h2).1]
  · have hy : scope.names.lookup y = some .cell ∨ scope.names.lookup y = some .free := hy
    rcases hy with hy | hy
    · exact absurd rfl (S.nc _ (PySem.mem_of_lookup hy))
    · obtain rfl : y = ("__class__" : Str) := S.fr _ (PySem.mem_of_lookup hy) rfl
      exact ⟨cc, rfl⟩
  · match i, h1, h2 with
    | 0, h1, h2 =>
      cases h1; cases h2
      refine ⟨u0, r0, .inl ⟨S.k0, ?_⟩⟩
      show List.lookup n0 [(n1, u1), (n0, u0)] = _
      rw [List.lookup_cons, beq_eq_false_iff_ne.mpr S.ne]
      simp
    | 1, h1, h2 =>
      cases h1; cases h2
      refine ⟨u1, r1, .inl ⟨S.k1, ?_⟩⟩
      show List.lookup n1 [(n1, u1), (n0, u0)] = _
      simp
    | i + 2, h1, h2 => cases i <;> cases h1
  · obtain ⟨rfl, rfl⟩ := cs y c h
    exact ⟨_, _, hk _ _ (e0.bs _ _ hb).1, rfl⟩
  · obtain ⟨rfl, rfl⟩ := cs y c h
    exact (e0.bs _ _ hb).2
/-- the body: super().__init__(e1); self.fld = n1 -/
def xBody (n0 n1 fld : Str) (e1 : Expr) (p0 p1 p2 p3 q1 q2 q3 q4 q5 : Pos) : List Stmt :=
  [.Expr (.Call (.Attribute (.Call (.Name "super" p0) [] [] p1) "__init__" p2) [e1] [] p3) q1, .Assign [.Attribute (.Name n0 q2) fld q3] (.Name n1 q4) q5]
/-- what such an __init__ promises -/
def spX (C : Addr) (fld : Str) (ta : TA) : Sp := fun vs H Q _ => ∃ a y, vs = [.ref a, y] ∧ H a = some (exo a C none) ∧
  ta [some (.ref a), some y] H fun ws H1 => ws.length ≤ 1000 ∧ H1 a = some (exo a C none) ∧ ∀ dx, H1 dx = none → dx ≠ a → Q .non (upd (upd H1 dx (exd dx [(fld, y)])) a (exo a C (some dx)))
theorem xs_fn {k : Nat} {name fld : Str} {params : Arguments} {dV kV doc pm ct oc : Value} {an od : Option Addr} {osl : Array (Option Value)} {e1 : Expr} {ta : TA} {p0 p1 p2 p3 q1 q2 q3 q4 q5 : Pos} {cda : Addr}
    (lk : K.lookup f = some ⟨oc, od, .func (PySem.W.ksFn name qual params (xBody n0 n1 fld e1 p0 p1 p2 p3 q1 q2 q3 q4 q5) scope dV kV doc pm an (.ref cda) ct cc), osl⟩) (hcd : PySem.W.codeIn K (.ref cda) qual = true) (S : XScope scope n0 n1) (T : OexC K C)
    (hF : ∀ A outer s H E, XsF (cxX CX P w K mg base [n0, n1] qual scope f (.ref cda) cc A outer s H E) C f cda cc n0) (ha : ∀ A outer s H E, PA (cxX CX P w K mg base [n0, n1] qual scope f (.ref cda) cc A outer s H E) [e1] ta)
    (hno : PySem.W.findIn K (.ref C) fld = some none) (hpos : (p2.endLine == p3.line) = true)
    (hse : ∀ env, starEach [e1] env = [(false, eval e1 env)]) (hsw : ∀ env, swapsWith (.Call (.Attribute (.Call (.Name "super" p0) [] [] p1) "__init__" p2) [e1] [] p3) none q1.line env = pure false)
    (d0 : (n0 == ("__debug__" : Str)) = false) (d1 : (n1 == ("__debug__" : Str)) = false) (c0 : (n0 == ("__classdict__" : Str)) = false) (c1 : (n1 == ("__classdict__" : Str)) = false) :
    FnOk P w K mg base CX (k + 1) f (PySem.W.ksFn name qual params (xBody n0 n1 fld e1 p0 p1 p2 p3 q1 q2 q3 q4 q5) scope dV kV doc pm an (.ref cda) ct cc) [n0, n1] (spX C fld ta) := by
  refine ⟨fun vs H Q E ⟨a, y, e, _⟩ => by rw [e]; rfl, fun A outer s H args us vs Q E hr e0 hb r hsp => ?_⟩
  obtain ⟨a, y, rfl, ea, q⟩ := hsp
  cases r with
  | @cons _ u0 _ ur r0 rr =>
  cases rr with
  | @cons _ u1 _ ur r1 rr =>
  cases rr
  obtain rfl : u0 = Value.ref a := r0
  have KX : K.In s.heap := e0.mod.kin.keeps fun b o e => (e0.bs b o e).1
  have lim : s.heap.NoLimit := e0.mod.nolimit.keeps fun b o e => (e0.bs b o e).1
  refine ks_codeAny_call_defAt (fd := PySem.W.ksFn name qual params (xBody n0 n1 fld e1 p0 p1 p2 p3 q1 q2 q3 q4 q5) scope dV kV doc pm an (.ref cda) ct cc) (body := xBody n0 n1 fld e1 p0 p1 p2 p3 q1 q2 q3 q4 q5) (binds := [(n0, .ref a), (n1, u1)])
    hr.depth (KX _ _ lk) rfl lim (PySem.W.codeRec_of KX hcd) rfl hb S.nc (fun x hx => ?_) (fun h0 hns hk => ?_) S.co S.gen S.kind
  · rcases List.mem_cons.mp hx with rfl | hx
    · exact S.k0
    rcases List.mem_cons.mp hx with rfl | hx
    · exact S.k1
    cases hx
  have I : Inv (cxX CX P w K mg base [n0, n1] qual scope f (.ref cda) cc A outer s H E) [] [some (.ref a), some y] H { s with heap := h0, toks := s.toks + 2 } := inv_startX S hr.hd e0 rfl r1 (hF A outer s H E).cell hns hk
  have F1 := hF A outer s H E
  refine ks_wpAt_execs_cons (ks_wpAt_mono (xs_super (R := fun H1 => ∀ dx, H1 dx = none → dx ≠ a → Q .non (upd (upd H1 dx (exd dx [(fld, y)])) a (exo a C (some dx)))) F1 T I rfl rfl ea (ha A outer s H E) q (hsw _) (hse _) hpos) (fun fl s1 h1 => ?_) fun _ _ z => z)
  obtain ⟨rfl, H1, I1, ea1, q1⟩ := h1
  have v0 : PE (cxX CX P w K mg base [n0, n1] qual scope f (.ref cda) cc A outer s H E) (.Name n0 q2) (tVar 0) := pe_var rfl (.inl S.k0) d0 c0
  have v1 : PE (cxX CX P w K mg base [n0, n1] qual scope f (.ref cda) cc A outer s H E) (.Name n1 q4) (tVar 1) := pe_var rfl (.inl S.k1) d1 c1
  refine ks_wpAt_execs_cons (_root_.PySem.wpAt_of_wpAny (thn ((ps_ost (p' := q3) (pos := q5) (f := fld) v0 v1 rfl).run [] s1 _ H1 { nx := fun _ H' => Q .non H', rt := fun _ _ => False } I1 ?_) fun fl s2 h2 => ?_))
  · refine ⟨y, rfl, .ref a, rfl, a, C, rfl, T, hno, .inl ⟨ea1, fun dx n ne => q1 dx n ne⟩⟩
  cases fl with
  | next =>
    obtain ⟨σ2, H2, I2, q2⟩ := h2
    refine _root_.PySem.wpAt_of_wpAny (wpAny_pure ?_)
    exact ⟨.non, H2, I2.os, I2.bare, I2.base, I2.hok, rfl, q2⟩
  | ret u =>
    obtain ⟨_, _, _, _, _, z⟩ := h2
    exact z.elim
  | brk =>
    obtain ⟨_, _, _, z⟩ := h2
    exact z.elim
  | cont =>
    obtain ⟨_, _, _, z⟩ := h2
    exact z.elim
end
end LB

end
section
set_option Elab.async false
set_option linter.all false
set_option maxRecDepth 100000
set_option maxHeartbeats 4000000
/-! Layer B, X2: raise C(e): the heap behind the __init__, as trees. -/
namespace LB
open PySem PySem.Spec PyProof.Rows L2
open PL (PV MV Txt IE IEs IT II IS ISs)
section
variable {k : Kx} {R R' : Addr → Prop} {σ : L2.St} {H H0 : Hp} {own : Addr → Prop} {env' : PL.Env} {fo : Nat → List Addr} {w : PV} {y : V} {c f : Txt} {C dx a : Addr}
/-- a new exception with its one field -/
theorem postX_new (b : At k R σ H own env' fo R' H0) (r : RepP k H0 (bn fo R') w y) (hC : k.cl c = some C) (hd : H0 dx = none) : PostX k R σ H own env' (.exc c f w) (.ref C) (some dx) (upd H0 dx (.xd [(strOf f, y)])) := by
  refine ⟨fo, (b.lay (o := .xd [(strOf f, y)]) hd).drop (fun c h => .inr (b.sub c h)) (fun _ h => h), c, f, w, C, rfl, hC, rfl, .inr ⟨dx, y, rfl, upd_same, ?_⟩⟩
  refine r.stay (S := fun _ => False) ⟨fun q o e _ => ?_, fun _ _ z => z.elim⟩ fun q ne nb => ⟨id, fun z => nb (z.imp id fun z => b.sub q z)⟩
  by_cases h : q = dx
  · rw [h, hd] at e; cases e
  · rw [upd_ne h]; exact e
/-- the heap behind C(e) -/
theorem heap_made (fs : List (Str × V)) (ha : H0 a = none) (hne : dx ≠ a) :
    upd (del (upd (upd (upd H0 a (exo a C none)) dx (exd dx fs)) a (exo a C (some dx))) a) dx (.xd fs) = upd H0 dx (.xd fs) := by
  funext q
  by_cases h : q = dx
  · rw [h, upd_same, upd_same]
  rw [upd_ne h, upd_ne h]
  by_cases h2 : q = a
  · rw [h2, del_same, ha]
  · rw [del_ne h2, upd_ne h2, upd_ne h, upd_ne h2]
end
/-- C(e, ..), told with its context -/
theorem pmk_oexN {X : Cx} {CX : CXT} {x : Str} {e : Expr} {es : List Expr} {ta : TA} {p pos : Pos} {C fI : Addr} {k : Nat} {fd : FuncData} {ps : List Str} {sp : Sp} (T : OexC X.K C) (iC : PySem.W.findIn X.K (.ref C) "__init__" = some (some (.ref fI))) (tI : PySem.W.typeIn X.K (.ref fI) = some (.type "function"))
    (F1 : FnOk X.prog X.w X.K X.mg X.base CX k fI fd ps sp) (hr : Room (k + 1) X.A) (hb : Binds X.K fd ps []) (hx : Passes CX X (fun _ _ _ => False)) (hg : Gl X x) (hm : X.mg x = some (.ref C)) (ha : PA X (e :: es) ta)
    (hdb : (x == ("__debug__" : Str)) = false) (he : starEach (e :: es) X.env = (false, eval e X.env) :: starEach es X.env) (hpl : (backTo pos (starEach es X.env)).any (·.1) = false) :
    L2N.PMk X (.Call (.Name x p) (e :: es) [] pos) (tMkO C sp [] ta) := by
  intro pins s σ H Q I h
  obtain ⟨nm, q, N, bs, bm, sn, sub, ab, col, dd, k0, k1, k2, k3, k5, hC, hbm⟩ := T.cls
  refine wpAny_Call_Name_kw (ld_glob I hg hm ?_ hdb)
  refine PySem.W.callWith_K (h₀ := X.base) I.ok.mod.kin T.kC (thn (ha.run pos pins s σ H _ I h) fun us s1 ⟨vs, H1, I1, r1, hz, q1⟩ => ⟨I1.kIn, ?_⟩) he hpl
  show wpAny _ _ (call (.ref C) us) _ _ _
  obtain ⟨hp, g, dr, tk, os⟩ := s1
  have hsz : hp.objs.size ≤ hp.objs.size + 1 := Nat.le_succ _
  have hn : H1 (hp.objs.size + 1) = none := I1.hok.fresh hsz
  have hq := q1 (hp.objs.size + 1) hn
  rw [List.append_nil] at hq
  have kk : ∀ b o, hp.get? b = some o → ((hp.push (PySem.W.kdv_tup us)).push (PySem.HandSPX.excO C hp.objs.size)).get? b = some o := fun b o e => Heap.get?_push_of_some _ (Heap.get?_push_of_some _ e)
  have hget : ((hp.push (PySem.W.kdv_tup us)).push (PySem.HandSPX.excO C hp.objs.size)).get? (hp.objs.size + 1) = some (PySem.HandSPX.excO C hp.objs.size) := by heap_get
  have I2 : Inv X pins σ (upd H1 (hp.objs.size + 1) (exo (hp.objs.size + 1) C none)) ⟨(hp.push (PySem.W.kdv_tup us)).push (PySem.HandSPX.excO C hp.objs.size), g, dr, tk, os⟩ :=
    I1.laid (t' := tk) (a := hp.objs.size + 1) (o := exo (hp.objs.size + 1) C none) (h' := (hp.push (PySem.W.kdv_tup us)).push (PySem.HandSPX.excO C hp.objs.size)) kk hsz (exo_ok hget)
  have r2 : Vals (V.ref (hp.objs.size + 1) :: vs) (Value.ref (hp.objs.size + 1) :: us) := .cons rfl r1
  have hl : (Value.ref (hp.objs.size + 1) :: us ++ []).length = ps.length := by
    have e := r2.length
    rw [F1.len _ _ _ _ hq] at e
    rw [List.append_nil]
    exact e.symm
  have hus : us.length ≤ sizeLine := by
    rw [← Paired.length r1, sizeLine_eq]
    omega
  have b2 := hb _ (Value.ref (hp.objs.size + 1) :: us) I2.kIn hl
  rw [List.append_nil] at b2
  refine wpAny_call (PySem.HandSPX.call_own F.excBase_ValueError (fun Y => PySem.HandSPX.refsVE_contains Y bm hbm) (I1.kIn _ _ hC) (PySem.W.looks_findIn I1.kIn iC) (fun self => PySem.W.bind_fn I1.kIn self tI) hus
    (codeAny_mono (F1.run _ X.stack _ _ ⟨Value.ref (hp.objs.size + 1) :: us, []⟩ (Value.ref (hp.objs.size + 1) :: us) _ _ (fun _ _ _ => False) (hr.make C us []) (I2.env0.make C us []) b2 r2 hq) fun r s' hq' => ?_))
  cases r with
  | error er => exact hx pins σ _ _ er s' I2 hq'
  | ok fl =>
    cases fl with
    | ret u =>
      obtain ⟨v, H2, os2, bare2, un2, hok2, rv, ev, d, fs, ea, ed, hd1, q2⟩ := hq'
      subst ev
      obtain ⟨h2, g2, d2, t2, os'⟩ := s'
      obtain ⟨t0, G, J, kG, ge, hoe, na⟩ := mk_end0 (d2 := d2) (t2 := t2) I1 hsz kk un2 hok2 os2 bare2 ea ed hd1
      refine ⟨rv, ⟨hp.objs.size + 1, _, _, ⟨G, g2, d2, t2, os'⟩, _, .ref C, some d, rfl, J, kG, ge, hoe, ⟨rfl, rfl, fun vs hv => ?_⟩, rfl, rfl, na, rfl, bare2, raises_own T.exC T.tyC, q2⟩⟩
      cases hv
      rfl
    | next => exact False.elim hq'
    | brk => exact False.elim hq'
    | cont => exact False.elim hq'
/-- the text's reading keeps the heap: behind such a reading the promise gives the raise's heap -/
theorem mkO_end {ta : TA} {C : Addr} {fld : Str} {H0 : Hp} {y : V} {Q : XK} (hta : ∀ (τ : L2.St) (h : Hp) (P : List V → Hp → Prop), τ[1]? = some (some y) → (∀ z : Str, P [.str z] h) → ta τ h P)
    (hq : ∀ dx, H0 dx = none → Q (.ref C) (some dx) (upd H0 dx (.xd [(fld, y)]))) : ∀ a, H0 a = none → spX C fld ta [.ref a, y] (upd H0 a (exo a C none))
      (fun v H2 => v = .non ∧ ∃ (d : Addr) (fs : List (Str × V)), H2 a = some (exo a C (some d)) ∧ H2 d = some (exd d fs) ∧ H0 d = none ∧ Q (.ref C) (some d) (upd (del H2 a) d (.xd fs))) (fun _ _ _ => False) := fun a ha => by
  refine ⟨a, y, rfl, upd_same, hta _ _ _ rfl fun z => ?_⟩
  refine ⟨by simp, upd_same, fun dx n ne => ?_⟩
  have n0 : H0 dx = none := by rw [upd_ne ne] at n; exact n
  refine ⟨rfl, dx, [(fld, y)], upd_same, by rw [upd_ne ne, upd_same], n0, ?_⟩
  rw [heap_made _ ha ne]
  exact hq dx n0
end LB

end
section
set_option Elab.async false
set_option linter.all false
set_option maxRecDepth 100000
set_option maxHeartbeats 4000000
/-! Layer B, X3: the text of an error; raise C(e). -/
namespace LB
open PySem PySem.Spec PyProof.Rows L2
open PL (PV MV Txt IE IEs IT II IS ISs)
section
variable {X : Cx} {k : Kx} {W : WX} {C : PL.Ctx} {n1 msg : Str} {j : Nat} {pa pb pc pd pe : Pos}
def rCatS : R2 := fun x y H Q => ∃ i j, x = .str i ∧ y = .str j ∧ i.length + j.length ≤ sizeLine ∧ Q (.str (i ++ j)) H
/-- "text" + what -/
def taWhat (msg : Str) : TA := tCons (tOp rCatS (tC (.str msg)) (tVar 1)) tNil
theorem pa_what (hN : X.N[1]? = some n1) (hv : Vis X.env.scope n1) (d1 : (n1 == ("__debug__" : Str)) = false) (c1 : (n1 == ("__classdict__" : Str)) = false) : PA X [.BinOp (.Constant (.str msg) j pa) .Add (.Name n1 pb) pc] (taWhat msg) :=
  pa_cons (pe_op op_add_str pe_str (pe_var hN hv d1 c1)) pa_nil rfl
theorem ta_what {z : Str} (hz : msg.length + z.length ≤ sizeLine) : ∀ (τ : L2.St) (h : Hp) (P : List V → Hp → Prop), τ[1]? = some (some (.str z)) → (∀ z : Str, P [.str z] h) → taWhat msg τ h P :=
  fun τ h P e q => ⟨.str z, e, msg, z, rfl, rfl, hz, q _⟩
end
/-- the text of an error with such a field -/
structure TaOk (f : Txt) (ta : TA) : Prop where
  ok : ∀ (m : MV) (v : PV), PL.excArg f [m] = some v → m = .p v ∧ ∀ (k : Kx) (H : Hp) (B : Addr → Prop) (y : V), RepP k H B v y → ∀ (τ : L2.St) (h : Hp) (P : List V → Hp → Prop), τ[1]? = some (some y) → (∀ z : Str, P [.str z] h) → ta τ h P
theorem excArg_one {f : Txt} {vs : List MV} {v : PV} (hf : f ≠ []) (h : PL.excArg f vs = some v) : ∃ m, vs = [m] := by
  unfold PL.excArg at h
  split at h
  · rw [if_neg hf] at h; cases h
  · exact ⟨_, rfl⟩
  · exact ⟨_, rfl⟩
  · exact ⟨_, rfl⟩
  · cases h
theorem taOk_what {msg : Str} (hms : msg.length ≤ 1000) : TaOk PL.whatF (taWhat msg) := ⟨fun m v h => by
  unfold PL.excArg at h
  split at h
  · cases ‹[m] = []›
  · rename_i s heq
    cases heq
    by_cases q : s.length ≤ 1000
    · rw [if_pos ⟨rfl, q⟩] at h
      cases h
      refine ⟨rfl, fun k H B y r => ?_⟩
      obtain rfl : y = V.str (strOf s) := r
      exact ta_what (by have := strOf_len s; rw [sizeLine_eq]; omega)
    · rw [if_neg fun z => q z.2] at h; cases h
  · rw [if_neg fun z => z.1 rfl] at h; cases h
  · rw [if_neg (by decide)] at h; cases h
  · cases h⟩
/-- a class that is raised -/
structure RaiOk (X : Cx) (k : Kx) (x : Str) (c f : Txt) : Prop where
  ex : ∃ (Cl fI : Addr) (fd : FuncData) (n0 n1 : Str) (q : Nat) (ta : TA), OexC X.K Cl ∧ PySem.W.findIn X.K (.ref Cl) "__init__" = some (some (.ref fI)) ∧ PySem.W.typeIn X.K (.ref fI) = some (.type "function") ∧
    FnOk X.prog X.w X.K X.mg X.base (L2N.CX X.prog X.w) q fI fd [n0, n1] (spX Cl (strOf f) ta) ∧ Room (q + 1) X.A ∧ Binds X.K fd [n0, n1] [] ∧ X.mg x = some (.ref Cl) ∧ k.cl c = some Cl ∧ TaOk f ta ∧ f ≠ []
section
variable {X : Cx} {k : Kx} {W : WX} {C : PL.Ctx} {x : Str} {c f : Txt} {es : List Expr} {e : Expr} {ies : IEs} {p pos pos' : Pos}
/-- raise C(e) -/
theorem mk_rai (tk : L2N.Takes X W) (hc : X.calm = true) (ro : RaiOk X k x c f) (hg : Gl X x) (ha : PA X [e] (tVs k W C ies)) (hst : starEach [e] X.env = (false, eval e X.env) :: starEach [] X.env) (hdb : (x == ("__debug__" : Str)) = false) :
    PS X (.Raise (some (.Call (.Name x p) [e] [] pos)) none pos') (tS k W C (.rai c f ies)) := by
  obtain ⟨Cl, fI, fd, n0, n1, q, ta, T, iC, tI, F1, hr, hb, hm, hk, hta, hf⟩ := ro.ex
  refine imS (L2N.ps_raise hc tk (pmk_oexN T iC tI F1 hr hb (L2N.passes_call tk fun _ _ _ _ z => z.elim) hg hm ha hdb hst rfl)) fun D σ H ⟨env, fo, R, ok, o⟩ => ?_
  refine ⟨env, fo, R, ok, ?_⟩
  have o' : OutS k W R σ H (Own fo) C.lock D ((PL.evs C ies env).bind fun vs ε1 => match PL.excArg f vs with
    | some v => .ex (.exc c f v) ε1
    | none => .bad) := by
    unfold PL.evS at o
    exact o
  have o2 := o'.bind
  cases hr : PL.evs C ies env with
  | bad => rw [hr] at o2; exact o2.elim
  | ex ee ε => rw [hr] at o2; exact o2
  | ok vs ε =>
    rw [hr] at o2
    show ∀ xs H', PostVs k R σ H (Own fo) ε vs xs H' → _
    intro xs H' pv
    have o3 : OutS k W R σ H (Own fo) C.lock D (match PL.excArg f vs with
      | some v => .ex (.exc c f v) ε
      | none => .bad) := o2
    cases hv : PL.excArg f vs with
    | none => rw [hv] at o3; exact o3.elim
    | some v =>
      rw [hv] at o3
      obtain ⟨m, rfl⟩ := excArg_one hf hv
      obtain ⟨rfl, ht⟩ := hta.ok m v hv
      obtain ⟨fo1, R1, O, a1, r, _⟩ := pv
      obtain ⟨y, vs', O1, O2, rfl, ⟨r1, _⟩, ⟨rfl, _⟩, _⟩ := r
      refine ⟨by simp, ?_⟩
      refine mkO_end (Q := fun cls d H2 => W cls d σ H2) (ht _ _ _ _ r1) fun dx hd => ?_
      exact o3 σ _ _ _ .refl (postX_new a1 r1 hk hd)
end
end LB

end
section
set_option Elab.async false
set_option linter.all false
set_option maxRecDepth 100000
/-! Layer B, M0: methods of texts, in plain lists. -/
namespace LB
open PySem PySem.Spec PyProof.Rows L2
open PL (PV MV Txt IE IEs IT II IS ISs)
theorem split_ne (c : Nat) : ∀ s : Txt, PL.splitC c s ≠ []
  | [] => by simp [PL.splitC]
  | x :: r => by
    by_cases h : x = c
    · simp [PL.splitC, h]
    · simp only [PL.splitC, if_neg h]
      cases PL.splitC c r <;> simp
theorem spl_c (c : Nat) : ∀ (s acc : Txt), TL.spl [c] 0 acc s = (match PL.splitC c s with
    | [] => [acc]
    | w :: ws => (acc ++ w) :: ws)
  | [], acc => by rw [TL.spl_nil]; simp [PL.splitC]
  | x :: r, acc => by
    by_cases h : x = c
    · subst h
      rw [TL.spl_hit (by simp [TL.pre])]
      show acc :: TL.spl [x] 0 [] r = _
      rw [spl_c x r []]
      simp only [PL.splitC, if_true]
      have := split_ne x r
      cases e : PL.splitC x r with
      | nil => exact absurd e this
      | cons w ws => simp
    · rw [TL.spl_miss (by simp [TL.pre]; exact h), spl_c c r (acc ++ [x])]
      simp only [PL.splitC, if_neg h]
      cases PL.splitC c r <;> simp
theorem split_c {c : Nat} (hc : c < 256) (s : Txt) : Txt.split (strOf s) (strOf [c]) = (PL.splitC c s).map strOf := by
  have h := SX.split_S (a := s) (b := [c]) (by simp) (by simpa using hc)
  refine h.trans ?_
  rw [spl_c]
  have := split_ne c s
  cases e : PL.splitC c s with
  | nil => exact absurd e this
  | cons w ws => rfl
theorem par_c (c : Nat) : ∀ (s acc : Txt), TL.par [c] acc s = (PL.partC c s).map fun q => (acc ++ q.1, q.2)
  | [], acc => rfl
  | x :: r, acc => by
    by_cases h : x = c
    · subst h
      show (if TL.pre [x] (x :: r) = true then some (acc, (x :: r).drop 1) else _) = _
      rw [if_pos (by simp [TL.pre])]
      simp [PL.partC]
    · show (if TL.pre [c] (x :: r) = true then _ else TL.par [c] (acc ++ [x]) r) = _
      rw [if_neg (by simp [TL.pre]; exact h), par_c c r (acc ++ [x])]
      simp only [PL.partC, if_neg h]
      cases PL.partC c r <;> simp
theorem part_some {c : Nat} {s a b : Txt} (h : PL.partC c s = some (a, b)) : Txt.partition (strOf s) (strOf [c]) = (strOf a, strOf [c], strOf b) :=
  SX.partition_some (a := s) (b := [c]) (by simp) (by rw [par_c, h]; rfl)
theorem part_none {c : Nat} {s : Txt} (h : PL.partC c s = none) : Txt.partition (strOf s) (strOf [c]) = (strOf s, strOf [], strOf []) :=
  SX.partition_none (a := s) (b := [c]) (by simp) (by rw [par_c, h]; rfl)
theorem join_c (a : Txt) : ∀ ys : List Txt, TL.joinL a ys = PL.joinT a ys
  | [] => rfl
  | [p] => rfl
  | p :: q :: r => by
    show p ++ (a ++ TL.joinL a (q :: r)) = p ++ a ++ PL.joinT a (q :: r)
    rw [join_c a (q :: r), List.append_assoc]
theorem join_txt (a : Txt) (ys : List Txt) : Txt.join (strOf a) (ys.map strOf) = strOf (PL.joinT a ys) := (SX.join_S a ys).trans (congrArg strOf (join_c a ys))
theorem idx_get {c : Nat} : ∀ {s : Txt} {n : Nat}, PL.idxC c s = some n → s[n]? = some c
  | [], n, h => by cases h
  | x :: r, n, h => by
    by_cases e : x = c
    · simp only [PL.idxC, if_pos e] at h
      cases h
      simp [e]
    · simp only [PL.idxC, if_neg e] at h
      cases g : PL.idxC c r with
      | none => rw [g] at h; cases h
      | some m =>
        rw [g] at h
        cases h
        simpa using idx_get g
theorem idx_occ {c n : Nat} {s : Txt} (hn : s.Nodup) (h : PL.idxC c s = some n) : ∃ rest, Builtin.Str.occurrences (strOf s) (strOf [c]) 0 (strOf s).length 1 = n :: rest := by
  have hg := idx_get h
  have hf : (!(Builtin.Str.occurrences (strOf s) (strOf [c]) 0 (strOf s).length 1).isEmpty) = decide (c ∈ s) := by
    have := PySem.StrLaws.found_one (strOf s) c
    rw [strOf_cps] at this
    exact this
  cases e : Builtin.Str.occurrences (strOf s) (strOf [c]) 0 (strOf s).length 1 with
  | nil =>
    rw [e, decide_eq_true (List.mem_of_getElem? hg)] at hf
    cases hf
  | cons i rest =>
    have h1 := PySem.StrLaws.occ_spec (strOf s) (strOf [c]) 0 (strOf s).length 1 i (by rw [e]; exact List.mem_cons_self ..)
    have h2 := (PySem.StrLaws.subAt_one (strOf s) c i).mp h1
    rw [strOf_cps] at h2
    have hi : i = n := by
      obtain ⟨a1, a2⟩ := List.getElem?_eq_some_iff.mp h2
      obtain ⟨b1, b2⟩ := List.getElem?_eq_some_iff.mp hg
      have key := List.pairwise_iff_getElem.mp hn
      rcases Nat.lt_trichotomy i n with g | g | g
      · exact absurd (a2.trans b2.symm) (key i n a1 b1 g)
      · exact g
      · exact absurd (b2.trans a2.symm) (key n i b1 a1 g)
    exact ⟨rest, by rw [hi]⟩
theorem zfill_txt {s : Txt} {n : Nat} (h : s.all PL.isDig = true) : Txt.zfill (strOf s) (n : Int) = strOf (PL.zfill s n) := by
  have hl : (strOf s).length = s.length := strOf_len s
  unfold Txt.zfill PL.zfill
  by_cases g : n ≤ s.length
  · rw [if_pos (by rw [hl]; omega), show n - s.length = 0 by omega]
    rfl
  · rw [if_neg (by rw [hl]; omega), hl, Int.toNat_natCast]
    unfold zfilled
    have hp : Builtin.Str.padded (strOf s) (n - s.length) 0 48 = strOf (List.replicate (n - s.length) 48 ++ s) := by
      unfold Builtin.Str.padded strOf
      simp
    cases s with
    | nil => exact hp
    | cons x r =>
      have hx : PL.isDig x = true := (List.all_eq_true.mp h) x (List.mem_cons_self ..)
      have h0 : (strOf (x :: r)).cps[0]? = some x := rfl
      rw [h0]
      split
      · rename_i e; cases e; cases hx
      · rename_i e; cases e; cases hx
      · exact hp
end LB

end
section
set_option Elab.async false
set_option linter.all false
set_option maxRecDepth 100000
set_option maxHeartbeats 1000000
/-! Layer B, M1: a method of a text, with one argument. -/
namespace LB
open PySem PySem.Spec PyProof.Rows L2
open PL (PV MV Txt IE IEs IT II IS ISs)
section
variable {X : Cx} {k : Kx} {W : WX} {C : PL.Ctx} {e a b : Expr} {ia ib : IE} {pos : Pos} {env : PL.Env}
def metK (m : PL.Mth) (x y : PL.Opd) (ε2 : PL.Env) : PL.Res MV := match x.get ε2, y.get ε2 with
  | some u, some w => .opt (PL.metF m u [w]) ε2
  | _, _ => .bad
theorem met_two {m : PL.Mth} : PL.ev C (.met m ia (.cons ib .nil)) env = (PL.opd C ia env).bind fun x ε1 => (PL.opd C ib ε1).bind fun y ε2 => metK m x y ε2 := by
  unfold PL.ev
  cases PL.opd C ia env with
  | ex e ε => rfl
  | bad => rfl
  | ok x ε1 =>
    unfold PL.opds
    show ((PL.opd C ib ε1).bind _).bind _ = (PL.opd C ib ε1).bind _
    cases PL.opd C ib ε1 with
    | ex e ε => rfl
    | bad => rfl
    | ok y ε2 =>
      unfold PL.opds metK
      show (match x.get ε2, PL.gets ε2 [y] with
        | some u, some vs => _
        | _, _ => _) = _
      cases hx : x.get ε2 <;> cases h : y.get ε2 <;> simp [PL.gets, h, hx, PL.Res.bind]
/-- a method of a text by values -/
def MeS (k : Kx) (m : PL.Mth) (c : PV) (r : V → List V → Hp → VK → Prop) : Prop := ∀ (R : Addr → Prop) (σ : L2.St) (H : Hp) (env : PL.Env) (fo : Nat → List Addr), EnvOk k R H env σ fo → ∀ (s : Txt) (x y : V) (O2 : List Addr) (v : MV) (Q : VK),
  x = .str (strOf s) → RepM k H (bn fo R) (.p c) y O2 → PL.metF m (.p (.str s)) [.p c] = some v → (∀ z H', PostV k R σ H (Own fo) env v z H' → Q z H') → r x [y] H Q
/-- only texts have it -/
def MeT (m : PL.Mth) (c : MV) : Prop := ∀ u v, PL.metF m u [c] = some v → ∃ s, u = .p (.str s)
theorem rd_met1 {m : PL.Mth} {c : PV} {r : V → List V → Hp → VK → Prop} (hs : MeS k m c r) (ht : MeT m (.p c)) {σ : L2.St} {H : Hp} {Q : VK} (h : tE k W C (.met m ia (.cons (.con c) .nil)) σ H Q) :
    tM1 r (tO k W C ia) (tO k W C (.con c)) σ H Q := by
  obtain ⟨env, fo, R, ok, o⟩ := h
  rw [met_two] at o
  refine ⟨env, fo, R, ok, o.bind.imp fun o1 e1 q1 x H1 p1 => ?_⟩
  obtain ⟨fo1, R1, O1, a1, r1, t1⟩ := p1
  have hop : PL.opd C (.con c) e1 = .ok (.tm (.p c)) e1 := by simp [PL.opd, PL.ev, PL.Res.bind]
  have q0 := q1
  rw [hop] at q0
  have key : ∃ s v, o1.get e1 = some (.p (.str s)) ∧ PL.metF m (.p (.str s)) [.p c] = some v := by
    change Outc k W R σ H (Own fo) _ (metK m o1 (.tm (.p c)) e1) at q0
    unfold metK at q0
    cases hg : o1.get e1 with
    | none => rw [hg] at q0; exact q0.elim
    | some u =>
      rw [hg] at q0
      cases hv : PL.metF m u [.p c] with
      | none =>
        change Outc k W R σ H (Own fo) _ (PL.Res.opt (PL.metF m u [.p c]) e1) at q0
        rw [hv] at q0; exact q0.elim
      | some v =>
        obtain ⟨s, hu⟩ := ht u v hv
        subst hu
        exact ⟨s, v, rfl, hv⟩
  obtain ⟨s, v, hg, hv⟩ := key
  obtain ⟨O', rs⟩ := r1.look a1.ok hg
  have hx : x = .str (strOf s) := rs.1
  refine ⟨⟨_, hx⟩, e1, fo1, R1, a1.ok, ?_⟩
  rw [hop]
  have hk : metK m o1 (.tm (.p c)) e1 = .ok v e1 := by
    unfold metK
    rw [hg]
    show PL.Res.opt (PL.metF m (.p (.str s)) [.p c]) e1 = _
    rw [hv]
    rfl
  change Outc k W R σ H (Own fo) _ (metK m o1 (.tm (.p c)) e1) at q0
  rw [hk] at q0
  intro y H2 p2
  obtain ⟨fo2, R2, O2, a2, r2, t2⟩ := p2
  obtain ⟨O2', rc⟩ := r2.look a2.ok (show PL.Opd.get e1 (.tm (.p c)) = some (.p c) from rfl)
  exact hs R2 σ H2 e1 fo2 a2.ok s x y O2' v Q hx rc hv fun z H' p => q0 z H' ((p.step a2).step a1)
/-- the receiver is a written text -/
def isTx : IE → Option Txt
  | .con (.str s) => some s
  | .glo _ (.str s) => some s
  | _ => none
theorem isTx_opd {s : Txt} (h : isTx ia = some s) (env : PL.Env) : PL.opd C ia env = .ok (.tm (.p (.str s))) env := by
  unfold isTx at h
  split at h
  · cases h; simp [PL.opd, PL.ev, PL.Res.bind]
  · cases h; simp [PL.opd, PL.ev, PL.Res.bind]
  · cases h
theorem rd_met2 {m : PL.Mth} {s : Txt} {r : V → List V → Hp → VK → Prop} (hi : isTx ia = some s) (hs : ∀ (R : Addr → Prop) (σ : L2.St) (H : Hp) (env : PL.Env) (fo : Nat → List Addr), EnvOk k R H env σ fo → ∀ (w : MV) (x y : V) (O2 : List Addr) (v : MV) (Q : VK),
  x = .str (strOf s) → RepM k H (bn fo R) w y O2 → PL.metF m (.p (.str s)) [w] = some v → (∀ z H', PostV k R σ H (Own fo) env v z H' → Q z H') → r x [y] H Q) {σ : L2.St} {H : Hp} {Q : VK} (h : tE k W C (.met m ia (.cons ib .nil)) σ H Q) :
    tM1 r (tO k W C ia) (tO k W C ib) σ H Q := by
  obtain ⟨env, fo, R, ok, o⟩ := h
  rw [met_two, isTx_opd hi] at o
  refine ⟨env, fo, R, ok, ?_⟩
  rw [isTx_opd hi]
  intro x H1 p1
  obtain ⟨fo1, R1, O1, a1, r1, t1⟩ := p1
  obtain ⟨O', rs⟩ := r1.look a1.ok (show PL.Opd.get env (.tm (.p (.str s))) = some (.p (.str s)) from rfl)
  have hx : x = .str (strOf s) := rs.1
  have o2 : Outc k W R σ H (Own fo) (fun v env' => ∀ x H', PostV k R σ H (Own fo) env' v x H' → Q x H') ((PL.opd C ib env).bind fun y ε2 => metK m (.tm (.p (.str s))) y ε2) := o
  refine ⟨⟨_, hx⟩, env, fo1, R1, a1.ok, (o2.bind.step a1 fun _ _ z => z).imp fun q e2 q2 y H2 p2 => ?_⟩
  obtain ⟨fo2, R2, O2, a2, r2, t2⟩ := p2
  unfold metK at q2
  have hg : PL.Opd.get e2 (.tm (.p (.str s))) = some (.p (.str s)) := rfl
  rw [hg] at q2
  cases hw : q.get e2 with
  | none => rw [hw] at q2; exact q2.elim
  | some w =>
    rw [hw] at q2
    obtain ⟨v, hv, q3⟩ := Outc.opt (o := PL.metF m (.p (.str s)) [w]) (ε := e2) q2
    obtain ⟨O2', rc⟩ := r2.look a2.ok hw
    exact hs R2 σ H2 e2 fo2 a2.ok w x y O2' v Q hx rc hv fun z H' p => q3 z H' ((p.step a2).step a1)
theorem rep_strs {H : Hp} {B : Addr → Prop} : ∀ l : List Txt, RepPs k H B (l.map PV.str) ((l.map strOf).map V.str)
  | [] => rfl
  | s :: l => ⟨_, _, rfl, rfl, rep_strs l⟩
theorem mes_split {c : Nat} (hc : c < 256) : ∀ (R : Addr → Prop) (σ : L2.St) (H : Hp) (env : PL.Env) (fo : Nat → List Addr), EnvOk k R H env σ fo → ∀ (s : Txt) (x y : V) (O2 : List Addr) (v : MV) (Q : VK),
  x = .str (strOf s) → RepM k H (bn fo R) (.p (.str [c])) y O2 → PL.metF .split (.p (.str s)) [.p (.str [c])] = some v → (∀ z H', PostV k R σ H (Own fo) env v z H' → Q z H') → (fun (x : V) (xs : List V) (H : Hp) (Q : VK) => ∃ a b, x = .str a ∧ xs = [.str b] ∧ (b.length == 0) = false ∧ a.length + 2 ≤ sizeLine ∧ rNewStrs (Txt.split a b) H Q) x [y] H Q := by
  intro R σ H env fo e s x y O2 v Q hx r h q
  have hy : y = .str (strOf [c]) := r.1
  subst hx hy
  change (if s.length + 2 ≤ PL.LIM then some (MV.l ((PL.splitC c s).map fun w => .p (.str w))) else none) = some v at h
  split at h
  · rename_i hl
    cases h
    refine ⟨_, _, rfl, rfl, rfl, by rw [strOf_len]; exact hl, fun p hp => ?_⟩
    rw [split_c hc]
    have e2 : (PL.splitC c s).map (fun w => MV.p (.str w)) = ((PL.splitC c s).map PV.str).map MV.p := by rw [List.map_map]; rfl
    rw [e2] at q
    exact q _ _ (.lstP (.refl e) (rep_strs _) hp)
  · cases h
theorem mes_partition {c : Nat} : ∀ (R : Addr → Prop) (σ : L2.St) (H : Hp) (env : PL.Env) (fo : Nat → List Addr), EnvOk k R H env σ fo → ∀ (s : Txt) (x y : V) (O2 : List Addr) (v : MV) (Q : VK),
  x = .str (strOf s) → RepM k H (bn fo R) (.p (.str [c])) y O2 → PL.metF .partition (.p (.str s)) [.p (.str [c])] = some v → (∀ z H', PostV k R σ H (Own fo) env v z H' → Q z H') → (fun (x : V) (xs : List V) (H : Hp) (Q : VK) => ∃ a b, x = .str a ∧ xs = [.str b] ∧ (b.length == 0) = false ∧ a.length ≤ sizeLine ∧ ∀ p, H p = none → Q (.ref p) (upd H p (.tup [.str (Txt.partition a b).1, .str (Txt.partition a b).2.1, .str (Txt.partition a b).2.2]))) x [y] H Q := by
  intro R σ H env fo e s x y O2 v Q hx r h q
  have hy : y = .str (strOf [c]) := r.1
  subst hx hy
  change (if s.length ≤ PL.LIM then (match PL.partC c s with
      | some (a, b) => some (MV.p (.tup false [.str a, .str [c], .str b]))
      | none => some (MV.p (.tup false [.str s, .str [], .str []]))) else none) = some v at h
  split at h
  · rename_i hl
    refine ⟨_, _, rfl, rfl, rfl, by rw [strOf_len]; exact hl, fun p hp => ?_⟩
    cases g : PL.partC c s with
    | none =>
      rw [g] at h
      cases h
      rw [part_none g]
      exact q _ _ (.tup (.refl e) (rep_strs [s, [], []]) hp)
    | some ab =>
      obtain ⟨a, b⟩ := ab
      rw [g] at h
      cases h
      rw [part_some g]
      exact q _ _ (.tup (.refl e) (rep_strs [a, [c], b]) hp)
  · cases h
theorem mes_zfill {n : Int} : ∀ (R : Addr → Prop) (σ : L2.St) (H : Hp) (env : PL.Env) (fo : Nat → List Addr), EnvOk k R H env σ fo → ∀ (s : Txt) (x y : V) (O2 : List Addr) (v : MV) (Q : VK),
  x = .str (strOf s) → RepM k H (bn fo R) (.p (.int n)) y O2 → PL.metF .zfill (.p (.str s)) [.p (.int n)] = some v → (∀ z H', PostV k R σ H (Own fo) env v z H' → Q z H') → (fun (x : V) (xs : List V) (H : Hp) (Q : VK) => ∃ (a : Str) (i : Int), x = .str a ∧ xs = [.int i] ∧ PadOk i = true ∧ Q (.str (Txt.zfill a i)) H) x [y] H Q := by
  intro R σ H env fo e s x y O2 v Q hx r h q
  have hy : y = .int n := r.1
  subst hx hy
  change (if s.all PL.isDig && decide (0 ≤ n) && decide (n ≤ 1000) then some (MV.p (.str (PL.zfill s n.toNat))) else none) = some v at h
  split at h
  · rename_i hl
    cases h
    simp only [Bool.and_eq_true, decide_eq_true_eq] at hl
    obtain ⟨m, rfl⟩ := Int.eq_ofNat_of_zero_le hl.1.2
    refine ⟨_, _, rfl, rfl, ?_, ?_⟩
    · have h2 := hl.2
      unfold PadOk fitsSsize Builtin.Str.tooLong sizeLine
      simp
      omega
    · rw [zfill_txt hl.1.1]
      exact q _ _ (.pure (.refl e) rfl)
  · cases h
theorem mes_index {s : Txt} (hn : s.Nodup) : ∀ (R : Addr → Prop) (σ : L2.St) (H : Hp) (env : PL.Env) (fo : Nat → List Addr), EnvOk k R H env σ fo → ∀ (w : MV) (x y : V) (O2 : List Addr) (v : MV) (Q : VK),
  x = .str (strOf s) → RepM k H (bn fo R) w y O2 → PL.metF .index (.p (.str s)) [w] = some v → (∀ z H', PostV k R σ H (Own fo) env v z H' → Q z H') → (fun (x : V) (xs : List V) (H : Hp) (Q : VK) => ∃ a b i rest, x = .str a ∧ xs = [.str b] ∧ Builtin.Str.occurrences a b 0 a.length 1 = i :: rest ∧ Q (.int (i : Nat)) H) x [y] H Q := by
  intro R σ H env fo e w x y O2 v Q hx r h q
  subst hx
  unfold PL.metF at h
  split at h <;> try contradiction
  · rename_i h1 h2
    cases h1
    cases h2
    have hy : y = _ := r.1
    subst hy
    split at h
    · rename_i n hi
      cases h
      obtain ⟨rest, ho⟩ := idx_occ hn hi
      exact ⟨_, _, _, rest, rfl, rfl, ho, q _ _ (.pure (.refl e) rfl)⟩
    · cases h
theorem strs_rep {H : Hp} {B : Addr → Prop} : ∀ {l : List PV} {z : List Txt} {vs : List V}, PL.strsOf l = some z → RepPs k H B l vs → vs = (z.map strOf).map V.str
  | [], z, vs, h, r => by cases h; exact r
  | v :: l, z, vs, h, r => by
    cases v with
    | str s =>
      change (match PL.strsOf l with | some l => some (s :: l) | none => none) = some z at h
      cases g : PL.strsOf l with
      | none => rw [g] at h; cases h
      | some z' =>
        rw [g] at h
        cases h
        obtain ⟨v, vs', e, r1, r2⟩ := r
        rw [e, strs_rep g r2, show v = .str (strOf s) from r1]
        rfl
    | _ => cases h
theorem join_len (a : Txt) : ∀ ys : List Txt, (ys.map (·.length)).sum + (ys.length - 1) * a.length = (PL.joinT a ys).length
  | [] => by simp [PL.joinT]
  | [p] => by simp [PL.joinT]
  | p :: q :: r => by
    have h := join_len a (q :: r)
    show _ = (p ++ a ++ PL.joinT a (q :: r)).length
    rw [List.length_append, List.length_append, ← h]
    simp only [List.map_cons, List.sum_cons, List.length_cons, Nat.add_sub_cancel, Nat.succ_mul]
    omega
theorem mes_join {s : Txt} : ∀ (R : Addr → Prop) (σ : L2.St) (H : Hp) (env : PL.Env) (fo : Nat → List Addr), EnvOk k R H env σ fo → ∀ (w : MV) (x y : V) (O2 : List Addr) (v : MV) (Q : VK),
  x = .str (strOf s) → RepM k H (bn fo R) w y O2 → PL.metF .join (.p (.str s)) [w] = some v → (∀ z H', PostV k R σ H (Own fo) env v z H' → Q z H') → (fun (x : V) (xs : List V) (H : Hp) (Q : VK) => ∃ a p, ∃ ys : List Str, x = .str a ∧ xs = [.ref p] ∧ (SqL k.K H p (ys.map V.str) ∨ SqT k.K H p (ys.map V.str)) ∧ (ys.map (·.length)).sum + ys.length * a.length ≤ 16777216 ∧ Q (.str (Txt.join a ys)) H) x [y] H Q := by
  intro R σ H env fo e w x y O2 v Q hx r h q
  subst hx
  change (match PL.seqV w with
    | some l => (match PL.strsOf l with
      | some z => if (z.map (·.length)).sum + z.length * s.length ≤ PL.LIM then some (MV.p (.str (PL.joinT s z))) else none
      | none => none)
    | none => none) = some v at h
  cases hl : PL.seqV w with
  | none => rw [hl] at h; cases h
  | some l =>
    rw [hl] at h
    cases hz : PL.strsOf l with
    | none => simp only [hz] at h; cases h
    | some z =>
      simp only [hz] at h
      split at h
      · rename_i hle
        cases h
        obtain ⟨a, vs, ex, sq, t⟩ := seqV_rep hl r
        subst ex
        have hv := strs_rep hz t
        subst hv
        refine ⟨_, a, z.map strOf, rfl, rfl, sq, ?_, ?_⟩
        · rw [List.map_map, List.length_map, strOf_len, show ((fun x : Str => x.length) ∘ strOf) = fun t : Txt => t.length from funext strOf_len]
          exact hle
        · rw [join_txt]
          exact q _ _ (.pure (.refl e) rfl)
      · cases h
end
end LB

end
section
set_option Elab.async false
set_option linter.all false
set_option maxRecDepth 100000
set_option maxHeartbeats 1000000
/-! Layer B, M2: a call of a text's method, whole. -/
namespace LB
open PySem PySem.Spec PyProof.Rows L2
open PL (PV MV Txt IE IEs IT II IS ISs)
section
variable {X : Cx} {k : Kx} {W : WX} {C : PL.Ctx} {o y : Expr} {ia ib : IE}
/-- the receiver is no call without arguments -/
def recvC : Expr → Bool
  | .Call _ [] [] _ => false
  | _ => true
theorem recv_base {nm : Str} {env : Env} {w : Sem Value} (h : recvC o = true) : attributeBase o nm env w = w := by
  cases o with
  | Call f as kws p =>
    cases as with
    | nil => cases kws with
      | nil => cases h
      | cons _ _ => cases f <;> rfl
    | cons _ _ => cases f <;> rfl
  | _ => rfl
def metC (m : PL.Mth) (ia ib : IE) (nm : Str) : Bool := match m with
  | .split => decide (nm = ("split" : Str)) && (match ib with
    | .con (.str [c]) => decide (c < 256)
    | _ => false)
  | .partition => decide (nm = ("partition" : Str)) && (match ib with
    | .con (.str [_]) => true
    | _ => false)
  | .zfill => decide (nm = ("zfill" : Str)) && (match ib with
    | .con (.int _) => true
    | _ => false)
  | .index => decide (nm = ("index" : Str)) && (match isTx ia with
    | some s => decide s.Nodup
    | none => false)
  | .join => decide (nm = ("join" : Str)) && (isTx ia).isSome
  | _ => false
theorem met_str {m : PL.Mth} {c : PV} (h : m = .split ∨ m = .partition ∨ m = .zfill) : MeT m (.p c) := by
  intro u v e
  rcases h with rfl | rfl | rfl <;> unfold PL.metF at e <;> split at e <;> first | contradiction | exact ⟨_, rfl⟩
theorem met_ok (hK : X.K = k.K) {m : PL.Mth} {nm : Str} {ap cp : Pos} (h : metC m ia ib nm = true) (hr : recvC o = true) (hl : (ap.endLine == cp.line) = true) (sy : isStar y = false) (ho : PE X o (tO k W C ia)) (hy : PE X y (tO k W C ib)) :
    PE X (.Call (.Attribute o nm ap) [y] [] cp) (tE k W C (.met m ia (.cons ib .nil))) := by
  have hs : starEach [y] X.env = [(false, eval y X.env)] := star_cons (es := []) sy X.env
  cases m with
  | split =>
    unfold metC at h
    rw [Bool.and_eq_true, decide_eq_true_eq] at h
    obtain ⟨e, h⟩ := h
    subst e
    split at h
    · refine imE (pe_m1 PySem.F.slot_str_split PySem.F.type_str_split mt_split ho hy hs (recv_base hr) hl) fun _ _ _ q => rd_met1 ?_ (met_str (Or.inl rfl)) q
      exact fun R σ H env fo ok s x y O2 v Q => mes_split (of_decide_eq_true h) R σ H env fo ok s x y O2 v Q
    · cases h
  | partition =>
    unfold metC at h
    rw [Bool.and_eq_true, decide_eq_true_eq] at h
    obtain ⟨e, h⟩ := h
    subst e
    split at h
    · refine imE (pe_m1 PySem.F.slot_str_partition PySem.F.type_str_partition mt_partition ho hy hs (recv_base hr) hl) fun _ _ _ q => rd_met1 ?_ (met_str (Or.inr (Or.inl rfl))) q
      exact fun R σ H env fo ok s x y O2 v Q => mes_partition R σ H env fo ok s x y O2 v Q
    · cases h
  | zfill =>
    unfold metC at h
    rw [Bool.and_eq_true, decide_eq_true_eq] at h
    obtain ⟨e, h⟩ := h
    subst e
    split at h
    · refine imE (pe_m1 PySem.F.slot_str_zfill PySem.F.type_str_zfill mt_zfill ho hy hs (recv_base hr) hl) fun _ _ _ q => rd_met1 ?_ (met_str (Or.inr (Or.inr rfl))) q
      exact fun R σ H env fo ok s x y O2 v Q => mes_zfill R σ H env fo ok s x y O2 v Q
    · cases h
  | index =>
    unfold metC at h
    rw [Bool.and_eq_true, decide_eq_true_eq] at h
    obtain ⟨e, h⟩ := h
    subst e
    split at h
    · rename_i s hi
      exact imE (pe_m1 PySem.F.slot_str_index PySem.F.type_str_index mt_sindex ho hy hs (recv_base hr) hl) fun _ _ _ q => rd_met2 hi (fun R σ H env fo ok w x y O2 v Q => mes_index (of_decide_eq_true h) R σ H env fo ok w x y O2 v Q) q
    · cases h
  | join =>
    unfold metC at h
    rw [Bool.and_eq_true, decide_eq_true_eq] at h
    obtain ⟨e, h⟩ := h
    subst e
    cases hi : isTx ia with
    | none => rw [hi] at h; cases h
    | some s =>
      exact imE (pe_m1 PySem.F.slot_str_join PySem.F.type_str_join mt_join ho hy hs (recv_base hr) hl) fun _ _ _ q => by
        simp only [hK]
        exact rd_met2 hi (fun R σ H env fo ok w x y O2 v Q => mes_join R σ H env fo ok w x y O2 v Q) q
  | get2 => cases h
  | count => cases h
end
end LB

end
section
set_option Elab.async false
set_option linter.all false
set_option maxRecDepth 100000
set_option maxHeartbeats 1000000
/-! Layer B, R0: text * number; repr(x) == repr(y) of names. -/
namespace LB
open PySem PySem.Spec PyProof.Rows L2
open PL (PV MV Txt IE IEs IT II IS ISs)
/-! ### text * number -/
def rRepS : R2 := fun x y H Q => ∃ a n, x = .str a ∧ y = .int n ∧ a.length * n.toNat ≤ sizeLine ∧ -(2 ^ 63) ≤ n ∧ n < 2 ^ 63 ∧ Q (.str (Txt.mul a n)) H
theorem mulOk_of {a : Str} {n : Int} (h : a.length * n.toNat ≤ sizeLine) (h1 : -(2 ^ 63) ≤ n) (h2 : n < 2 ^ 63) : MulOk a n := by
  refine ⟨?_, fun h3 _ => ?_, fun _ _ => ?_⟩
  · rw [decide_eq_false (by omega), decide_eq_false (by omega)]; rfl
  · rw [sizeLine_eq] at h
    have hn : 0 < n := by omega
    have e : (n.toNat : Int) = n := Int.toNat_of_nonneg (by omega)
    intro z
    have h4 : (a.length : Int) * n ≤ 16777216 := by rw [← e, ← Int.natCast_mul]; omega
    have h5 : (2 ^ 63 - 1 : Int) < ((2 ^ 63 - 1) / n + 1) * n := Int.lt_ediv_add_one_mul_self _ hn
    have h6 : ((2 ^ 63 - 1 : Int) / n + 1) * n ≤ (a.length : Int) * n := Int.mul_le_mul_of_nonneg_right (by omega) (by omega)
    omega
  · unfold Builtin.Str.tooLong
    simpa using h
section
variable {X : Cx} {k : Kx}
theorem op_repS : OpR X (binaryOp .Mult) rRepS := by
  intro pins s σ H x y v u Q I rx ry h
  obtain ⟨a, n, rfl, rfl, h1, h2, h3, q⟩ := h
  obtain ⟨t, rfl⟩ := rx
  obtain ⟨t', rfl⟩ := ry
  exact SB.mul (mulOk_of h1 h2 h3) fun t' kk => ⟨.str _, H, I.tok _, ⟨_, rfl⟩, q⟩
theorem foldl_rep : ∀ (n : Nat) (a acc : Array Nat), ((List.replicate n a).foldl (· ++ ·) acc).toList = acc.toList ++ (List.replicate n a.toList).flatten
  | 0, a, acc => by simp
  | n + 1, a, acc => by
    rw [List.replicate_succ, List.foldl_cons, foldl_rep n a, List.replicate_succ, List.flatten_cons, Array.toList_append, List.append_assoc]
theorem mul_strOf (s : Txt) (n : Int) : Txt.mul (strOf s) n = strOf (List.replicate n.toNat s).flatten := by
  unfold Txt.mul
  by_cases h : n < 1
  · rw [if_pos h, show n.toNat = 0 by omega]; rfl
  · rw [if_neg h]
    by_cases h2 : (n == 1 || (strOf s).length == 0) = true
    · rw [if_pos h2]
      rw [Bool.or_eq_true, beq_iff_eq, beq_iff_eq, strOf_len] at h2
      rcases h2 with h2 | h2
      · subst h2
        show strOf s = strOf (List.replicate 1 s).flatten
        simp
      · have : s = [] := List.eq_nil_of_length_eq_zero h2
        subst this
        congr 1
        simp
    · rw [if_neg h2]
      unfold strOf
      congr 1
      apply Array.toList_inj.mp
      rw [foldl_rep]
      simp
theorem ops_smul : OpS k .smul rRepS := by
  intro R σ H env fo e u v w x y O1 O2 Q r1 r2 hb q
  unfold PL.binF at hb
  split at hb <;> try contradiction
  split at hb
  · rename_i hc
    cases hb
    have h1 : x = _ := r1.1
    have h2 : y = _ := r2.1
    refine ⟨_, _, h1, h2, by rw [strOf_len, ← lim_eq]; exact hc.1, hc.2.1, hc.2.2, ?_⟩
    rw [mul_strOf]
    exact q _ _ (e.plain rfl)
  · cases hb
end
/-! ### repr -/
mutual
theorem cst_ok : ∀ {p : PV}, PL.okData p = true → PL.shw p = true → (toD p).shown.length ≤ PL.cst p
  | .non, _, _ => by decide +kernel
  | .bl true, _, _ => by decide +kernel
  | .bl false, _, _ => by decide +kernel
  | .int i, _, h => int_text_len_1921 (of_decide_eq_true h)
  | .str s, o, _ => by
    have o : (s.all fun c => decide (c < 1114112)) = true := o
    have := StrLaws.reprText_len (strOf s) fun c hc => by
      have hc : c ∈ s := by simpa [strOf] using hc
      have := of_decide_eq_true (List.all_eq_true.mp o c hc)
      omega
    rw [strOf_len] at this
    exact this
  | .tup _ l, o, h => by
    have := csts_ok (show PL.okDataL l = true from o) (show PL.shwL l = true from h)
    have h2 := tupleText_len_le (PyData.shownAll (toDs l))
    show (tupleText (PyData.shownAll (toDs l))).length ≤ PL.cstL l + 3
    omega
  | .fls l, o, h => by
    have := csts_ok (show PL.okDataL l = true from o) (show PL.shwL l = true from h)
    have h2 := listText_len_le (PyData.shownAll (toDs l))
    show (listText (PyData.shownAll (toDs l))).length ≤ PL.cstL l + 3
    omega
  | .fdc _ _ _, o, _ => by cases o
  | .exc _ _ _, o, _ => by cases o
  | .sls _, o, _ => by cases o
theorem csts_ok : ∀ {p : List PV}, PL.okDataL p = true → PL.shwL p = true → ((PyData.shownAll (toDs p)).map (·.length)).sum + 2 * (PyData.shownAll (toDs p)).length ≤ PL.cstL p
  | [], _, _ => Nat.le_refl _
  | p :: r, o, h => by
    have o : (PL.okData p && PL.okDataL r) = true := o
    have h : (PL.shw p && PL.shwL r) = true := h
    rw [Bool.and_eq_true] at o h
    have h1 := cst_ok o.1 h.1
    have h2 := csts_ok o.2 h.2
    show (((toD p).shown :: PyData.shownAll (toDs r)).map (·.length)).sum + 2 * ((toD p).shown :: PyData.shownAll (toDs r)).length ≤ PL.cst p + 2 + PL.cstL r
    rw [List.map_cons, List.sum_cons, List.length_cons]
    omega
end
mutual
theorem shw_ok : ∀ {p : PV}, PL.shw p = true → (toD p).showable = true ∧ (toD p).hasDict = false
  | .non, _ => ⟨rfl, rfl⟩
  | .bl _, _ => ⟨rfl, rfl⟩
  | .int i, h => ⟨h, rfl⟩
  | .str _, _ => ⟨rfl, rfl⟩
  | .tup _ l, h => shws_ok (show PL.shwL l = true from h)
  | .fls l, h => shws_ok (show PL.shwL l = true from h)
  | .fdc _ _ _, _ => ⟨rfl, rfl⟩
  | .exc _ _ _, _ => ⟨rfl, rfl⟩
  | .sls _, _ => ⟨rfl, rfl⟩
theorem shws_ok : ∀ {p : List PV}, PL.shwL p = true → PyData.showableAll (toDs p) = true ∧ PyData.hasDictAll (toDs p) = false
  | [], _ => ⟨rfl, rfl⟩
  | p :: r, h => by
    have h : (PL.shw p && PL.shwL r) = true := h
    rw [Bool.and_eq_true] at h
    have h1 := shw_ok h.1
    have h2 := shws_ok h.2
    exact ⟨by show ((toD p).showable && PyData.showableAll (toDs r)) = true; rw [h1.1, h2.1]; rfl, by show ((toD p).hasDict || PyData.hasDictAll (toDs r)) = false; rw [h1.2, h2.2]; rfl⟩
end
mutual
theorem same_toD : ∀ {p q : PV}, PL.same p q = true → toD p = toD q
  | .non, q, h => by cases q <;> first | rfl | cases h
  | .bl a, q, h => by
    cases q <;> first | (cases h; done) | skip
    rw [beq_iff_eq.mp (show (a == _) = true from h)]
  | .int a, q, h => by
    cases q <;> first | (cases h; done) | skip
    rw [of_decide_eq_true (show decide (a = _) = true from h)]
  | .str a, q, h => by
    cases q <;> first | (cases h; done) | skip
    rw [of_decide_eq_true (show decide (a = _) = true from h)]
  | .tup _ a, q, h => by
    cases q <;> first | (cases h; done) | skip
    show PyData.tuple _ = PyData.tuple _
    rw [sames_toDs (show PL.sameL a _ = true from h)]
  | .fls a, q, h => by
    cases q <;> first | (cases h; done) | skip
    show PyData.list _ = PyData.list _
    rw [sames_toDs (show PL.sameL a _ = true from h)]
  | .fdc _ _ _, q, h => by cases q <;> cases h
  | .exc _ _ _, q, h => by cases q <;> cases h
  | .sls _, q, h => by cases q <;> cases h
theorem sames_toDs : ∀ {p q : List PV}, PL.sameL p q = true → toDs p = toDs q
  | [], [], _ => rfl
  | [], _ :: _, h => by cases h
  | _ :: _, [], h => by cases h
  | p :: r, q :: s, h => by
    have h : (PL.same p q && PL.sameL r s) = true := h
    rw [Bool.and_eq_true] at h
    show toD p :: toDs r = toD q :: toDs s
    rw [same_toD h.1, sames_toDs h.2]
end
mutual
theorem same_ok : ∀ {p q : PV}, PL.same p q = true → PL.okData p = true → PL.okData q = true
  | .non, q, h, _ => by cases q <;> first | rfl | cases h
  | .bl a, q, h, _ => by cases q <;> first | rfl | cases h
  | .int a, q, h, _ => by cases q <;> first | rfl | cases h
  | .str a, q, h, o => by
    cases q <;> first | (cases h; done) | skip
    rw [← of_decide_eq_true (show decide (a = _) = true from h)]; exact o
  | .tup _ a, q, h, o => by
    cases q <;> first | (cases h; done) | skip
    exact sames_ok (show PL.sameL a _ = true from h) o
  | .fls a, q, h, o => by
    cases q <;> first | (cases h; done) | skip
    exact sames_ok (show PL.sameL a _ = true from h) o
  | .fdc _ _ _, q, h, _ => by cases q <;> cases h
  | .exc _ _ _, q, h, _ => by cases q <;> cases h
  | .sls _, q, h, _ => by cases q <;> cases h
theorem sames_ok : ∀ {p q : List PV}, PL.sameL p q = true → PL.okDataL p = true → PL.okDataL q = true
  | [], [], _, _ => rfl
  | [], _ :: _, h, _ => by cases h
  | _ :: _, [], h, _ => by cases h
  | p :: r, q :: s, h, o => by
    have h : (PL.same p q && PL.sameL r s) = true := h
    have o : (PL.okData p && PL.okDataL r) = true := o
    rw [Bool.and_eq_true] at h o
    show (PL.okData q && PL.okDataL s) = true
    rw [same_ok h.1 o.1, sames_ok h.2 o.2]; rfl
end
def rRepr (K : PySem.W.Frag) : List V → Hp → VK → Prop := fun xs H Q => ∃ x d, xs = [x] ∧ Dp K H x d ∧ d.showable = true ∧ d.hasDict = false ∧ d.depth ≤ 40 ∧ d.shown.length ≤ sizeLine ∧ Q (.str d.shown) H
section
variable {X : Cx} {k : Kx} {W : WX} {C : PL.Ctx} {x y : Str} {i j : Nat} {p1 p2 p3 p4 p5 p6 pos : Pos}
theorem cr_repr (hg : X.A.guards = some []) (hu : X.A.units + 64 < cLine) : CallR X (.builtin "repr") (rRepr X.K) := by
  intro pins s σ H xs us Q I r h
  obtain ⟨x, d, rfl, hd, hs, hn, hdp, hz, q⟩ := h
  obtain ⟨u, rfl, ru⟩ := vals1 r
  obtain ⟨as, rd⟩ := Dp.reads I d x u hd ru
  cases rd with
  | none => exact PySem.P.repr_of_none ⟨.str _, H, I.tok _, ⟨_, rfl⟩, q⟩
  | bool b => exact PySem.P.repr_of_bool ⟨.str _, H, I.tok _, ⟨_, rfl⟩, q⟩
  | int n t => exact PySem.P.repr_of_int (of_decide_eq_true hs) ⟨.str _, H, I.tok _, ⟨_, rfl⟩, q⟩
  | str z t => exact PySem.P.repr_of_str ⟨.str _, H, I.tok _, ⟨_, rfl⟩, q⟩ hz
  | list h1 h2 h3 h4 => exact repr_of_reads' (.list h1 h2 h3 h4) hs (PyData.noDict_hsm hn) hg (by omega) (fun _ _ e => e) (fun h' t tk hk => ⟨.str _, H, I.kept hk, ⟨_, rfl⟩, q⟩) hz
  | tuple h1 h2 h3 h4 => exact repr_of_reads' (.tuple h1 h2 h3 h4) hs (PyData.noDict_hsm hn) hg (by omega) (fun _ _ e => e) (fun h' t tk hk => ⟨.str _, H, I.kept hk, ⟨_, rfl⟩, q⟩) hz
  | dict h1 h2 h3 h4 h5 => cases hn
theorem rd_req {σ : L2.St} {H : Hp} {Q : VK} (h : tE k W C (.req (.var i) (.var j)) σ H Q) : tOp rEq (tCB (rRepr k.K) (tCons (tVar i) tNil)) (tCB (rRepr k.K) (tCons (tVar j) tNil)) σ H Q := by
  obtain ⟨env, fo, R, ok, o⟩ := h
  unfold PL.ev at o
  unfold PL.opd at o
  cases hi : env.at i with
  | none => rw [hi] at o; exact o.elim
  | some u =>
    cases hj : env.at j with
    | none => rw [hi] at o; simp only [PL.Res.bind, hj] at o; exact o.elim
    | some v =>
      simp only [hi, PL.Res.bind, hj, PL.Opd.get] at o
      split at o
      · rename_i a b e1 e2
        cases e1
        cases e2
        split at o
        · rename_i hc
          simp only [Bool.and_eq_true, decide_eq_true_eq] at hc
          obtain ⟨⟨⟨⟨h1, h2⟩, h3⟩, h4⟩, h5⟩ := hc
          unfold PL.isData at h1
          rw [Bool.and_eq_true] at h1
          obtain ⟨xa, ga, ra⟩ := ok.rep i _ hi
          obtain ⟨xb, gb, rb⟩ := ok.rep j _ hj
          have da := dp_of h1.1 ra.1
          have db := dp_of (same_ok h2 h1.1) rb.1
          rw [← same_toD h2] at db
          obtain ⟨s1, s2⟩ := shw_ok h3
          have hz : (toD a).shown.length ≤ sizeLine := by
            have := cst_ok h1.1 h3
            rw [← lim_eq]; omega
          have hd : (toD a).depth ≤ 40 := by rw [depth_of]; exact h4
          refine ⟨xa, ga, xa, _, rfl, da, s1, s2, hd, hz, xb, gb, xb, _, rfl, db, s1, s2, hd, hz, rfl, ?_⟩
          have q := o (.bl true) H (ok.plain rfl)
          rw [show decide (V.str (toD a).shown = V.str (toD a).shown) = true from decide_eq_true rfl]
          exact q
        · exact o.elim
      · exact o.elim
/-- repr(x) == repr(y) -/
theorem ev_req (hg : X.A.guards = some []) (hu : X.A.units + 64 < cLine) (hK : X.K = k.K) (gl : Gl X "repr") (hm : X.mg "repr" = none)
    (hN : X.N[i]? = some x) (hv : Vis X.env.scope x) (hd : (x == ("__debug__" : Str)) = false) (hcd : (x == ("__classdict__" : Str)) = false)
    (hN2 : X.N[j]? = some y) (hv2 : Vis X.env.scope y) (hd2 : (y == ("__debug__" : Str)) = false) (hcd2 : (y == ("__classdict__" : Str)) = false) :
    PE X (.Compare (.Call (.Name "repr" p1) [.Name x p2] [] p3) [.Eq] [.Call (.Name "repr" p4) [.Name y p5] [] p6] pos) (tE k W C (.req (.var i) (.var j))) :=
  imE (pe_cmpR op_eq (pe_callB (cr_repr hg hu) gl hm rfl (pa_cons (pe_var hN hv hd hcd) pa_nil rfl) (by decide) (by decide) rfl rfl)
    (pe_callB (cr_repr hg hu) gl hm rfl (pa_cons (pe_var hN2 hv2 hd2 hcd2) pa_nil rfl) (by decide) (by decide) rfl rfl) rfl) fun _ _ _ h => by rw [hK]; exact rd_req h
end
end LB

end
section
set_option Elab.async false
set_option linter.all false
set_option maxRecDepth 100000
set_option maxHeartbeats 1000000
/-! Layer B, p: does a tree of the text read as a tree of the language? The check, for expressions. -/
namespace LB
open PySem PySem.Spec PyProof.Rows L2
open PL (PV MV Txt IE IEs IT II IS ISs)
/-- what the module's names are -/
structure Mc where
  fns : List (Str × Nat)
  gls : List (Str × PV)
  gcd : Bool
  /-- exceptions of the program: name, what the IR calls it, its field -/
  exs : List (Str × Txt × Txt)
  /-- an exception is being handled -/
  hot : Bool := false
  /-- what is called while one is handled -/
  hfns : List (Str × Nat) := []
  /-- the classes of the program's errors -/
  cls : List (Str × Txt) := []
  /-- their fields -/
  flds : List Txt := []
/-- in an except suite -/
def Mc.toHot (M : Mc) : Mc := { M with hot := true, fns := M.hfns }
/-- the built-in functions that may walk -/
def bltHot : PL.Blt → Bool
  | .min2 => false
  | .max2 => false
  | .sum1 => false
  | .all1 => false
  | .any1 => false
  | _ => true
mutual
def pvB : PV → PV → Bool
  | .non, .non => true
  | .bl a, .bl b => a == b
  | .int a, .int b => decide (a = b)
  | .str a, .str b => decide (a = b)
  | .tup w l, .tup w' l' => (w == w') && pvBs l l'
  | _, _ => false
def pvBs : List PV → List PV → Bool
  | [], [] => true
  | x :: r, y :: s => pvB x y && pvBs r s
  | _, _ => false
end
mutual
theorem pvB_ok : ∀ {a b : PV}, pvB a b = true → a = b
  | .non, b, h => by cases b <;> first | rfl | cases h
  | .bl a, b, h => by
    cases b <;> first | (cases h; done) | skip
    have h : (a == _) = true := h
    rw [beq_iff_eq.mp h]
  | .int a, b, h => by
    cases b <;> first | (cases h; done) | skip
    rw [of_decide_eq_true (show decide (a = _) = true from h)]
  | .str a, b, h => by
    cases b <;> first | (cases h; done) | skip
    rw [of_decide_eq_true (show decide (a = _) = true from h)]
  | .tup w l, b, h => by
    cases b <;> first | (cases h; done) | skip
    rename_i w' l'
    have h : ((w == w') && pvBs l l') = true := h
    rw [Bool.and_eq_true] at h
    rw [beq_iff_eq.mp h.1, pvBs_ok h.2]
  | .fls _, b, h => by cases b <;> cases h
  | .fdc _ _ _, b, h => by cases b <;> cases h
  | .exc _ _ _, b, h => by cases b <;> cases h
  | .sls _, b, h => by cases b <;> cases h
theorem pvBs_ok : ∀ {a b : List PV}, pvBs a b = true → a = b
  | [], b, h => by cases b <;> first | rfl | cases h
  | x :: r, [], h => by cases h
  | x :: r, y :: s, h => by
    have h : (pvB x y && pvBs r s) = true := h
    rw [Bool.and_eq_true] at h
    rw [pvB_ok h.1, pvBs_ok h.2]
end
def glsC (M : Mc) (x : Str) (v : PV) : Bool := M.gls.any fun q => decide (q.1 = x) && pvB q.2 v
theorem glsC_ok {M : Mc} {x : Str} {v : PV} (h : glsC M x v = true) : (x, v) ∈ M.gls := by
  unfold glsC at h
  obtain ⟨q, hq, hp⟩ := List.any_eq_true.mp h
  rw [Bool.and_eq_true, decide_eq_true_eq] at hp
  have := pvB_ok hp.2
  obtain ⟨a, b⟩ := q
  simp only at hp this
  rw [← hp.1, ← this]; exact hq
def visC (sc : Scope) (x : Str) : Bool := match sc.names.lookup x with
  | some .local => true
  | some .cell => true
  | some .free => true
  | _ => false
theorem visC_ok {sc : Scope} {x : Str} (h : visC sc x = true) : Vis sc x := by
  unfold visC at h
  split at h <;> first | exact .inl (by assumption) | exact .inr (.inl (by assumption)) | exact .inr (.inr (by assumption)) | cases h
def glC (sc : Scope) (x : Str) : Bool := match sc.names.lookup x with
  | some .globalImplicit => true
  | _ => false
theorem glC_ok {X : Cx} {x : Str} (h : glC X.env.scope x = true) : Gl X x := by
  unfold glC at h
  split at h
  · assumption
  · cases h
def plainN (x : Str) : Bool := !(x == ("__debug__" : Str)) && !(x == ("__classdict__" : Str))
def nmC (N : List Str) (sc : Scope) (x : Str) (i : Nat) : Bool := decide (N[i]? = some x) && visC sc x && plainN x
/-- a slot that may be stored to -/
def stC (N : List Str) (fnA : Bool) (sc : Scope) (x : Str) (i : Nat) : Bool := decide (N[i]? = some x) && (match sc.names.lookup x with
  | some .local => true
  | some .cell => fnA
  | _ => false)
def conC : Const → PV → Bool
  | .none, .non => true
  | .bool a, .bl b => a == b
  | .int a, .int b => decide (a = b)
  | .str a, .str b => decide (a = strOf b)
  | _, _ => false
def opC : PL.BOp → Operator → Bool
  | .add, .Add => true
  | .sub, .Sub => true
  | .mul, .Mult => true
  | .fdiv, .FloorDiv => true
  | .mod, .Mod => true
  | .pow, .Pow => true
  | .shl, .LShift => true
  | .shr, .RShift => true
  | .smul, .Mult => true
  | _, _ => false
def cmC : PL.COp → CmpOp → Bool
  | .eq, .Eq => true
  | .ne, .NotEq => true
  | .lt, .Lt => true
  | .le, .LtE => true
  | .gt, .Gt => true
  | .ge, .GtE => true
  | .is, .Is => true
  | .isNot, .IsNot => true
  | .isIn, .In => true
  | .notIn, .NotIn => true
  | _, _ => false
def bltNm : PL.Blt → Option String
  | .len => some "len"
  | .abs => some "abs"
  | .min2 => some "min"
  | .max2 => some "max"
  | .sum1 => some "sum"
  | .all1 => some "all"
  | .any1 => some "any"
  | _ => none
def tyNm : PL.Blt → Option String
  | .int1 => some "int"
  | .str1 => some "str"
  | .tuple1 => some "tuple"
  | .list1 => some "list"
  | _ => none
def clsExC : List Expr → List PL.Cls → Bool
  | [], [] => true
  | .Name x _ :: es, c :: cs => (match clsNm c with
    | some n => decide (x = Str.ofString n)
    | none => false) && clsExC es cs
  | _, _ => false
/-- names of the errors' classes -/
def ownExC (M : Mc) (sc : Scope) : List Expr → List PL.Cls → Bool
  | [], [] => true
  | .Name x _ :: es, .own d :: cs => glC sc x && plainN x && decide ((x, d) ∈ M.cls) && ownExC M sc es cs
  | _, _ => false
def mutNm : PL.Mut → Option String
  | .append => some "append"
  | .extend => some "extend"
  | .pop => some "pop"
  | .reverse => some "reverse"
  | _ => none
def mutNmC (m : PL.Mut) (nm : Str) : Bool := match mutNm m with
  | some s => decide (nm = Str.ofString s)
  | none => false
def mutAr : PL.Mut → Nat → Bool
  | .append, n => decide (0 < n)
  | .extend, n => decide (0 < n)
  | _, n => decide (n = 0)
/-- what is tested by its value's truth -/
def truC : Expr → Bool
  | .Name _ _ => true
  | .Call _ _ _ _ => true
  | .Subscript _ _ _ => true
  | .Attribute _ _ _ => true
  | _ => false
theorem truC_ok {e : Expr} {env : PySem.Env} (h : truC e = true) : ∀ whole, isTrue e env whole = (do let v ← whole; standAt e.pos; holding [v] (truthy v)) := by
  cases e <;> first | (intro _; rfl) | cases h
def notSet : Expr → Bool
  | .Set _ _ _ => false
  | _ => true
theorem notSet_ok {e : Expr} {env : PySem.Env} (h : notSet e = true) : ∀ x, foldedSetIterable e env x = pure x := by
  cases e <;> first | (intro _; rfl) | cases h
def nmsC (N : List Str) (fnA : Bool) (sc : Scope) : List Expr → List Nat → Bool
  | [], [] => true
  | .Name x _ :: es, i :: l => stC N fnA sc x i && nmsC N fnA sc es l
  | _, _ => false
def tgC (N : List Str) (fnA : Bool) (sc : Scope) : Expr → PL.Tgt → Bool
  | .Name x _, .nm i => stC N fnA sc x i
  | .Tuple es _ _, .tp l => nmsC N fnA sc es l
  | _, _ => false
def noSetR (o : CmpOp) (e : Expr) : Bool := !behindInMarks o e
def chkP (N : List Str) (sc : Scope) : Nat → Expr → IE → Bool
  | 0, _, _ => false
  | n + 1, e, ie => match ie with
    | .con (.int v) => (match e with
      | .Constant (.int w) _ _ => decide (w = v)
      | _ => false)
    | .var i => (match e with
      | .Name x _ => nmC N sc x i
      | _ => false)
    | .bin .add a b => (match e with
      | .BinOp x .Add y _ => chkP N sc n x a && chkP N sc n y b
      | _ => false)
    | .bin .sub a b => (match e with
      | .BinOp x .Sub y _ => chkP N sc n x a && chkP N sc n y b
      | _ => false)
    | .ix (.var i) (.con (.int v)) => (match e with
      | .Subscript (.Name x _) (.Constant (.int w) _ _) _ => nmC N sc x i && decide (w = v)
      | _ => false)
    | _ => false
mutual
def chkE (M : Mc) (N : List Str) : Nat → Scope → Expr → IE → Bool
  | 0, _, _, _ => false
  | n + 1, sc, e, ie => match ie with
    | .var i => (match e with
      | .Name x _ => nmC N sc x i
      | _ => false)
    | .con v => (match e with
      | .Constant c _ _ => conC c v
      | _ => false)
    | .glo _ v => (match e with
      | .Name x _ => glC sc x && plainN x && glsC M x v
      | _ => false)
    | .bin o a b => (match e with
      | .BinOp x op y _ => opC o op && chkE M N n sc x a && chkE M N n sc y b
      | _ => false)
    | .neg a => (match e with
      | .UnaryOp .USub x _ => chkE M N n sc x a
      | _ => false)
    | .cmp o a b => (match e with
      | .Compare x [op] [y] _ => cmC o op && noSetR op y && chkE M N n sc x a && chkE M N n sc y b
      | _ => false)
    | .chn o o' a b c => (match e with
      | .Compare x [op, op'] [y, z] _ => cmC o op && cmC o' op' && !lastMarks [op, op'] [y, z] && chkE M N n sc x a && chkE M N n sc y b && chkE M N n sc z c
      | _ => false)
    | .andv a b => (match e with
      | .BoolOp .And (x :: y :: r) p => chkE M N n sc x a && (match r with
        | [] => chkE M N n sc y b
        | z :: r => chkE M N n sc (.BoolOp .And (y :: z :: r) p) b)
      | _ => false)
    | .orv a b => (match e with
      | .BoolOp .Or (x :: y :: r) p => chkE M N n sc x a && (match r with
        | [] => chkE M N n sc y b
        | z :: r => chkE M N n sc (.BoolOp .Or (y :: z :: r) p) b)
      | _ => false)
    | .notv a => (match e with
      | .UnaryOp .Not x _ => chkE M N n sc x a
      | _ => false)
    | .ife t a b => (match e with
      | .IfExp x y z _ => chkT M N n sc x t && chkE M N n sc y a && chkE M N n sc z b
      | _ => false)
    | .call f ies => (match e with
      | .Call (.Name x _) (a :: es) [] _ => glC sc x && plainN x && decide ((x, f) ∈ M.fns) && noStars (a :: es) && chkO M N n sc (a :: es) ies
      | .Call (.Name x _) [] [] _ => (match ies with
        | .nil => !M.hot && glC sc x && plainN x && decide ((x, f) ∈ M.fns)
        | _ => false)
      | _ => false)
    | .blt b ies => (match e with
      | .Call (.Name x _) (a :: es) [] _ => (!M.hot || bltHot b) && glC sc x && noStars (a :: es) && chkO M N n sc (a :: es) ies && (match b with
        | .gcd => M.gcd && decide (x = ("gcd" : Str))
        | _ => (match bltNm b with
          | some s => decide (x = Str.ofString s)
          | none => (match tyNm b with
            | some s => decide (x = Str.ofString s)
            | none => false)))
      | _ => false)
    | .isa a cs => (match e with
      | .Call (.Name x _) [y, z] [] _ => glC sc x && decide (x = ("isinstance" : Str)) && noStars [y] && chkE M N n sc y a && (match z with
        | .Name c _ => (glC sc c && clsExC [z] cs) || ownExC M sc [z] cs
        | .Tuple es _ _ => (clsExC es cs && (es.all fun q => match q with
          | .Name c _ => glC sc c
          | _ => false) && decide (0 < cs.length) && decide (cs.length ≤ 100)) || (ownExC M sc es cs && decide (0 < cs.length) && decide (cs.length ≤ 100))
        | _ => false)
      | _ => false)
    | .mut m i ies => (match e with
      | .Call (.Attribute (.Name x _) nm ap) es [] cp => nmC N sc x i && mutNmC m nm && (ap.endLine == cp.line) && noStars es && decide (es.length < 20) && chkV M N n sc es ies && mutAr m es.length
      | _ => false)
    | .ix a i => (match e with
      | .Subscript x y _ => plainIx y && chkE M N n sc x a && chkE M N n sc y i
      | _ => false)
    | .ix2 v a b => (match e with
      | .Subscript (.Subscript (.Name x _) y _) z _ => nmC N sc x v && plainIx y && plainIx z && chkE M N n sc y a && chkP N sc n z b && pureE b
      | _ => false)
    | .slc a lo hi => (match e with
      | .Subscript x (.Slice l h none _) _ => chkE M N n sc x a && (match l with
        | none => PL.nonE lo
        | some l => chkE M N n sc l lo && !PL.nonE lo) && (match h with
        | none => PL.nonE hi
        | some h => chkE M N n sc h hi && !PL.nonE hi)
      | _ => false)
    | .tup ies => (match e with
      | .Tuple es _ _ => noStars es && decide (lenIE ies ≤ 1000) && chkV M N n sc es ies
      | _ => false)
    | .lst ies => (match e with
      | .List es _ => noStars es && decide (lenIE ies ≤ 1000) && chkV M N n sc es ies
      | _ => false)
    | .dct _ => (match e with
      | .Dict [] [] _ => true
      | _ => false)
    | .comp ow tgt ii t ie => (match e with
      | .ListComp elt [⟨tg, it, ifs, 0⟩] scope _ => !M.hot && (blkC N sc scope (ow.map fun i => (N.getD i Str.empty, i)) && notSet it && chkI M N n sc it ii && tgC N false (relS scope sc) tg tgt && (tgSlots tgt).all (fun i => decide (i ∈ ow)) &&
          (match ifs with
          | [] => (match t with
            | .tt => true
            | _ => false)
          | [c] => chkT M N n (relS scope sc) c t
          | _ => false) && chkE M N n (relS scope sc) elt ie)
      | _ => false)
    | .atr (.var i) f => (match e with
      | .Attribute (.Name x _) m _ => nmC N sc x i && decide (m = strOf f) && decide (f ∈ M.flds)
      | _ => false)
    | .met m a (.cons b .nil) => (match e with
      | .Call (.Attribute x nm ap) [y] [] cp => recvC x && metC m a b nm && (ap.endLine == cp.line) && !isStar y && chkE M N n sc x a && chkE M N n sc y b
      | _ => false)
    | .req (.var i) (.var j) => (match e with
      | .Compare (.Call (.Name f _) [.Name x _] [] _) [.Eq] [.Call (.Name g _) [.Name y _] [] _] _ => !M.hot && glC sc f && decide (f = ("repr" : Str)) && decide (g = ("repr" : Str)) && nmC N sc x i && nmC N sc y j
      | _ => false)
    | _ => false
def chkO (M : Mc) (N : List Str) : Nat → Scope → List Expr → IEs → Bool
  | 0, _, _, _ => false
  | n + 1, sc, es, ies => match ies with
    | .nil => es.isEmpty
    | .cons i r => (match es with
      | e :: es => !isStar e && chkE M N n sc e i && chkO M N n sc es r
      | _ => false)
def chkV (M : Mc) (N : List Str) : Nat → Scope → List Expr → IEs → Bool
  | 0, _, _, _ => false
  | n + 1, sc, es, ies => match ies with
    | .nil => es.isEmpty
    | .cons i r => (match es with
      | e :: es => !isStar e && chkE M N n sc e i && chkV M N n sc es r
      | _ => false)
def chkT (M : Mc) (N : List Str) : Nat → Scope → Expr → IT → Bool
  | 0, _, _, _ => false
  | n + 1, sc, e, t => match t with
    | .tn t => (match e with
      | .UnaryOp .Not x _ => chkT M N n sc x t
      | _ => false)
    | .ta t u => (match e with
      | .BoolOp .And (x :: y :: r) p => chkT M N n sc x t && (match r with
        | [] => chkT M N n sc y u
        | z :: r => chkT M N n sc (.BoolOp .And (y :: z :: r) p) u)
      | _ => false)
    | .to t u => (match e with
      | .BoolOp .Or (x :: y :: r) p => chkT M N n sc x t && (match r with
        | [] => chkT M N n sc y u
        | z :: r => chkT M N n sc (.BoolOp .Or (y :: z :: r) p) u)
      | _ => false)
    | .tv ie => (match e with
      | .Compare x ops ys _ => (match ie with
        | .cmp o a b => (match ops, ys with
          | [op], [y] => cmC o op && noSetR op y && chkE M N n sc x a && chkE M N n sc y b
          | _, _ => false)
        | .chn o o' a b c => (match ops, ys with
          | [op, op'], [y, z] => cmC o op && cmC o' op' && !lastMarks [op, op'] [y, z] && chkE M N n sc x a && chkE M N n sc y b && chkE M N n sc z c
          | _, _ => false)
        | _ => false)
      | _ => truC e && chkE M N n sc e ie)
    | _ => false
def chkI (M : Mc) (N : List Str) : Nat → Scope → Expr → II → Bool
  | 0, _, _, _ => false
  | n + 1, sc, e, ii => match ii with
    | .val ie => chkE M N n sc e ie
    | .mv i => (match e with
      | .Name x _ => nmC N sc x i
      | _ => false)
    | .rng1 a => (match e with
      | .Call (.Name x _) [y] [] _ => glC sc x && decide (x = ("range" : Str)) && noStars [y] && chkE M N n sc y a
      | _ => false)
    | .rng2 a b => (match e with
      | .Call (.Name x _) [y, z] [] _ => glC sc x && decide (x = ("range" : Str)) && noStars [y, z] && chkE M N n sc y a && chkE M N n sc z b
      | _ => false)
    | _ => false
end
end LB

end
section
set_option Elab.async false
set_option linter.all false
set_option maxRecDepth 100000
set_option maxHeartbeats 4000000
/-! Layer B, Y0: try .. except x as n. -/
namespace LB
open PySem PySem.Spec PyProof.Rows L2
open PL (PV MV Txt IE IEs IT II IS ISs)
/-- while the exception at a is handled -/
def Kx.hot (k : Kx) (a : Addr) (cls : Value) (d : Option Addr) : Kx := { k with ex := fun a' c d' => a' = a ∧ d' = d ∧ ∃ C, k.cl c = some C ∧ cls = .ref C }
section
variable {k : Kx} {H H' : Hp} {B B' : Addr → Prop} {ex' : Addr → Txt → Option Addr → Prop}
mutual
theorem RepP.sw (nx : ∀ a c d, ¬ k.ex a c d) : ∀ {p : PV} {x : V}, RepP k H B p x → RepP { k with ex := ex' } H B p x
  | .non, _, h => h
  | .bl _, _, h => h
  | .int _, _, h => h
  | .str _, _, h => h
  | .tup w l, _, h => by
    obtain ⟨a, vs, e, q, q2, r⟩ := h
    exact ⟨a, vs, e, q, q2, RepPs.sw nx r⟩
  | .fls l, _, h => by
    obtain ⟨a, vs, e, q, b, r⟩ := h
    exact ⟨a, vs, e, q, b, RepPs.sw nx r⟩
  | .sls l, _, h => h
  | .fdc t ks ws, _, h => by
    obtain ⟨a, vs, e, b, r, q⟩ := h
    exact ⟨a, vs, e, b, RepPs.sw nx r, q⟩
  | .exc c f w, _, h => by
    obtain ⟨a, d, e, q, r⟩ := h
    exact absurd q (nx _ _ _)
theorem RepPs.sw (nx : ∀ a c d, ¬ k.ex a c d) : ∀ {p : List PV} {x : List V}, RepPs k H B p x → RepPs { k with ex := ex' } H B p x
  | [], _, h => h
  | p :: r, _, h => by
    obtain ⟨v, vs', e, q, t⟩ := h
    exact ⟨v, vs', e, RepP.sw nx q, RepPs.sw nx t⟩
end
mutual
theorem RepP.cl : ∀ {p : PV} {x : V}, PL.clnP p = true → RepP k H B p x → RepP { k with ex := ex' } H B p x
  | .non, _, _, h => h
  | .bl _, _, _, h => h
  | .int _, _, _, h => h
  | .str _, _, _, h => h
  | .tup w l, _, c, h => by
    obtain ⟨a, vs, e, q, q2, r⟩ := h
    unfold PL.clnP at c
    exact ⟨a, vs, e, q, q2, RepPs.cl c r⟩
  | .fls l, _, c, h => by
    obtain ⟨a, vs, e, q, b, r⟩ := h
    unfold PL.clnP at c
    exact ⟨a, vs, e, q, b, RepPs.cl c r⟩
  | .sls l, _, _, h => h
  | .fdc t ks ws, _, c, h => by
    obtain ⟨a, vs, e, b, r, q⟩ := h
    unfold PL.clnP at c
    exact ⟨a, vs, e, b, RepPs.cl c r, q⟩
  | .exc c f w, _, z, h => by
    unfold PL.clnP at z
    cases z
theorem RepPs.cl : ∀ {p : List PV} {x : List V}, PL.clnPs p = true → RepPs k H B p x → RepPs { k with ex := ex' } H B p x
  | [], _, _, h => h
  | p :: r, _, c, h => by
    obtain ⟨v, vs', e, q, t⟩ := h
    unfold PL.clnPs at c
    rw [Bool.and_eq_true] at c
    exact ⟨v, vs', e, RepP.cl c.1 q, RepPs.cl c.2 t⟩
end
mutual
theorem RepM.sw (nx : ∀ a c d, ¬ k.ex a c d) : ∀ {m : MV} {x : V} {O : List Addr}, RepM k H B m x O → RepM { k with ex := ex' } H B m x O
  | .p v, _, _, h => ⟨h.1.sw nx, h.2⟩
  | .l xs, _, _, h => by
    obtain ⟨a, vs, O', e, q, r, eo⟩ := h
    exact ⟨a, vs, O', e, q, RepMs.sw nx r, eo⟩
  | .d t ks ms, _, _, h => by
    obtain ⟨a, vs, e, r, eo, q⟩ := h
    exact ⟨a, vs, e, RepPs.sw nx r, eo, q⟩
theorem RepMs.sw (nx : ∀ a c d, ¬ k.ex a c d) : ∀ {m : List MV} {x : List V} {O : List Addr}, RepMs k H B m x O → RepMs { k with ex := ex' } H B m x O
  | [], _, _, h => h
  | m :: r, _, _, h => by
    obtain ⟨v, vs', O1, O2, e, q, t, eo⟩ := h
    exact ⟨v, vs', O1, O2, e, RepM.sw nx q, RepMs.sw nx t, eo⟩
end
mutual
theorem RepM.cl : ∀ {m : MV} {x : V} {O : List Addr}, PL.clnM m = true → RepM k H B m x O → RepM { k with ex := ex' } H B m x O
  | .p v, _, _, c, h => by
    unfold PL.clnM at c
    exact ⟨h.1.cl c, h.2⟩
  | .l xs, _, _, c, h => by
    obtain ⟨a, vs, O', e, q, r, eo⟩ := h
    unfold PL.clnM at c
    exact ⟨a, vs, O', e, q, RepMs.cl c r, eo⟩
  | .d t ks ms, _, _, c, h => by
    obtain ⟨a, vs, e, r, eo, q⟩ := h
    unfold PL.clnM at c
    exact ⟨a, vs, e, RepPs.cl c r, eo, q⟩
theorem RepMs.cl : ∀ {m : List MV} {x : List V} {O : List Addr}, PL.clnMs m = true → RepMs k H B m x O → RepMs { k with ex := ex' } H B m x O
  | [], _, _, _, h => h
  | m :: r, _, _, c, h => by
    obtain ⟨v, vs', O1, O2, e, q, t, eo⟩ := h
    unfold PL.clnMs at c
    rw [Bool.and_eq_true] at c
    exact ⟨v, vs', O1, O2, e, RepM.cl c.1 q, RepMs.cl c.2 t, eo⟩
end
end
section
variable {k : Kx} {W : WX} {C : PL.Ctx} {R R' R1 : Addr → Prop} {σ σ' σ2 : L2.St} {H H' H1 : Hp} {own : Addr → Prop} {env env1 env2 : PL.Env} {fo fo1 : Nat → List Addr} {ex' : Addr → Txt → Option Addr → Prop} {lock : List Nat}
/-- less is told, another error is known -/
theorem EnvOk.less (e : EnvOk k R H env σ fo) (hg : ∀ q ∈ k.gl, PL.clnP q.2 = true) (hl : env2.length = σ2.length) (h : ∀ i m, env2.at i = some m → env.at i = some m ∧ σ2[i]? = σ[i]? ∧ (PL.clnM m = true ∨ ∀ a c d, ¬ k.ex a c d)) :
    ∃ fo2, EnvOk { k with ex := ex' } R H env2 σ2 fo2 ∧ ∀ i c, c ∈ fo2 i → c ∈ fo i := by
  let fo2 : Nat → List Addr := fun i => match env2.at i with
    | some _ => fo i
    | none => []
  have sub : ∀ i c, c ∈ fo2 i → c ∈ fo i := fun i c h => by
    have h : c ∈ (match env2.at i with
      | some _ => fo i
      | none => []) := h
    split at h
    · exact h
    · cases h
  refine ⟨fo2, ⟨hl, fun i m q => ?_, fun i q => ?_, fun i => ?_, fun i j c ha hb => e.dj i j c (sub i c ha) (sub j c hb), fun i c ha => e.rs i c (sub i c ha), e.al, fun q hq => (e.gl q hq).cl (hg q hq)⟩, sub⟩
  · obtain ⟨h1, h2, h3⟩ := h i m q
    obtain ⟨x, g, r⟩ := e.rep i m h1
    have ef : fo2 i = fo i := by
      show (match env2.at i with
        | some _ => fo i
        | none => []) = _
      rw [q]
    refine ⟨x, h2.trans g, ?_⟩
    rw [ef]
    have r' := r.ban (B' := bn fo2 R) fun a z => z.imp (fun ⟨j, hj⟩ => ⟨j, sub j a hj⟩) id
    rcases h3 with h3 | h3
    · exact r'.cl h3
    · exact r'.sw h3
  · show (match env2.at i with
      | some _ => fo i
      | none => []) = []
    rw [q]
  · show (match env2.at i with
      | some _ => fo i
      | none => []).Nodup
    split
    · exact e.nd i
    · exact List.nodup_nil
theorem At.lessX (a : At k R σ H own env fo R' H') (hg : ∀ q ∈ k.gl, PL.clnP q.2 = true) (hl : env2.length = σ2.length) (h : ∀ i m, env2.at i = some m → env.at i = some m ∧ σ2[i]? = σ[i]? ∧ (PL.clnM m = true ∨ ∀ a c d, ¬ k.ex a c d)) :
    ∃ fo2, At { k with ex := ex' } R σ2 H own env2 fo2 R' H' ∧ ∀ i c, c ∈ fo2 i → c ∈ fo i := by
  obtain ⟨fo2, e2, s⟩ := a.ok.less (ex' := ex') hg hl h
  exact ⟨fo2, ⟨e2, a.sub, ⟨a.tr.keep, fun c z => a.tr.new c (z.imp (fun ⟨i, z⟩ => ⟨i, s i c z⟩) id)⟩⟩, s⟩
theorem clnE_at {ε : PL.Env} {i : Nat} {m : MV} (h : PL.Env.at (PL.clnE ε) i = some m) : ε.at i = some m ∧ PL.clnM m = true := by
  unfold PL.clnE PL.Env.at at h
  rw [List.getElem?_map] at h
  unfold PL.Env.at
  cases q : ε[i]? with
  | none => rw [q] at h; cases h
  | some o =>
    rw [q] at h
    cases o with
    | none => cases h
    | some v =>
      by_cases c : PL.clnM v = true
      · have h : (if PL.clnM v = true then some v else none) = some m := h
        rw [if_pos c] at h
        cases h
        exact ⟨rfl, c⟩
      · have h : (if PL.clnM v = true then some v else none) = some m := h
        rw [if_neg c] at h
        cases h
theorem set_at {ε : PL.Env} {i j : Nat} {m : MV} (h : PL.Env.at (ε.set i none) j = some m) : ε.at j = some m ∧ j ≠ i := by
  by_cases e : j = i
  · subst e
    unfold PL.Env.at at h
    by_cases hl : j < ε.length
    · rw [List.getElem?_set_self hl] at h; cases h
    · rw [List.getElem?_eq_none (by simpa using hl)] at h; cases h
  · refine ⟨?_, e⟩
    unfold PL.Env.at at h ⊢
    rw [List.getElem?_set_ne (fun z => e z.symm)] at h
    exact h
theorem lk_setO {i : Nat} {o : Option V} (h : i ∉ lock) : Lk lock σ (σ.set i o) := ⟨List.length_set, fun j hj => List.getElem?_set_ne (fun z => h (by rw [z]; exact hj))⟩
/-- behind the suite -/
theorem At.gone {a : Addr} {cls : Value} {d : Option Addr} {i : Nat} {ε : PL.Env} (b : At (k.hot a cls d) R σ H own ε fo R' H') (hg : ∀ q ∈ k.gl, PL.clnP q.2 = true) :
    ∃ fo2, At k R (σ.set i none) H own (PL.clnE (ε.set i none)) fo2 R' H' ∧ ∀ j c, c ∈ fo2 j → c ∈ fo j := by
  refine b.lessX (k := k.hot a cls d) (ex' := k.ex) hg ?_ fun j m q => ?_
  · unfold PL.clnE
    rw [List.length_map, List.length_set, List.length_set, b.ok.len]
  · obtain ⟨q1, c⟩ := clnE_at q
    obtain ⟨q2, ne⟩ := set_at q1
    exact ⟨q2, List.getElem?_set_ne (fun z => ne z.symm), .inl c⟩
variable {X : Cx} {x n : Str} {u : Value} {i : Nat} {body suite : List Stmt} {b₀ : Stmt} {np pos pos' : Pos} {sb sh : ISs} {c : Txt}
theorem ss_try (hs : X.stack = X.env :: X.outer) (hf : X.env.frame = some X.env.locals) (hN : X.N.Nodup) (hi : X.N[i]? = some n) (hln : X.env.kindOf n = some .local) (hc : Names X x u) (hexm : ∀ c' A, k.cl c' = some A → PySem.W.exmOne X.K (.ref A) u = some (PL.isSub C.par 8 c' c)) (tk : L2N.Takes X W)
    (nx : ∀ a c d, ¬ k.ex a c d) (hg : ∀ q ∈ k.gl, PL.clnP q.2 = true)
    (hb : ∀ (W : WX) (pn : List (Addr × Obj)) (xe : Value → Shared → Prop), L2N.Takes (X.tr pn xe) W → PassesOwn (model X.prog X.w) X.A X.env xe → PSs (X.tr pn xe) body (tSs k W C sb))
    (hsu : ∀ (a : Addr) (oe : Obj) (cls : Value) (d : Option Addr) (pn : List (Addr × Obj)), L2N.Zn cls d oe → (∃ vs, oe.data = .fields vs) → PSs (X.suite a ((a, oe) :: pn)) (b₀ :: suite) (tSs (k.hot a cls d) WF C sh)) :
    PS X (.Try body [.ExceptHandler (some (.Name x np)) (some n) (b₀ :: suite) pos'] [] [] pos) (tS k W C (.try sb c (some i) sh)) := by
  refine imS (L2N.ps_try_as hs hf hN hi hln hc tk (tb := fun W => tSs k W C sb) (ts := fun a cls d => tSs (k.hot a cls d) WF C sh) hb hsu) fun D σ H ⟨env, fo, R, ok, o⟩ => ?_
  unfold PL.evS at o
  refine ⟨env, fo, R, ok, ?_⟩
  cases hr : PL.evSs C sb env with
  | bad => rw [hr] at o; exact o.elim
  | ok f e1 => rw [hr] at o; cases f <;> exact o
  | ex e e1 =>
    rw [hr] at o
    intro σ' cls d H' lk px
    obtain ⟨fo1, b, c', f, w, A, rfl, hA, rfl, r⟩ := px
    refine ⟨PL.isSub C.par 8 c' c, hexm _ _ hA, fun ht a na => ?_, fun hf => ?_⟩
    · simp only [ht, if_true] at o
      cases hp : PL.putS C.lock e1 i (.p (.exc c' f w)) with
      | none => rw [hp] at o; exact o.elim
      | some ε2 =>
        rw [hp] at o
        obtain ⟨hl, hlt, rfl⟩ := putS_some hp
        have o : OutS k W R σ H (Own fo) C.lock D ((PL.evSs C sh (e1.set i (some (.p (.exc c' f w))))).noex.bind fun f ε3 => PL.clnF f (ε3.set i none)) := o
        have bh : At (k.hot a (.ref A) d) R σ' H (Own fo) e1 fo1 R H' :=
          ⟨⟨b.ok.len, fun j m q => let ⟨x, g, r⟩ := b.ok.rep j m q; ⟨x, g, r.sw nx⟩, b.ok.nil, b.ok.nd, b.ok.dj, b.ok.rs, b.ok.al, fun q hq => (b.ok.gl q hq).sw nx⟩, b.sub, b.tr⟩
        have rv : RepM (k.hot a (.ref A) d) H' (bn fo1 R) (.p (.exc c' f w)) (.ref a) [] := by
          refine ⟨⟨a, d, rfl, ⟨rfl, rfl, A, hA, rfl⟩, ?_⟩, rfl⟩
          rcases r with r | ⟨dd, y, e1, e2, r⟩
          · exact .inl r
          · exact .inr ⟨dd, y, e1, e2, r.sw nx⟩
        obtain ⟨b2, _⟩ := bh.store (i := i) rv ⟨List.nodup_nil, fun _ z => nomatch z⟩ hlt
        refine ⟨_, _, R, b2.ok, ?_⟩
        have l2 : Lk C.lock σ (σ'.set i (some (.ref a))) := lk.trans (lk_setO hl)
        cases hh : PL.evSs C sh (e1.set i (some (.p (.exc c' f w)))) with
        | bad => rw [hh] at o; exact o.elim
        | ex _ _ => rw [hh] at o; exact o.elim
        | ok fl ε3 =>
          rw [hh] at o
          have go : ∀ {σ2 : L2.St} {H2 : Hp}, PostS (k.hot a (.ref A) d) R (σ'.set i (some (.ref a))) H' (Own (fset fo1 i [])) C.lock ε3 σ2 H2 → PostS k R σ H (Own fo) C.lock (PL.clnE (ε3.set i none)) (σ2.set i none) H2 := fun {σ2 H2} ⟨l3, fo3, b3⟩ => by
            obtain ⟨fo4, b4, _⟩ := (b2.go b3).gone (i := i) hg
            exact ⟨(l2.trans l3).trans (lk_setO hl), fo4, b4⟩
          cases fl with
          | nx => exact fun σ2 H2 p => o _ _ (go p)
          | bk => exact fun σ2 H2 p => o _ _ (go p)
          | ct => exact fun σ2 H2 p => o _ _ (go p)
          | rt v =>
            intro y H2 ⟨σ2, l3, p⟩
            have o : OutS k W R σ H (Own fo) C.lock D (if PL.clnM v then .ok (.rt v) (PL.clnE (ε3.set i none)) else .bad) := o
            by_cases hc : PL.clnM v = true
            · rw [if_pos hc] at o
              obtain ⟨fo3, R3, O, b3, rv3, t3⟩ := p
              obtain ⟨fo4, b4, s4⟩ := (b2.go b3).gone (i := i) hg
              refine o y H2 ⟨σ2.set i none, (l2.trans l3).trans (lk_setO hl), fo4, R3, O, b4, ?_, t3⟩
              exact (rv3.cl (ex' := k.ex) hc).ban fun q z => z.imp (fun ⟨j, z⟩ => ⟨j, s4 j q z⟩) id
            · rw [if_neg hc] at o; exact o.elim
    · simp only [hf, Bool.false_eq_true, if_false] at o
      exact o σ' _ d H' lk ⟨fo1, b, c', f, w, A, rfl, hA, rfl, r⟩
end
end LB

end
section
set_option Elab.async false
set_option linter.all false
set_option maxRecDepth 100000
set_option maxHeartbeats 4000000
/-! Layer B, q: the check is sound, for expressions. -/
namespace LB
open PySem PySem.Spec PyProof.Rows L2
open PL (PV MV Txt IE IEs IT II IS ISs)
/-- a name of an error's class -/
structure ClsN (K : PySem.W.Frag) (mg : Str → Option Value) (k : Kx) (par : List (Txt × Txt)) (y : Str) (D : Txt) : Prop where
  ex : ∃ v u, ClsW k K par D v u ∧ RelV v u ∧ (mg y = some u ∨ (mg y = none ∧ bootBuiltins y = some u ∧ y ≠ "__name__")) ∧ ∀ c A, k.cl c = some A → PySem.W.exmOne K (.ref A) u = some (PL.isSub par 8 c D)
/-- what stands of the errors' classes -/
structure Sta (M : Mc) (k : Kx) (par : List (Txt × Txt)) (mg : Str → Option Value) : Prop where
  exk : ∀ c A, k.cl c = some A → ExK k.K A
  fld : ∀ f, f ∈ M.flds → f ≠ [] ∧ ∀ c A, k.cl c = some A → PySem.W.findIn k.K (.ref A) (strOf f) = some none
  cls : ∀ y D, (y, D) ∈ M.cls → ClsN k.K mg k par y D
  glc : ∀ q ∈ k.gl, PL.clnP q.2 = true
/-- a context in which what is checked is read -/
structure XOk (M : Mc) (N : List Str) (sc : Scope) (k : Kx) (C : PL.Ctx) (X : Cx) : Prop where
  hN : X.N = N
  nd : N.Nodup
  hs : X.env.scope = sc
  hK : X.K = k.K
  calm : M.hot = false → X.calm = true
  un : X.A.units + 64 < cLine
  gd : M.hot = false → X.A.guards = some []
  fns : ∀ x f, (x, f) ∈ M.fns → Callee M.hot X k C.call x f
  gls : ∀ x v, (x, v) ∈ M.gls → ∃ y u, X.mg x = some u ∧ RelV y u ∧ (y, v) ∈ k.gl
  bts : ∀ x : String, x ∈ ["len", "abs", "min", "max", "sum", "all", "any", "int", "str", "tuple", "list", "bool", "isinstance", "range", "repr"] → X.mg (Str.ofString x) = none
  gcd : M.gcd = true → X.mg "gcd" = some (.builtin "math.gcd")
  sta : Sta M k C.par X.mg
  nex : M.hot = false → ∀ a c d, ¬ k.ex a c d
  exa : ExcAt k X
  rai : M.hot = false → ∀ x c f, (x, c, f) ∈ M.exs → RaiOk X k x c f
theorem takes_WF {X : Cx} : L2N.Takes X WF := fun u s' ⟨_, _, _, _, _, _, _, _, _, _, _, _, _, _, _, _, w⟩ => w.elim
section
variable {M : Mc} {N : List Str} {sc : Scope} {X : Cx} {k : Kx} {W : WX} {C : PL.Ctx} {n : Nat}
theorem nm_ok (x : XOk M N sc k C X) {nm : Str} {i : Nat} (h : nmC N sc nm i = true) : X.N[i]? = some nm ∧ Vis X.env.scope nm ∧ (nm == ("__debug__" : Str)) = false ∧ (nm == ("__classdict__" : Str)) = false := by
  unfold nmC plainN at h
  simp only [Bool.and_eq_true, Bool.not_eq_true', decide_eq_true_eq] at h
  obtain ⟨⟨h1, h2⟩, h3, h4⟩ := h
  exact ⟨by rw [x.hN]; exact h1, by rw [x.hs]; exact visC_ok h2, h3, h4⟩
theorem st_ok (x : XOk M N sc k C X) {fnA : Bool} (hf : fnA = true → ∀ z, X.fn z = true) {nm : Str} {i : Nat} (h : stC N fnA sc nm i = true) : StOk X i nm := by
  unfold stC at h
  simp only [Bool.and_eq_true, decide_eq_true_eq] at h
  obtain ⟨h1, h2⟩ := h
  refine ⟨by rw [x.hN]; exact h1, ?_, ?_⟩
  · rw [x.hs]
    split at h2
    · exact .inl (by assumption)
    · exact .inr (by assumption)
    · cases h2
  · rw [x.hs]
    split at h2
    · exact .inr (by assumption)
    · exact .inl (hf h2 _)
    · cases h2
theorem nms_ok (x : XOk M N sc k C X) {fnA : Bool} (hf : fnA = true → ∀ z, X.fn z = true) : ∀ {es : List Expr} {l : List Nat}, nmsC N fnA sc es l = true → NamesOk X es l
  | [], [], _ => .nil
  | [], _ :: _, h => by cases h
  | e :: es, [], h => by cases e <;> cases h
  | e :: es, i :: l, h => by
    cases e <;> first | (cases h; done) | skip
    rename_i nm p
    have h : (stC N fnA sc nm i && nmsC N fnA sc es l) = true := h
    rw [Bool.and_eq_true] at h
    exact .cons (st_ok x hf h.1) (nms_ok x hf h.2)
theorem tg_ok (x : XOk M N sc k C X) {fnA : Bool} (hf : fnA = true → ∀ z, X.fn z = true) {e : Expr} {tgt : PL.Tgt} (h : tgC N fnA sc e tgt = true) : TgOk X e tgt := by
  unfold tgC at h
  split at h
  · exact .nm (st_ok x hf h)
  · exact .tp (nms_ok x hf h)
  · cases h
theorem con_ok {c : Const} {v : PV} {kk : Nat} {pos : Pos} (h : conC c v = true) : PE X (.Constant c kk pos) (tE k W C (.con v)) := by
  unfold conC at h
  split at h
  · exact ev_con pe_non fun _ _ => rfl
  · have e := beq_iff_eq.mp h
    subst e
    exact ev_con pe_bl fun _ _ => rfl
  · have e := of_decide_eq_true h
    subst e
    exact ev_con pe_int fun _ _ => rfl
  · have e := of_decide_eq_true h
    subst e
    exact ev_con pe_str fun _ _ => rfl
  · cases h
theorem bin_ok (x : XOk M N sc k C X) {o : PL.BOp} {op : Operator} {a b : Expr} {ia ib : IE} {pos : Pos} (h : opC o op = true) (ha : PE X a (tO k W C ia)) (hb : PE X b (tO k W C ib)) : PE X (.BinOp a op b pos) (tE k W C (.bin o ia ib)) := by
  unfold opC at h
  split at h
  · exact ev_bin ops_add (x.hK ▸ op_addK) ha hb
  · exact ev_bin ops_sub op_sub ha hb
  · exact ev_bin ops_mul op_mulW ha hb
  · exact ev_bin ops_fdiv op_fdivW ha hb
  · exact ev_bin ops_mod op_mod ha hb
  · exact ev_bin ops_pow op_pow ha hb
  · exact ev_bin ops_shl op_shl ha hb
  · exact ev_bin ops_shr op_shr ha hb
  · exact ev_bin ops_smul op_repS ha hb
  · cases h
/-- a comparison's rule -/
theorem cm_ok (x : XOk M N sc k C X) {o : PL.COp} {op : CmpOp} (h : cmC o op = true) : ∃ r, CmS k o r ∧ OpR X (compareOp op) r := by
  have hu : X.A.units + 1 < cLine := by have := x.un; omega
  have hu0 : X.A.units < cLine := by have := x.un; omega
  unfold cmC at h
  split at h
  · exact ⟨_, cms_eq, x.hK ▸ op_eqD x.un⟩
  · exact ⟨_, cms_ne, x.hK ▸ op_neD x.un⟩
  · exact ⟨_, cms_lt, x.hK ▸ op_ltK hu0⟩
  · exact ⟨_, cms_le, op_le⟩
  · exact ⟨_, cms_gt, op_gt⟩
  · exact ⟨_, cms_ge, op_ge⟩
  · exact ⟨_, cms_is, op_isK⟩
  · exact ⟨_, cms_isNot, op_isNotK⟩
  · exact ⟨_, cms_isIn, x.hK ▸ op_inK hu⟩
  · exact ⟨_, cms_notIn, x.hK ▸ op_notInK hu⟩
  · cases h
end
end LB

end
section
set_option Elab.async false
set_option linter.all false
set_option maxRecDepth 100000
set_option maxHeartbeats 4000000
/-! Layer B, r: the check of expressions is sound. -/
namespace LB
open PySem PySem.Spec PyProof.Rows L2
open PL (PV MV Txt IE IEs IT II IS ISs)
structure Snd (M : Mc) (N : List Str) (k : Kx) (C : PL.Ctx) (n : Nat) : Prop where
  E : ∀ (X : Cx) (sc : Scope) (W : WX), XOk M N sc k C X → L2N.Takes X W → ∀ e ie, chkE M N n sc e ie = true → PE X e (tE k W C ie)
  O : ∀ (X : Cx) (sc : Scope) (W : WX), XOk M N sc k C X → L2N.Takes X W → ∀ e ie, chkE M N n sc e ie = true → PE X e (tO k W C ie)
  L : ∀ (X : Cx) (sc : Scope) (W : WX), XOk M N sc k C X → L2N.Takes X W → ∀ e ie, chkO M N n sc e ie = true → PA X e (tOs k W C ie)
  V : ∀ (X : Cx) (sc : Scope) (W : WX), XOk M N sc k C X → L2N.Takes X W → ∀ e ie, chkV M N n sc e ie = true → PA X e (tVs k W C ie)
  T : ∀ (X : Cx) (sc : Scope) (W : WX), XOk M N sc k C X → L2N.Takes X W → ∀ e t, chkT M N n sc e t = true → PT X e (tT k W C t) ∧ ∀ op vs p, e = .BoolOp op vs p → PW X e (tT k W C t)
  I : ∀ (X : Cx) (sc : Scope) (W : WX), XOk M N sc k C X → L2N.Takes X W → ∀ e ii, chkI M N n sc e ii = true → ∀ tg, PI X tg e (tIt k W C ii)
  P : ∀ (X : Cx) (sc : Scope), XOk M N sc k C X → ∀ e ie, chkP N sc n e ie = true → PE X e (tPI k C ie) ∧ pureE ie = true
section
variable {M : Mc} {N : List Str} {sc : Scope} {X : Cx} {k : Kx} {W : WX} {C : PL.Ctx} {n : Nat}
theorem XOk.fns_blk (hh : M.hot = false) (x : XOk M N sc k C X) {s : Shared} {H : Hp} {scope : Scope} {env : PySem.Env} {fp : List Addr} {z : Str} {f : Nat} (h : (z, f) ∈ M.fns) : Callee M.hot (X.blk s H scope env fp) k C.call z f := by
  obtain ⟨kk, fa, fd, ps, F, m1, m2, m3⟩ := (x.fns z f h).ex
  rcases F with ⟨F0, F, hr⟩ | ⟨q, F0, _⟩
  · exact ⟨kk, fa, fd, ps, .inl ⟨F0, F, hr⟩, m1, m2, m3⟩
  · rw [hh] at F0; cases F0
theorem XOk.blk (hh : M.hot = false) (x : XOk M N sc k C X) (s : Shared) (H : Hp) (scope : Scope) (C' : Addr) (cl : List (Str × Addr)) (fp : List Addr) : XOk M N (relS scope sc) k C (X.blk s H scope (compEnvC scope cl C' X.env) fp) := by
  refine ⟨x.hN, x.nd, ?_, x.hK, x.calm, x.un, x.gd, fun z f h => x.fns_blk hh h, x.gls, x.bts, x.gcd, x.sta, x.nex, fun a c d z => absurd z (x.nex hh a c d), fun _ z c f h => ⟨(x.rai hh z c f h).ex⟩⟩
  rw [← x.hs]; rfl
theorem sndP_succ (s : ∀ (X : Cx) (sc : Scope), XOk M N sc k C X → ∀ e ie, chkP N sc n e ie = true → PE X e (tPI k C ie) ∧ pureE ie = true) (X : Cx) (sc : Scope) (x : XOk M N sc k C X) (e : Expr) (ie : IE) (h : chkP N sc (n + 1) e ie = true) : PE X e (tPI k C ie) ∧ pureE ie = true := by
  unfold chkP at h
  split at h
  · split at h
    · rw [of_decide_eq_true h]
      exact ⟨pi_con, rfl⟩
    · cases h
  · split at h
    · obtain ⟨h1, h2, h3, h4⟩ := nm_ok x h
      exact ⟨pi_var h1 h2 h3 h4, rfl⟩
    · cases h
  · split at h
    · rw [Bool.and_eq_true] at h
      obtain ⟨a1, a2⟩ := s X sc x _ _ h.1
      obtain ⟨b1, b2⟩ := s X sc x _ _ h.2
      exact ⟨pi_bin pus_add (x.hK ▸ op_addK) a2 b2 a1 b1, by show (pureE _ && pureE _) = true; rw [a2, b2]; rfl⟩
    · cases h
  · split at h
    · rw [Bool.and_eq_true] at h
      obtain ⟨a1, a2⟩ := s X sc x _ _ h.1
      obtain ⟨b1, b2⟩ := s X sc x _ _ h.2
      exact ⟨pi_bin pus_sub op_sub a2 b2 a1 b1, by show (pureE _ && pureE _) = true; rw [a2, b2]; rfl⟩
    · cases h
  · split at h
    · rw [Bool.and_eq_true] at h
      obtain ⟨h1, h2, h3, h4⟩ := nm_ok x h.1
      rw [of_decide_eq_true h.2]
      exact ⟨pi_ix (by have := x.un; omega) x.hK h1 h2 h3 h4, rfl⟩
    · cases h
  · cases h
theorem sndL_succ (s : Snd M N k C n) (x : XOk M N sc k C X) (tk : L2N.Takes X W) (es : List Expr) (ies : IEs) (h : chkO M N (n + 1) sc es ies = true) : PA X es (tOs k W C ies) := by
  unfold chkO at h
  split at h
  · cases es with
    | nil => exact ea_onil
    | cons _ _ => cases h
  · split at h
    · simp only [Bool.and_eq_true, Bool.not_eq_true'] at h
      exact ea_ocons (s.O X sc W x tk _ _ h.1.2) (s.L X sc W x tk _ _ h.2) h.1.1
    · cases h
theorem sndV_succ (s : Snd M N k C n) (x : XOk M N sc k C X) (tk : L2N.Takes X W) (es : List Expr) (ies : IEs) (h : chkV M N (n + 1) sc es ies = true) : PA X es (tVs k W C ies) := by
  unfold chkV at h
  split at h
  · cases es with
    | nil => exact ea_vnil
    | cons _ _ => cases h
  · split at h
    · simp only [Bool.and_eq_true, Bool.not_eq_true'] at h
      exact ea_vcons (s.E X sc W x tk _ _ h.1.2) (s.V X sc W x tk _ _ h.2) h.1.1
    · cases h
theorem noSet_ok {o : CmpOp} {e : Expr} (h : noSetR o e = true) : behindInMarks o e = false := by
  unfold noSetR at h
  simpa using h
theorem sndT_succ (s : Snd M N k C n) (x : XOk M N sc k C X) (tk : L2N.Takes X W) (e : Expr) (t : IT) (h : chkT M N (n + 1) sc e t = true) : PT X e (tT k W C t) ∧ ∀ op vs p, e = .BoolOp op vs p → PW X e (tT k W C t) := by
  unfold chkT at h
  split at h
  · split at h
    · exact ⟨et_not (s.T X sc W x tk _ _ h).1, fun op vs p z => by cases z⟩
    · cases h
  · rename_i ta tb
    split at h
    · rename_i y z r p
      rw [Bool.and_eq_true] at h
      have ha := (s.T X sc W x tk _ _ h.1).1
      have hw : PW X (.BoolOp .And (y :: z :: r) p) (tT k W C (.ta ta tb)) := by
        have h2 := h.2
        cases r with
        | nil => exact et_and ha (pw_and1 (s.T X sc W x tk _ _ h2).1)
        | cons w r => exact et_and ha ((s.T X sc W x tk _ _ h2).2 _ _ _ rfl)
      exact ⟨hw.pt, fun _ _ _ _ => hw⟩
    · cases h
  · rename_i ta tb
    split at h
    · rename_i y z r p
      rw [Bool.and_eq_true] at h
      have ha := (s.T X sc W x tk _ _ h.1).1
      have hw : PW X (.BoolOp .Or (y :: z :: r) p) (tT k W C (.to ta tb)) := by
        have h2 := h.2
        cases r with
        | nil => exact et_or ha (pw_or1 (s.T X sc W x tk _ _ h2).1)
        | cons w r => exact et_or ha ((s.T X sc W x tk _ _ h2).2 _ _ _ rfl)
      exact ⟨hw.pt, fun _ _ _ _ => hw⟩
    · cases h
  · split at h
    · split at h
      · split at h
        · simp only [Bool.and_eq_true] at h
          obtain ⟨r, h1, h2⟩ := cm_ok x h.1.1.1
          have hb := noSet_ok h.1.1.2
          exact ⟨et_cmp h1 h2 (s.O X sc W x tk _ _ h.1.2) (s.O X sc W x tk _ _ h.2) hb, fun op vs p z => by cases z⟩
        · cases h
      · split at h
        · simp only [Bool.and_eq_true, Bool.not_eq_true'] at h
          obtain ⟨⟨⟨⟨⟨h1, h2⟩, h3⟩, h4⟩, h5⟩, h6⟩ := h
          obtain ⟨r, k1, k2⟩ := cm_ok x h1
          obtain ⟨r', k3, k4⟩ := cm_ok x h2
          exact ⟨et_chn k1 k3 k2 k4 (s.O X sc W x tk _ _ h4) (s.O X sc W x tk _ _ h5) (s.O X sc W x tk _ _ h6) h3, fun op vs p z => by cases z⟩
        · cases h
      · cases h
    · rename_i hne
      rw [Bool.and_eq_true] at h
      refine ⟨et_truth (s.O X sc W x tk _ _ h.2) x.hK (truC_ok h.1), fun op vs p z => ?_⟩
      subst z
      cases h.1
  · cases h
theorem one_star {a : Expr} (h : noStars [a] = true) : isStar a = false := by
  have : (!isStar a && true) = true := h
  simpa using this
theorem sndI_succ (s : Snd M N k C n) (x : XOk M N sc k C X) (tk : L2N.Takes X W) (e : Expr) (ii : II) (h : chkI M N (n + 1) sc e ii = true) (tg : Expr) : PI X tg e (tIt k W C ii) := by
  unfold chkI at h
  split at h
  · exact ei_val x.hK (s.E X sc W x tk _ _ h)
  · split at h
    · obtain ⟨h1, h2, h3, h4⟩ := nm_ok x h
      exact ei_mv x.hK h1 h2 h3 h4
    · cases h
  · split at h
    · simp only [Bool.and_eq_true, decide_eq_true_eq] at h
      obtain ⟨⟨⟨h1, h2⟩, h3⟩, h4⟩ := h
      subst h2
      exact ei_rng1 (glC_ok (by rw [x.hs]; exact h1)) (x.bts "range" (by decide)) (s.E X sc W x tk _ _ h4) h3
    · cases h
  · split at h
    · simp only [Bool.and_eq_true, decide_eq_true_eq] at h
      obtain ⟨⟨⟨⟨h1, h2⟩, h3⟩, h4⟩, h5⟩ := h
      subst h2
      exact ei_rng2 (glC_ok (by rw [x.hs]; exact h1)) (x.bts "range" (by decide)) (s.E X sc W x tk _ _ h4) (s.E X sc W x tk _ _ h5) h3
    · cases h
  · cases h
/-- an operand, from the check of a value -/
theorem sndO_of (hE : ∀ (e : Expr) (ie : IE), chkE M N (n + 1) sc e ie = true → PE X e (tE k W C ie)) (x : XOk M N sc k C X) (e : Expr) (ie : IE) (h : chkE M N (n + 1) sc e ie = true) : PE X e (tO k W C ie) := by
  by_cases nv : noVar ie = true
  · exact eo_of (hE e ie h) nv
  · cases ie with
    | var i =>
      unfold chkE at h
      cases e <;> first | (cases h; done) | skip
      obtain ⟨h1, h2, h3, h4⟩ := nm_ok x h
      exact eo_var h1 h2 h3 h4
    | _ => exact absurd rfl nv
end
end LB

end
section
set_option Elab.async false
set_option linter.all false
set_option maxRecDepth 100000
set_option maxHeartbeats 4000000
/-! Layer B, s: the check of expressions is sound: values. -/
namespace LB
open PySem PySem.Spec PyProof.Rows L2
open PL (PV MV Txt IE IEs IT II IS ISs)
section
variable {M : Mc} {N : List Str} {sc : Scope} {X : Cx} {k : Kx} {W : WX} {C : PL.Ctx} {n : Nat}
theorem blt_ok (x : XOk M N sc k C X) {b : PL.Blt} {nm : Str} {a : Expr} {es : List Expr} {ies : IEs} {p pos : Pos} (hg : glC sc nm = true) (hs : noStars (a :: es) = true) (ha : PA X (a :: es) (tOs k W C ies))
    (h : (match b with
        | .gcd => M.gcd && decide (nm = ("gcd" : Str))
        | _ => (match bltNm b with
          | some s => decide (nm = Str.ofString s)
          | none => (match tyNm b with
            | some s => decide (nm = Str.ofString s)
            | none => false))) = true) (hh : (!M.hot || bltHot b) = true) : PE X (.Call (.Name nm p) (a :: es) [] pos) (tE k W C (.blt b ies)) := by
  have hs' : (!isStar a && noStars es) = true := hs
  rw [Bool.and_eq_true] at hs'
  have s1 : isStar a = false := by simpa using hs'.1
  have gl : Gl X nm := glC_ok (by rw [x.hs]; exact hg)
  have he := star_cons (es := es) s1 X.env
  have hp := star_none hs'.2 pos X.env
  have K := x.hK
  cases b with
  | gcd =>
    simp only [Bool.and_eq_true, decide_eq_true_eq] at h
    obtain ⟨h1, h2⟩ := h
    subst h2
    exact imE (pe_callBfun cr_gcd gl (x.gcd h1) ha (by decide) he hp) fun _ _ _ q => rd_blt bls_gcd q
  | len =>
    have e := of_decide_eq_true h
    subst e
    exact imE (pe_callB call_lenK gl (x.bts "len" (by decide)) rfl ha (by decide) (by decide) he hp) fun _ _ _ q => by rw [K]; exact rd_blt bls_len q
  | abs =>
    have e := of_decide_eq_true h
    subst e
    exact imE (pe_callB call_abs gl (x.bts "abs" (by decide)) rfl ha (by decide) (by decide) he hp) fun _ _ _ q => rd_blt bls_abs q
  | min2 =>
    have e := of_decide_eq_true h
    subst e
    exact imE (pe_callB (call_min2 (x.calm (by simpa [bltHot] using hh))) gl (x.bts "min" (by decide)) rfl ha (by decide) (by decide) he hp) fun _ _ _ q => rd_blt bls_min2 q
  | max2 =>
    have e := of_decide_eq_true h
    subst e
    exact imE (pe_callB (call_max2 (x.calm (by simpa [bltHot] using hh))) gl (x.bts "max" (by decide)) rfl ha (by decide) (by decide) he hp) fun _ _ _ q => rd_blt bls_max2 q
  | sum1 =>
    have e := of_decide_eq_true h
    subst e
    exact imE (pe_callB (cr_sumK (x.calm (by simpa [bltHot] using hh))) gl (x.bts "sum" (by decide)) rfl ha (by decide) (by decide) he hp) fun _ _ _ q => by rw [K]; exact rd_blt bls_sum1 q
  | all1 =>
    have e := of_decide_eq_true h
    subst e
    exact imE (pe_callB (cr_all (x.calm (by simpa [bltHot] using hh))) gl (x.bts "all" (by decide)) rfl ha (by decide) (by decide) he hp) fun _ _ _ q => by rw [K]; exact rd_blt bls_all1 q
  | any1 =>
    have e := of_decide_eq_true h
    subst e
    exact imE (pe_callB (cr_any (x.calm (by simpa [bltHot] using hh))) gl (x.bts "any" (by decide)) rfl ha (by decide) (by decide) he hp) fun _ _ _ q => by rw [K]; exact rd_blt bls_any1 q
  | int1 =>
    have e := of_decide_eq_true h
    subst e
    exact imE (pe_callTy call_intK gl (x.bts "int" (by decide)) rfl ha (by decide) (by decide) he hp) fun _ _ _ q => rd_blt bls_int1 q
  | str1 =>
    have e := of_decide_eq_true h
    subst e
    exact imE (pe_callTy call_strK gl (x.bts "str" (by decide)) rfl ha (by decide) (by decide) he hp) fun _ _ _ q => rd_blt bls_str1 q
  | tuple1 =>
    have e := of_decide_eq_true h
    subst e
    exact imE (pe_callTy call_tuple_of gl (x.bts "tuple" (by decide)) rfl ha (by decide) (by decide) he hp) fun _ _ _ q => by rw [K]; exact rd_blt bls_tuple1 q
  | list1 =>
    have e := of_decide_eq_true h
    subst e
    exact imE (pe_callTy call_list_of gl (x.bts "list" (by decide)) rfl ha (by decide) (by decide) he hp) fun _ _ _ q => by rw [K]; exact rd_blt bls_list1 q
  | sorted1 => cases h
  | max1 => cases h
  | min1 => cases h
  | repr1 => cases h
theorem kwFew {en : PySem.Env} {cp : Pos} {es : List Expr} (hs : noStars es = true) (hl : es.length < 20) : ((backTo cp (starEach es en)).all (fun x => !x.1) && (backToKw cp (keywordEach [] en)).all (fun x => x.1.isSome) && decide (es.length + ([] : List Keyword).length + (if ([] : List Keyword).isEmpty then 0 else 1) < 30)) = true := by
  rw [star_all hs]
  have : decide (es.length + ([] : List Keyword).length + (if ([] : List Keyword).isEmpty then 0 else 1) < 30) = true := by
    simp; omega
  rw [this]; rfl
theorem mut_ok (x : XOk M N sc k C X) {m : PL.Mut} {i : Nat} {nm mn : Str} {es : List Expr} {ies : IEs} {p ap cp : Pos} (hn : nmC N sc nm i = true) (hm : mutNmC m mn = true) (hl : (ap.endLine == cp.line) = true) (hs : noStars es = true) (hz : es.length < 20) (ha : PA X es (tVs k W C ies)) (hi : es = [] → ies = .nil)
    (hc : mutAr m es.length = true) : PE X (.Call (.Attribute (.Name nm p) mn ap) es [] cp) (tE k W C (.mut m i ies)) := by
  obtain ⟨h1, h2, h3, h4⟩ := nm_ok x hn
  have K := x.hK
  have ho : PE X (.Name nm p) (tVar i) := pe_var h1 h2 h3 h4
  cases m with
  | append =>
    have e := of_decide_eq_true hm
    subst e
    cases es with
    | nil => cases hc
    | cons a es =>
      have hs' : (!isStar a && noStars es) = true := hs
      rw [Bool.and_eq_true] at hs'
      exact imE (pe_bm PySem.F.plainAttrs_list PySem.F.slot_list_append PySem.F.type_list_append mt_append ho ha rfl (kwFew hs hz) hl (star_cons (by simpa using hs'.1) _) (star_none hs'.2 _ _)) fun _ _ _ q => by rw [K]; exact rd_mut mus_append q
  | extend =>
    have e := of_decide_eq_true hm
    subst e
    cases es with
    | nil => cases hc
    | cons a es =>
      have hs' : (!isStar a && noStars es) = true := hs
      rw [Bool.and_eq_true] at hs'
      exact imE (pe_bm PySem.F.plainAttrs_list PySem.F.slot_list_extend PySem.F.type_list_extend mt_extend ho ha rfl (kwFew hs hz) hl (star_cons (by simpa using hs'.1) _) (star_none hs'.2 _ _)) fun _ _ _ q => by rw [K]; exact rd_mut mus_extend q
  | pop =>
    have e := of_decide_eq_true hm
    subst e
    have z : es = [] := List.eq_nil_of_length_eq_zero (of_decide_eq_true hc)
    subst z
    rw [hi rfl]
    exact imE (pe_bm0 PySem.F.plainAttrs_list PySem.F.slot_list_pop PySem.F.type_list_pop mt_pop ho rfl hl) fun _ _ _ q => by rw [K]; exact rd_mut0 mus_pop q
  | reverse =>
    have e := of_decide_eq_true hm
    subst e
    have z : es = [] := List.eq_nil_of_length_eq_zero (of_decide_eq_true hc)
    subst z
    rw [hi rfl]
    exact imE (pe_bm0 PySem.F.plainAttrs_list PySem.F.slot_list_reverse PySem.F.type_list_reverse mt_reverse ho rfl hl) fun _ _ _ q => by rw [K]; exact rd_mut0 mus_reverse q
  | insert => cases hm
  | popAt => cases hm
  | remove => cases hm
theorem cls_pe (x : XOk M N sc k C X) {c : PL.Cls} {nm : String} {y : Str} {p : Pos} (hg : glC sc y = true) (hc : clsNm c = some nm) (hy : y = Str.ofString nm) : PE X (.Name y p) (tC (.ty nm)) := by
  have gl : Gl X y := glC_ok (by rw [x.hs]; exact hg)
  subst hy
  cases c with
  | int => cases hc; exact pe_bltn gl (x.bts "int" (by decide)) rfl rfl
  | bool => cases hc; exact pe_bltn gl (x.bts "bool" (by decide)) rfl rfl
  | str => cases hc; exact pe_bltn gl (x.bts "str" (by decide)) rfl rfl
  | tuple => cases hc; exact pe_bltn gl (x.bts "tuple" (by decide)) rfl rfl
  | list => cases hc; exact pe_bltn gl (x.bts "list" (by decide)) rfl rfl
  | own _ => cases hc
theorem clss_ok (x : XOk M N sc k C X) : ∀ {es : List Expr} {cs : List PL.Cls}, clsExC es cs = true → (es.all fun q => match q with
          | .Name c _ => glC sc c
          | _ => false) = true → ∃ ns, clsNms cs = some ns ∧ ns.length = cs.length ∧ PA X es (fun _ H Q => Q (ns.map V.ty) H)
  | [], [], _, _ => ⟨[], rfl, rfl, pa_nil⟩
  | [], _ :: _, h, _ => by cases h
  | e :: es, [], h, _ => by cases e <;> cases h
  | e :: es, c :: cs, h, g => by
    cases e <;> first | (cases h; done) | skip
    rename_i y p
    have h : ((match clsNm c with
      | some n => decide (y = Str.ofString n)
      | none => false) && clsExC es cs) = true := h
    rw [Bool.and_eq_true] at h
    rw [List.all_cons, Bool.and_eq_true] at g
    obtain ⟨ns, e1, e2, e3⟩ := clss_ok x h.2 g.2
    cases hc : clsNm c with
    | none => rw [hc] at h; cases h.1
    | some nm =>
      rw [hc] at h
      refine ⟨nm :: ns, by unfold clsNms; rw [hc, e1], by rw [List.length_cons, List.length_cons, e2], ?_⟩
      exact imA (pa_cons (cls_pe x g.1 hc (of_decide_eq_true h.1)) e3 (star_cons rfl _)) fun _ _ _ q => q
/-- names of the errors' classes, as values -/
theorem owns_ok (x : XOk M N sc k C X) : ∀ {es : List Expr} {cs : List PL.Cls}, ownExC M sc es cs = true → ∃ (Ds : List Txt) (vs : List V) (us : List Value), cs = Ds.map .own ∧ vs.length = Ds.length ∧ us.length = Ds.length ∧ (∀ q ∈ Ds.zip (vs.zip us), ClsW k k.K C.par q.1 q.2.1 q.2.2) ∧ PA X es (fun _ H Q => Q vs H)
  | [], [], _ => ⟨[], [], [], rfl, rfl, rfl, fun q z => (nomatch z), pa_nil⟩
  | [], _ :: _, h => by cases h
  | e :: es, [], h => by cases e <;> cases h
  | e :: es, c :: cs, h => by
    cases e <;> first | (cases h; done) | skip
    rename_i y p
    cases c <;> first | (cases h; done) | skip
    rename_i D
    have h : (glC sc y && plainN y && decide ((y, D) ∈ M.cls) && ownExC M sc es cs) = true := h
    simp only [Bool.and_eq_true, decide_eq_true_eq] at h
    obtain ⟨⟨⟨h1, h2⟩, h3⟩, h4⟩ := h
    obtain ⟨Ds, vs, us, e1, e2, e3, e4, e5⟩ := owns_ok x h4
    obtain ⟨v, u, g1, g2, g3, _⟩ := (x.sta.cls _ _ h3).ex
    unfold plainN at h2
    simp only [Bool.and_eq_true, Bool.not_eq_true'] at h2
    have gl : Gl X y := glC_ok (by rw [x.hs]; exact h1)
    have hp : PE X (.Name y p) (tC v) := by
      rcases g3 with g3 | ⟨g3, g4, g5⟩
      · exact pe_glob gl g3 g2 h2.1
      · exact pe_bltn gl g3 g4 g2 g5 h2.1
    refine ⟨D :: Ds, v :: vs, u :: us, by rw [e1]; rfl, by simp [e2], by simp [e3], fun q hq => ?_, imA (pa_cons hp e5 (star_cons rfl _)) fun _ _ _ q => q⟩
    simp only [List.zip_cons_cons, List.mem_cons] at hq
    rcases hq with rfl | hq
    · exact g1
    · exact e4 q hq
theorem own1 (x : XOk M N sc k C X) {c : Str} {p : Pos} {cs : List PL.Cls} (h : ownExC M sc [.Name c p] cs = true) : ∃ D v u, cs = [.own D] ∧ ClsW k k.K C.par D v u ∧ PE X (.Name c p) (tC v) := by
  cases cs with
  | nil => cases h
  | cons d cs =>
    cases d <;> first | (cases h; done) | skip
    rename_i D
    have h : (glC sc c && plainN c && decide ((c, D) ∈ M.cls) && ownExC M sc [] cs) = true := h
    simp only [Bool.and_eq_true, decide_eq_true_eq] at h
    obtain ⟨⟨⟨h1, h2⟩, h3⟩, h4⟩ := h
    have hcs : cs = [] := by
      cases cs with
      | nil => rfl
      | cons _ _ => cases h4
    subst hcs
    obtain ⟨v, u, g1, g2, g3, _⟩ := (x.sta.cls _ _ h3).ex
    unfold plainN at h2
    simp only [Bool.and_eq_true, Bool.not_eq_true'] at h2
    have gl : Gl X c := glC_ok (by rw [x.hs]; exact h1)
    refine ⟨D, v, u, rfl, g1, ?_⟩
    rcases g3 with g3 | ⟨g3, g4, g5⟩
    · exact pe_glob gl g3 g2 h2.1
    · exact pe_bltn gl g3 g4 g2 g5 h2.1
end
end LB

end
section
set_option Elab.async false
set_option linter.all false
set_option maxRecDepth 100000
set_option maxHeartbeats 4000000
/-! Layer B, t: the check of expressions is sound: all of it. -/
namespace LB
open PySem PySem.Spec PyProof.Rows L2
open PL (PV MV Txt IE IEs IT II IS ISs)
section
variable {M : Mc} {N : List Str} {sc : Scope} {X : Cx} {k : Kx} {W : WX} {C : PL.Ctx} {n : Nat}
theorem chkV_nil {ies : IEs} (h : chkV M N n sc [] ies = true) : ies = .nil := by
  cases n with
  | zero => unfold chkV at h; cases h
  | succ n =>
    unfold chkV at h
    cases ies with
    | nil => rfl
    | cons _ _ => cases h
theorem part_ok (s : Snd M N k C n) (x : XOk M N sc k C X) (tk : L2N.Takes X W) {l : Option Expr} {lo : IE} (h : (match l with
        | none => PL.nonE lo
        | some l => chkE M N n sc l lo && !PL.nonE lo) = true) : PartOk X k W C l lo := by
  cases l with
  | none =>
    have h : PL.nonE lo = true := h
    unfold PL.nonE at h
    split at h
    · exact .no
    · cases h
  | some l =>
    have h : (chkE M N n sc l lo && !PL.nonE lo) = true := h
    rw [Bool.and_eq_true] at h
    exact .so (s.E X sc W x tk _ _ h.1) (by simpa using h.2)
theorem comp_parts (hh : M.hot = false) (s : Snd M N k C n) (x : XOk M N sc k C X) {elt tg it : Expr} {ifs : List Expr} {scope : Scope} {ow : List Nat} {tgt : PL.Tgt} {ii : II} {t : IT} {ie : IE}
    (h : (blkC N sc scope (ow.map fun i => (N.getD i Str.empty, i)) && notSet it && chkI M N n sc it ii && tgC N false (relS scope sc) tg tgt && (tgSlots tgt).all (fun i => decide (i ∈ ow)) &&
          (match ifs with
          | [] => (match t with
            | .tt => true
            | _ => false)
          | [c] => chkT M N n (relS scope sc) c t
          | _ => false) && chkE M N n (relS scope sc) elt ie) = true) :
    BlkOk X.N X.env.scope scope (ow.map fun i => (N.getD i Str.empty, i)) ∧ (∀ W, L2N.Takes X W → PI X tg it (tIt k W C ii)) ∧
    (∀ (s : Shared) (H : Hp) (C' : Addr) (cl : List (Str × Addr)) (fp : List Addr), PG (X.blk s H scope (compEnvC scope cl C' X.env) fp) tg (gT k.K tgt)) ∧
    (∀ (s : Shared) (H : Hp) (C' : Addr) (cl : List (Str × Addr)) (fp : List Addr), PTs (X.blk s H scope (compEnvC scope cl C' X.env) fp) ifs (tT k WF C t)) ∧
    (∀ (s : Shared) (H : Hp) (C' : Addr) (cl : List (Str × Addr)) (fp : List Addr), PE (X.blk s H scope (compEnvC scope cl C' X.env) fp) elt (tE k WF C ie)) ∧
    (∀ y, foldedSetIterable it X.env y = pure y) ∧ (∀ i ∈ tgSlots tgt, i ∈ (ow.map fun i => (N.getD i Str.empty, i)).map (·.2)) := by
  simp only [Bool.and_eq_true] at h
  obtain ⟨⟨⟨⟨⟨⟨h1, h2⟩, h3⟩, h4⟩, h5⟩, h6⟩, h7⟩ := h
  refine ⟨by rw [x.hN, x.hs]; exact blkOk_by h1, fun W tk => s.I X sc W x tk _ _ h3 tg, fun s' H C' cl fp => (tg_ok (x.blk hh s' H scope C' cl fp) (fun z => by cases z) h4).pg (x.calm hh) x.hK (by rw [x.hN]; exact x.nd), fun s' H C' cl fp => ?_, fun s' H C' cl fp => s.E _ _ WF (x.blk hh s' H scope C' cl fp) takes_WF _ _ h7, notSet_ok h2, fun i hi => ?_⟩
  · cases ifs with
    | nil =>
      cases t <;> first | (cases h6; done) | skip
      exact ts_nil
    | cons c r =>
      cases r with
      | nil => exact pts_one (s.T _ _ WF (x.blk hh s' H scope C' cl fp) takes_WF _ _ h6).1
      | cons _ _ => cases h6
  · have := List.all_eq_true.mp h5 i hi
    have := of_decide_eq_true this
    simp [this]
theorem sndE_succ (s : Snd M N k C n) (x : XOk M N sc k C X) (tk : L2N.Takes X W) (e : Expr) (ie : IE) (h : chkE M N (n + 1) sc e ie = true) : PE X e (tE k W C ie) := by
  have hu : X.A.units + 1 < cLine := by have := x.un; omega
  unfold chkE at h
  split at h
  · split at h
    · obtain ⟨h1, h2, h3, h4⟩ := nm_ok x h
      exact ev_var h1 h2 h3 h4
    · cases h
  · split at h
    · exact con_ok h
    · cases h
  · split at h
    · simp only [Bool.and_eq_true] at h
      obtain ⟨⟨h1, h2⟩, h3⟩ := h
      obtain ⟨y, u, m1, m2, m3⟩ := x.gls _ _ (glsC_ok h3)
      refine ev_glo (glC_ok (by rw [x.hs]; exact h1)) m1 m2 m3 ?_
      unfold plainN at h2
      simp only [Bool.and_eq_true, Bool.not_eq_true'] at h2
      exact h2.1
    · cases h
  · split at h
    · simp only [Bool.and_eq_true] at h
      exact bin_ok x h.1.1 (s.O X sc W x tk _ _ h.1.2) (s.O X sc W x tk _ _ h.2)
    · cases h
  · split at h
    · exact ev_neg (s.E X sc W x tk _ _ h)
    · cases h
  · split at h
    · simp only [Bool.and_eq_true] at h
      obtain ⟨r, h1, h2⟩ := cm_ok x h.1.1.1
      exact ev_cmp h1 h2 (s.O X sc W x tk _ _ h.1.2) (s.O X sc W x tk _ _ h.2) (noSet_ok h.1.1.2)
    · cases h
  · split at h
    · simp only [Bool.and_eq_true, Bool.not_eq_true'] at h
      obtain ⟨⟨⟨⟨⟨h1, h2⟩, h3⟩, h4⟩, h5⟩, h6⟩ := h
      obtain ⟨r, k1, k2⟩ := cm_ok x h1
      obtain ⟨r', k3, k4⟩ := cm_ok x h2
      exact ev_chn k1 k3 k2 k4 (s.O X sc W x tk _ _ h4) (s.O X sc W x tk _ _ h5) (s.O X sc W x tk _ _ h6) h3
    · cases h
  · split at h
    · rename_i y z r p
      rw [Bool.and_eq_true] at h
      have ha := s.E X sc W x tk _ _ h.1
      have h2 := h.2
      cases r with
      | nil => exact ev_and ha (pe_one (s.E X sc W x tk _ _ h2))
      | cons w r => exact ev_and ha (s.E X sc W x tk _ _ h2)
    · cases h
  · split at h
    · rename_i y z r p
      rw [Bool.and_eq_true] at h
      have ha := s.E X sc W x tk _ _ h.1
      have h2 := h.2
      cases r with
      | nil => exact ev_or ha (pe_one (s.E X sc W x tk _ _ h2))
      | cons w r => exact ev_or ha (s.E X sc W x tk _ _ h2)
    · cases h
  · split at h
    · exact ev_not (s.E X sc W x tk _ _ h)
    · cases h
  · split at h
    · simp only [Bool.and_eq_true] at h
      exact ev_ife (s.T X sc W x tk _ _ h.1.1).1 (s.E X sc W x tk _ _ h.1.2) (s.E X sc W x tk _ _ h.2)
    · cases h
  · split at h
    · simp only [Bool.and_eq_true, decide_eq_true_eq] at h
      obtain ⟨⟨⟨⟨h1, h2⟩, h3⟩, h4⟩, h5⟩ := h
      unfold plainN at h2
      simp only [Bool.and_eq_true, Bool.not_eq_true'] at h2
      exact ev_call (x.fns _ _ h3) tk (glC_ok (by rw [x.hs]; exact h1)) (s.L X sc W x tk _ _ h5) h4 h2.1
    · split at h
      · simp only [Bool.and_eq_true, decide_eq_true_eq, Bool.not_eq_true'] at h
        obtain ⟨⟨⟨hh, h1⟩, h2⟩, h3⟩ := h
        unfold plainN at h2
        simp only [Bool.and_eq_true, Bool.not_eq_true'] at h2
        exact ev_call0 (hh ▸ x.fns _ _ h3) tk (glC_ok (by rw [x.hs]; exact h1)) h2.1
      · cases h
    · cases h
  · split at h
    · simp only [Bool.and_eq_true] at h
      obtain ⟨⟨⟨⟨h0, h1⟩, h2⟩, h3⟩, h4⟩ := h
      exact blt_ok x h1 h2 (s.L X sc W x tk _ _ h3) h4 h0
    · cases h
  · split at h
    · rename_i y pn a z pos
      simp only [Bool.and_eq_true, decide_eq_true_eq] at h
      obtain ⟨⟨⟨⟨h1, h2⟩, h3⟩, h4⟩, h5⟩ := h
      subst h2
      have gl : Gl X "isinstance" := glC_ok (by rw [x.hs]; exact h1)
      have hm : X.mg "isinstance" = none := x.bts "isinstance" (by decide)
      have ha := s.O X sc W x tk _ _ h4
      have sa := one_star h3
      split at h5
      · rename_i c p3
        rw [Bool.or_eq_true] at h5
        rcases h5 with h5 | h5
        · rw [Bool.and_eq_true] at h5
          obtain ⟨g1, g2⟩ := h5
          have g0 : clsExC [.Name c p3] _ = true := g2
          unfold clsExC at g0
          split at g0
          · rename_i heq
            cases heq
          · rename_i y2 p4 es2 c2 cs2 heq
            cases heq
            rw [Bool.and_eq_true] at g0
            obtain ⟨g3, g4⟩ := g0
            have hcs2 : cs2 = [] := by
              cases cs2 with
              | nil => rfl
              | cons _ _ => cases g4
            subst hcs2
            cases hc : clsNm c2 with
            | none => rw [hc] at g3; cases g3
            | some nm =>
              rw [hc] at g3
              exact ev_isa1 (x := c) (p3 := p3) x.hK hc ha (cls_pe x g1 hc (of_decide_eq_true g3)) (by show (!isStar a && (!false && true)) = true; rw [sa]; rfl) gl hm
          · cases g0
        · obtain ⟨D, v, u, rfl, e4, hb⟩ := own1 x h5
          exact ev_isaE x.hK x.exa x.sta.exk e4 ha hb (by show (!isStar a && (!false && true)) = true; rw [sa]; rfl) gl hm
      · rename_i es k2 p3
        rw [Bool.or_eq_true] at h5
        rcases h5 with h5 | h5
        · simp only [Bool.and_eq_true, decide_eq_true_eq] at h5
          obtain ⟨⟨⟨g1, g2⟩, g3⟩, g4⟩ := h5
          obtain ⟨ns, e1, e2, e3⟩ := clss_ok x g1 g2
          exact ev_isaT x.hK e1 (by omega) (fun z => by rw [z] at g3; simp at g3) ha e3 sa gl hm
        · simp only [Bool.and_eq_true, decide_eq_true_eq] at h5
          obtain ⟨⟨g1, g3⟩, g4⟩ := h5
          obtain ⟨Ds, vs, us, rfl, e2, e3, e4, e5⟩ := owns_ok x g1
          cases Ds with
          | nil => simp at g3
          | cons D Ds => exact ev_isaTE x.hK x.exa x.sta.exk e2 e3 (by rw [e2]; simpa using g4) e4 ha e5 sa gl hm
      · cases h5
    · cases h
  · split at h
    · simp only [Bool.and_eq_true, decide_eq_true_eq] at h
      obtain ⟨⟨⟨⟨⟨⟨h1, h2⟩, h3⟩, h4⟩, h5⟩, h6⟩, h7⟩ := h
      exact mut_ok x h1 h2 h3 h4 h5 (s.V X sc W x tk _ _ h6) (fun z => by subst z; exact chkV_nil h6) h7
    · cases h
  · split at h
    · simp only [Bool.and_eq_true] at h
      exact ev_ix hu x.hK (s.O X sc W x tk _ _ h.1.2) (s.E X sc W x tk _ _ h.2) h.1.1
    · cases h
  · split at h
    · simp only [Bool.and_eq_true] at h
      obtain ⟨⟨⟨⟨⟨h1, h2⟩, h3⟩, h4⟩, h5⟩, h6⟩ := h
      obtain ⟨g1, g2, g3, g4⟩ := nm_ok x h1
      exact ev_ix2 hu x.hK g1 g2 g3 g4 (s.E X sc W x tk _ _ h4) (s.P X sc x _ _ h5).1 h6 h2 h3
    · cases h
  · split at h
    · simp only [Bool.and_eq_true] at h
      obtain ⟨⟨h1, h2⟩, h3⟩ := h
      exact ev_slc x.hK (s.O X sc W x tk _ _ h1) (part_ok s x tk h2) (part_ok s x tk h3)
    · cases h
  · split at h
    · simp only [Bool.and_eq_true, decide_eq_true_eq] at h
      exact ev_tup (s.V X sc W x tk _ _ h.2) h.1.2
    · cases h
  · split at h
    · simp only [Bool.and_eq_true, decide_eq_true_eq] at h
      exact ev_lst (s.V X sc W x tk _ _ h.2) h.1.2
    · cases h
  · rename_i tf
    split at h
    · cases tf with
      | false => exact ev_dctF
      | true => exact ev_dctT
    · cases h
  · rename_i ow tgt ii t ie2
    split at h
    · rename_i elt tg it ifs scope pos
      rw [Bool.and_eq_true] at h
      have hh : M.hot = false := by simpa using h.1
      have h := h.2
      obtain ⟨c1, c2, c3, c4, c5, c6, c7⟩ := comp_parts hh s x h
      have := ev_comp (pos := pos) (W := W) (x.calm hh) (by rw [x.hN]; exact x.nd) (c2 W tk) c1 c3 c4 c5 c6 c7
      have e2 : (ow.map fun i => (N.getD i Str.empty, i)).map (·.2) = ow := by
        rw [List.map_map]
        exact (List.map_congr_left fun _ _ => rfl).trans (List.map_id ow)
      rw [e2] at this
      exact this
    · cases h
  · split at h
    · simp only [Bool.and_eq_true, decide_eq_true_eq] at h
      obtain ⟨⟨h1, h2⟩, h3⟩ := h
      subst h2
      obtain ⟨g1, g2, g3, g4⟩ := nm_ok x h1
      obtain ⟨f1, f2⟩ := x.sta.fld _ h3
      exact ev_atr x.hK x.exa x.sta.exk f1 f2 g1 g2 g3 g4
    · cases h
  · split at h
    · simp only [Bool.and_eq_true, Bool.not_eq_true'] at h
      obtain ⟨⟨⟨⟨⟨h1, h2⟩, h3⟩, h4⟩, h5⟩, h6⟩ := h
      exact met_ok x.hK h2 h1 h3 h4 (s.O X sc W x tk _ _ h5) (s.O X sc W x tk _ _ h6)
    · cases h
  · split at h
    · simp only [Bool.and_eq_true, Bool.not_eq_true', decide_eq_true_eq] at h
      obtain ⟨⟨⟨⟨⟨hh, h1⟩, h2⟩, h3⟩, h4⟩, h5⟩ := h
      subst h2
      subst h3
      obtain ⟨g1, g2, g3, g4⟩ := nm_ok x h4
      obtain ⟨f1, f2, f3, f4⟩ := nm_ok x h5
      exact ev_req (x.gd hh) x.un x.hK (glC_ok (by rw [x.hs]; exact h1)) (x.bts "repr" (by decide)) g1 g2 g3 g4 f1 f2 f3 f4
    · cases h
  · cases h
theorem snd : ∀ n, Snd M N k C n
  | 0 => ⟨fun _ _ _ _ _ e ie h => (by unfold chkE at h; cases h), fun _ _ _ _ _ e ie h => (by unfold chkE at h; cases h), fun _ _ _ _ _ e ie h => (by unfold chkO at h; cases h), fun _ _ _ _ _ e ie h => (by unfold chkV at h; cases h),
    fun _ _ _ _ _ e ie h => (by unfold chkT at h; cases h), fun _ _ _ _ _ e ie h => (by unfold chkI at h; cases h), fun _ _ _ e ie h => (by unfold chkP at h; cases h)⟩
  | n + 1 => by
    have s := snd n
    refine ⟨fun X sc W x tk e ie h => sndE_succ s x tk e ie h, fun X sc W x tk e ie h => sndO_of (fun e ie h => sndE_succ s x tk e ie h) x e ie h, fun X sc W x tk es ies h => sndL_succ s x tk es ies h, fun X sc W x tk es ies h => sndV_succ s x tk es ies h,
      fun X sc W x tk e t h => sndT_succ s x tk e t h, fun X sc W x tk e ii h tg => sndI_succ s x tk e ii h tg, fun X sc x e ie h => sndP_succ (fun X sc => s.P X sc) X sc x e ie h⟩
end
end LB

end
section
set_option Elab.async false
set_option linter.all false
set_option maxRecDepth 100000
set_option maxHeartbeats 4000000
/-! Layer B, u: the check of statements, and that it is sound. -/
namespace LB
open PySem PySem.Spec PyProof.Rows L2
open PL (PV MV Txt IE IEs IT II IS ISs)
/-- name = [..]: the two stores are exchanged -/
def swC (sc : Scope) (x : Str) (px : Pos) : Expr → Bool
  | .ListComp _ _ scope pos => (match sc.names.lookup x with
    | some .local => true
    | _ => false) && (px.line == pos.line) && !(scope.names.any fun (n, k) => n == x && (k == .local || k == .cell))
  | _ => false
theorem swC_ok {env : PySem.Env} {x : Str} {px : Pos} {elt : Expr} {gs : List Comprehension} {scope : Scope} {pos : Pos} {l : Nat} (hk : env.scope.kind = .function) : swapsWith (.ListComp elt gs scope pos) (some (.Name x px)) l env = pure (swC env.scope x px (.ListComp elt gs scope pos)) := by
  have hb : env.blockKind = .function := by unfold Env.blockKind; rw [hk]; rfl
  have hx : (env.kindOf x == some .local) = (match env.scope.names.lookup x with
    | some .local => true
    | _ => false) := by
    show (env.scope.names.lookup x == some .local) = _
    cases env.scope.names.lookup x with
    | none => rfl
    | some kd => cases kd <;> rfl
  unfold swapsWith swC
  simp only [hb, hx, Expr.pos]
  rfl
mutual
def chkS (M : Mc) (N : List Str) (sc : Scope) : Nat → Stmt → IS → Bool
  | 0, _, _ => false
  | n + 1, st, is => match is with
    | .set i ie => (match st with
      | .Assign [.Name x px] v _ => stC N true sc x i && chkE M N n sc v ie && (!isComp v || (match v with
        | .ListComp _ [⟨_, _, _, 0⟩] _ _ => true
        | _ => false))
      | _ => false)
    | .unp l ie => (match st with
      | .Assign [.Tuple es _ _] v _ => !M.hot && nmsC N true sc es l && chkE M N n sc v ie && !isTup v && !isComp v
      | _ => false)
    | .par i j a b => (match st with
      | .Assign [.Tuple [.Name x px, .Name y py] _ _] (.Tuple [v, w] _ _) _ => !M.hot && decide (N[i]? = some x) && decide (N[j]? = some y) && decide (i ≠ j) && decide (sc.names.lookup x = some .local) && decide (sc.names.lookup y = some .local) && (px.line == py.line) && decide (x ≠ y) && noStars [v, w] && !([v, w].all (foldedForSure 8)) && !([v, w].all (constantsAlone 8)) && chkE M N n sc v a && chkE M N n sc w b
      | _ => false)
    | .six i ik ie => (match st with
      | .Assign [.Subscript (.Name x _) b _] v _ => nmC N sc x i && plainIx b && chkE M N n sc b ik && chkE M N n sc v ie
      | _ => false)
    | .six2 i ij ik ie => (match st with
      | .Assign [.Subscript (.Subscript (.Name x _) b _) c _] v _ => nmC N sc x i && plainIx b && plainIx c && chkE M N n sc b ij && chkP N sc n c ik && chkE M N n sc v ie
      | _ => false)
    | .exp ie => (match st with
      | .Expr v _ => !isComp v && chkE M N n sc v ie
      | _ => false)
    | .ret ie => (match st with
      | .Return (some v) _ => chkE M N n sc v ie
      | _ => false)
    | .rtv i => (match st with
      | .Return (some (.Name x _)) _ => nmC N sc x i
      | _ => false)
    | .ret0 => (match st with
      | .Return none _ => true
      | _ => false)
    | .ife t a b => (match st with
      | .If c x y _ => chkT M N n sc c t && chkSs M N sc n x a && chkSs M N sc n y b
      | _ => false)
    | .fo tgt ii sb => (match st with
      | .For tg e body [] _ => !M.hot && tgC N true sc tg tgt && notSet e && chkI M N n sc e ii && chkSs M N sc n body sb
      | _ => false)
    | .wh t sb => (match st with
      | .While c body [] _ => chkT M N n sc c t && chkSs M N sc n body sb
      | _ => false)
    | .pas => (match st with
      | .Pass _ => true
      | _ => false)
    | .cnt => (match st with
      | .Continue _ => true
      | _ => false)
    | .brk => (match st with
      | .Break _ => true
      | _ => false)
    | .rai c f ies => (match st with
      | .Raise (some (.Call (.Name x _) [e] [] _)) none _ => !M.hot && glC sc x && plainN x && decide ((x, c, f) ∈ M.exs) && !isStar e && chkV M N n sc [e] ies
      | _ => false)
    | .try sb c (some i) sh => (match st with
      | .Try body [.ExceptHandler (some (.Name x _)) (some y) (b₀ :: suite) _] [] [] _ => !M.hot && glC sc x && plainN x && decide ((x, c) ∈ M.cls) && decide (N[i]? = some y) && decide (sc.names.lookup y = some .local) && chkSs M N sc n body sb && chkSs M.toHot N sc n (b₀ :: suite) sh
      | _ => false)
    | .dead => true
    | _ => false
def chkSs (M : Mc) (N : List Str) (sc : Scope) : Nat → List Stmt → ISs → Bool
  | 0, _, _ => false
  | n + 1, sts, iss => match iss with
    | .nil => sts.isEmpty
    | .cons i r => (match sts with
      | st :: sts => chkS M N sc n st i && chkSs M N sc n sts r
      | _ => false)
end
section
variable {M : Mc} {N : List Str} {sc : Scope} {X : Cx} {k : Kx} {W : WX} {C : PL.Ctx} {n : Nat}
theorem XOk.lock {l : List Nat} (x : XOk M N sc k C X) : XOk M N sc k { C with lock := l } X := ⟨x.hN, x.nd, x.hs, x.hK, x.calm, x.un, x.gd, x.fns, x.gls, x.bts, x.gcd, x.sta, x.nex, x.exa, x.rai⟩
/-- .. of a def's body -/
structure XFn (M : Mc) (N : List Str) (sc : Scope) (k : Kx) (C : PL.Ctx) (X : Cx) (W : WX) : Prop where
  ok : XOk M N sc k C X
  tk : L2N.Takes X W
  pas : PassesOwn (model X.prog X.w) X.A X.env X.xe
  fn : ∀ z, X.fn z = true
  kind : sc.kind = .function
  stk : M.hot = false → X.stack = X.env :: X.outer ∧ X.env.frame = some X.env.locals
  hot : M.hot = false → ∀ (a : Addr) (oe : Obj) (cls : Value) (d : Option Addr), L2N.Zn cls d oe → (∃ vs, oe.data = .fields vs) → ∀ x f, (x, f) ∈ M.hfns →
    ∃ kk fa fd ps, FnP (a, oe) X.prog X.w X.K X.mg X.base (L2N.CX X.prog X.w) kk fa fd ps (spF (k.hot a cls d) C.call f) ∧ L2H.RoomH kk X.A ∧ X.mg x = some (.ref fa) ∧ PySem.W.keepIn X.K (.ref fa) = true ∧ Binds X.K fd ps []
theorem XOk.tr (x : XOk M N sc k C X) (hh : M.hot = false) (pn : List (Addr × Obj)) (xe : Value → Shared → Prop) : XOk M N sc k C (X.tr pn xe) :=
  ⟨x.hN, x.nd, x.hs, x.hK, x.calm, x.un, x.gd, fun z f h => (by
    obtain ⟨kk, fa, fd, ps, F, m1, m2, m3⟩ := (x.fns z f h).ex
    rcases F with ⟨F0, F, hr⟩ | ⟨q, F0, _⟩
    · exact ⟨kk, fa, fd, ps, .inl ⟨F0, F, hr⟩, m1, m2, m3⟩
    · rw [hh] at F0; cases F0), x.gls, x.bts, x.gcd, x.sta, x.nex, fun a c d z => absurd z (x.nex hh a c d), fun z a c f h => ⟨(x.rai z a c f h).ex⟩⟩
theorem XFn.tr {W' : WX} {pn : List (Addr × Obj)} {xe : Value → Shared → Prop} (x : XFn M N sc k C X W) (hh : M.hot = false) (tk : L2N.Takes (X.tr pn xe) W') (hp : PassesOwn (model X.prog X.w) X.A X.env xe) : XFn M N sc k C (X.tr pn xe) W' :=
  ⟨x.ok.tr hh pn xe, tk, hp, x.fn, x.kind, x.stk, x.hot⟩
theorem XFn.suite {a : Addr} {oe : Obj} {cls : Value} {d : Option Addr} {pn : List (Addr × Obj)} (x : XFn M N sc k C X W) (hh : M.hot = false) (hz : L2N.Zn cls d oe) (hf : ∃ vs, oe.data = .fields vs) : XFn M.toHot N sc (k.hot a cls d) C (X.suite a ((a, oe) :: pn)) WF := by
  refine ⟨⟨x.ok.hN, x.ok.nd, x.ok.hs, x.ok.hK, fun z => (nomatch z), x.ok.un, fun z => (nomatch z), fun z f h => ?_, x.ok.gls, x.ok.bts, x.ok.gcd, ⟨x.ok.sta.exk, x.ok.sta.fld, fun y D h => ?_, x.ok.sta.glc⟩, fun z => (nomatch z), fun a' c' d' z => ?_, fun z => (nomatch z)⟩, takes_WF, PassesOwn.never, x.fn, x.kind, fun z => (nomatch z), fun z => (nomatch z)⟩
  · obtain ⟨kk, fa, fd, ps, F, hr, m1, m2, m3⟩ := x.hot hh a oe cls d hz hf z f h
    obtain ⟨vs, hv⟩ := hf
    exact ⟨kk, fa, fd, ps, .inr ⟨(a, oe), rfl, F, ⟨hr.dp, hr.un⟩, ⟨rfl, vs, hv, hz.2.2 vs hv⟩, List.mem_cons_self⟩, m1, m2, m3⟩
  · obtain ⟨v, u, g1, g2, g3, g4⟩ := (x.ok.sta.cls y D h).ex
    exact ⟨v, u, ⟨g1.cv, g1.kit⟩, g2, g3, g4⟩
  · obtain ⟨rfl, rfl, A, h1, h2⟩ := z
    exact ⟨oe, A, List.mem_cons_self, h1, hz.1.trans h2, hz.2.1, hf⟩
theorem XFn.lock {l : List Nat} (x : XFn M N sc k C X W) : XFn M N sc k { C with lock := l } X W := ⟨x.ok.lock, x.tk, x.pas, x.fn, x.kind, x.stk, x.hot⟩
structure SndS (M : Mc) (N : List Str) (sc : Scope) (k : Kx) (n : Nat) : Prop where
  S : ∀ (X : Cx) (W : WX) (C : PL.Ctx), XFn M N sc k C X W → ∀ st is, chkS M N sc n st is = true → PS X st (tS k W C is)
  Ss : ∀ (X : Cx) (W : WX) (C : PL.Ctx), XFn M N sc k C X W → ∀ sts iss, chkSs M N sc n sts iss = true → PSs X sts (tSs k W C iss)
theorem sndS_succ (s : SndS M N sc k n) (sh : ∀ k', SndS M.toHot N sc k' n) (x : XFn M N sc k C X W) (st : Stmt) (is : IS) (h : chkS M N sc (n + 1) st is = true) : PS X st (tS k W C is) := by
  have se := snd (M := M) (N := N) (k := k) (C := C) n
  have xo := x.ok
  have tk := x.tk
  have hu : X.A.units + 1 < cLine := by have := xo.un; omega
  have nd : X.N.Nodup := by rw [xo.hN]; exact xo.nd
  have hk : X.env.scope.kind = .function := by rw [xo.hs]; exact x.kind
  unfold chkS at h
  split at h
  · rename_i i ie
    split at h
    · rename_i y px v pos
      simp only [Bool.and_eq_true] at h
      obtain ⟨⟨h1, h2⟩, h3⟩ := h
      have so := st_ok xo (fun _ => x.fn) h1
      have he := se.E X sc W xo tk _ _ h2
      by_cases hcm : isComp v = true
      · rw [hcm] at h3
        cases v <;> first | (cases hcm; done) | skip
        · rename_i elt gs scope cp
          have h3 : (match Expr.ListComp elt gs scope cp with
            | .ListComp _ [⟨_, _, _, 0⟩] _ _ => true
            | _ => false) = true := h3
          have hw := swC_ok (x := y) (px := px) (elt := elt) (gs := gs) (scope := scope) (pos := cp) (l := pos.line) hk
          cases hsw : swC X.env.scope y px (.ListComp elt gs scope cp) with
          | false =>
            rw [hsw] at hw
            exact ss_set nd so.ix so.loc he hw so.fn
          | true =>
            rw [hsw] at hw
            split at h3
            · rename_i elt' tg it ifs scope' cp' heq
              cases heq
              have hloc : X.env.scope.names.lookup y = some .local := by
                unfold swC at hsw
                simp only [Bool.and_eq_true] at hsw
                have := hsw.1.1
                split at this
                · assumption
                · cases this
              cases n with
              | zero => unfold chkE at h2; cases h2
              | succ n =>
                unfold chkE at h2
                cases ie <;> first | (cases h2; done) | (rename_i a _; cases a <;> cases h2; done) | (rename_i a b; cases a <;> first | (cases h2; done) | (cases b <;> cases h2); done) | (rename_i ies; cases ies <;> first | (cases h2; done) | (rename_i r; cases r <;> cases h2; done)) | skip
                rename_i ow tgt ii t ie2
                have h2 := Bool.and_eq_true_iff.mp h2
                have hh : M.hot = false := by simpa using h2.1
                have h2 := h2.2
                obtain ⟨c1, c2, c3, c4, c5, c6, c7⟩ := comp_parts hh (snd (M := M) (N := N) (k := k) (C := C) n) xo h2
                have := ss_setc (W := W) (py := px) (spos := pos) (xo.calm hh) nd so.ix hloc hw (c2 W tk) c1 c3 c4 c5 c6 c7
                have e2 : (ow.map fun i => (N.getD i Str.empty, i)).map (·.2) = ow := by
                  rw [List.map_map]
                  exact (List.map_congr_left fun _ _ => rfl).trans (List.map_id ow)
                rw [e2] at this
                exact this
            · cases h3
        · cases h3
        · cases h3
      · have hcm' : isComp v = false := by simpa using hcm
        exact ss_set nd so.ix so.loc he (sw_none hcm') so.fn
    · cases h
  · split at h
    · simp only [Bool.and_eq_true, Bool.not_eq_true'] at h
      obtain ⟨⟨⟨⟨hh, h1⟩, h2⟩, h3⟩, h4⟩ := h
      exact ss_unp (xo.calm hh) xo.hK nd (nms_ok xo (fun _ => x.fn) h1) (se.E X sc W xo tk _ _ h2) h3 h4
    · cases h
  · split at h
    · simp only [Bool.and_eq_true, Bool.not_eq_true', decide_eq_true_eq] at h
      obtain ⟨⟨⟨⟨⟨⟨⟨⟨⟨⟨⟨⟨hh, h1⟩, h2⟩, h3⟩, h4⟩, h5⟩, h6⟩, h7⟩, h8⟩, h9⟩, h10⟩, h11⟩, h12⟩ := h
      exact ss_par (xo.calm hh) nd (by rw [xo.hN]; exact h1) (by rw [xo.hN]; exact h2) h3 (by rw [xo.hs]; exact h4) (by rw [xo.hs]; exact h5) hk h6 h7 h8 h9 h10 (se.E X sc W xo tk _ _ h11) (se.E X sc W xo tk _ _ h12)
    · cases h
  · split at h
    · simp only [Bool.and_eq_true] at h
      obtain ⟨⟨⟨h1, h2⟩, h3⟩, h4⟩ := h
      obtain ⟨g1, g2, g3, g4⟩ := nm_ok xo h1
      exact ss_six hu g1 g2 g3 g4 (se.E X sc W xo tk _ _ h3) (se.E X sc W xo tk _ _ h4) h2
    · cases h
  · split at h
    · simp only [Bool.and_eq_true] at h
      obtain ⟨⟨⟨⟨⟨h1, h2⟩, h3⟩, h4⟩, h5⟩, h6⟩ := h
      obtain ⟨g1, g2, g3, g4⟩ := nm_ok xo h1
      obtain ⟨p1, p2⟩ := se.P X sc xo _ _ h5
      exact ss_six2 hu xo.hK g1 g2 g3 g4 (se.E X sc W xo tk _ _ h4) p1 p2 (se.E X sc W xo tk _ _ h6) h2 h3
    · cases h
  · split at h
    · simp only [Bool.and_eq_true, Bool.not_eq_true'] at h
      exact ss_exp (se.E X sc W xo tk _ _ h.2) (sw_none h.1)
    · cases h
  · split at h
    · exact ss_ret (se.E X sc W xo tk _ _ h)
    · cases h
  · split at h
    · obtain ⟨g1, g2, g3, g4⟩ := nm_ok xo h
      exact ss_rtv g1 g2 g3 g4
    · cases h
  · split at h
    · exact ss_ret0
    · cases h
  · split at h
    · simp only [Bool.and_eq_true] at h
      exact ss_ife (se.T X sc W xo tk _ _ h.1.1).1 (s.Ss X W C x _ _ h.1.2) (s.Ss X W C x _ _ h.2)
    · cases h
  · split at h
    · simp only [Bool.and_eq_true, Bool.not_eq_true'] at h
      obtain ⟨⟨⟨⟨hh, h1⟩, h2⟩, h3⟩, h4⟩ := h
      exact ss_fo x.pas (xo.calm hh) (se.I X sc W xo tk _ _ h3 _) ((tg_ok xo (fun _ => x.fn) h1).pg (xo.calm hh) xo.hK nd) (s.Ss X W _ x.lock _ _ h4) (notSet_ok h2)
    · cases h
  · split at h
    · simp only [Bool.and_eq_true] at h
      exact ss_wh x.pas (se.T X sc W xo tk _ _ h.1).1 (s.Ss X W C x _ _ h.2)
    · cases h
  · split at h
    · exact ss_pass
    · cases h
  · split at h
    · exact ss_cnt
    · cases h
  · split at h
    · exact ss_brk
    · cases h
  · split at h
    · rename_i y py e p1 p2
      simp only [Bool.and_eq_true, Bool.not_eq_true', decide_eq_true_eq] at h
      obtain ⟨⟨⟨⟨⟨hh, h1⟩, h2⟩, h3⟩, h4⟩, h5⟩ := h
      unfold plainN at h2
      simp only [Bool.and_eq_true, Bool.not_eq_true'] at h2
      exact mk_rai tk (xo.calm hh) (xo.rai hh _ _ _ h3) (glC_ok (by rw [xo.hs]; exact h1)) (se.V X sc W xo tk _ _ h5) (star_cons h4 _) h2.1
    · cases h
  · split at h
    · rename_i body y py z b₀ suite p1 p2
      simp only [Bool.and_eq_true, Bool.not_eq_true', decide_eq_true_eq] at h
      obtain ⟨⟨⟨⟨⟨⟨⟨hh, h1⟩, h2⟩, h3⟩, h4⟩, h5⟩, h6⟩, h7⟩ := h
      unfold plainN at h2
      simp only [Bool.and_eq_true, Bool.not_eq_true'] at h2
      obtain ⟨v, u, g1, g2, g3, g4⟩ := (xo.sta.cls _ _ h3).ex
      exact ss_try (x.stk hh).1 (x.stk hh).2 nd (by rw [xo.hN]; exact h4) (by show X.env.scope.names.lookup z = _; rw [xo.hs]; exact h5) ⟨glC_ok (by rw [xo.hs]; exact h1), h2.1, g3⟩ (by rw [xo.hK]; exact g4) tk (xo.nex hh) xo.sta.glc
        (fun W' pn xe tk' hp => s.Ss _ _ _ (x.tr hh tk' hp) _ _ h6) (fun a oe cls d pn hz hf => (sh _).Ss _ _ _ (x.suite hh hz hf) _ _ h7)
    · cases h
  · exact ⟨fun pins s σ H D I ⟨env, fo, R, ok, o⟩ => (by unfold PL.evS at o; exact o.elim)⟩
  · cases h
theorem sndSs_succ (s : SndS M N sc k n) (x : XFn M N sc k C X W) (sts : List Stmt) (iss : ISs) (h : chkSs M N sc (n + 1) sts iss = true) : PSs X sts (tSs k W C iss) := by
  unfold chkSs at h
  split at h
  · cases sts with
    | nil => exact ss_nil
    | cons _ _ => cases h
  · split at h
    · rw [Bool.and_eq_true] at h
      exact ss_cons (s.S X W C x _ _ h.1) (s.Ss X W C x _ _ h.2)
    · cases h
end
theorem sndS {N : List Str} {sc : Scope} : ∀ (n : Nat) (M : Mc) (k : Kx), SndS M N sc k n
  | 0, M, k => ⟨fun _ _ _ _ st is h => (by unfold chkS at h; cases h), fun _ _ _ _ st is h => (by unfold chkSs at h; cases h)⟩
  | n + 1, M, k => ⟨fun X W C x st is h => sndS_succ (sndS n M k) (fun k' => sndS n M.toHot k') x st is h, fun X W C x st is h => sndSs_succ (sndS n M k) x st is h⟩
end LB

end
section
set_option Elab.async false
set_option linter.all false
set_option maxRecDepth 100000
set_option maxHeartbeats 4000000
/-! Layer B, v: a def keeps what the language says of it. -/
namespace LB
open PySem PySem.Spec PyProof.Rows L2
open PL (PV MV Txt IE IEs IT II IS ISs)
section
variable {M : Mc} {N : List Str} {sc : Scope} {X : Cx} {k : Kx} {W : WX} {C : PL.Ctx} {n : Nat} {R R' : Addr → Prop} {σ σ' : L2.St} {H H' : Hp} {own : Addr → Prop} {env env' : PL.Env} {fo fo' : Nat → List Addr}
theorem EnvOk.extN (e : EnvOk k R H env σ fo) : ∀ j : Nat, EnvOk k R H (env ++ List.replicate j none) (σ ++ List.replicate j none) fo
  | 0 => by simpa using e
  | j + 1 => by
    have := (EnvOk.extN e j).ext none
    rw [List.append_assoc, List.append_assoc] at this
    rw [List.replicate_succ' (a := (Option.none : Option MV)), List.replicate_succ' (a := (Option.none : Option V))]
    exact this
/-- nothing is told of the slots -/
theorem EnvOk.zero (e : EnvOk k R H env σ fo) (τ : L2.St) : EnvOk k R H (List.replicate τ.length none) τ fun _ => [] := by
  refine ⟨by simp, fun i m q => ?_, fun _ _ => rfl, fun _ => List.nodup_nil, fun _ _ _ h _ => (nomatch h), fun _ _ h => (nomatch h), e.al, e.gl⟩
  have : PL.Env.at (List.replicate τ.length none) i = none := by
    unfold PL.Env.at
    by_cases h : i < τ.length
    · rw [List.getElem?_replicate, if_pos h]
    · rw [List.getElem?_replicate, if_neg h]
  rw [this] at q
  cases q
theorem backE_at : ∀ {ms : List MV} {bs : List (Option MV)} {i : Nat} {m : MV}, PL.Env.at (backE ms bs) i = some m → (∃ m0, ms[i]? = some m0 ∧ ∀ v, m0 ≠ .p v) ∧ PL.Env.at bs i = some m
  | [], bs, i, m, h => by
    have : backE [] bs = [] := by cases bs <;> rfl
    rw [this] at h; cases i <;> cases h
  | m0 :: ms, [], i, m, h => by
    have : backE (m0 :: ms) [] = [] := by cases m0 <;> rfl
    rw [this] at h; cases i <;> cases h
  | m0 :: ms, b :: bs, 0, m, h => by
    cases m0 with
    | p v => cases h
    | l xs => exact ⟨⟨_, rfl, fun v z => nomatch z⟩, h⟩
    | d t ks vs => exact ⟨⟨_, rfl, fun v z => nomatch z⟩, h⟩
  | m0 :: ms, b :: bs, i + 1, m, h => by
    have h' : PL.Env.at (backE ms bs) i = some m := by
      cases m0 with
      | p v => exact h
      | l xs => exact h
      | d t ks vs => exact h
    obtain ⟨⟨m1, g1, g2⟩, g3⟩ := backE_at h'
    exact ⟨⟨m1, by simpa using g1, g2⟩, g3⟩
theorem backE_len : ∀ {ms : List MV} {bs : List (Option MV)}, ms.length ≤ bs.length → (backE ms bs).length = ms.length
  | [], bs, _ => by cases bs <;> rfl
  | m0 :: ms, [], h => by simp at h
  | m0 :: ms, b :: bs, h => by
    have := backE_len (ms := ms) (bs := bs) (by simpa using h)
    cases m0 <;> (show (backE ms bs).length + 1 = ms.length + 1; rw [this])
theorem lock_mem : ∀ {ms : List MV} {i j : Nat} {m : MV}, ms[i]? = some m → (∀ v, m ≠ .p v) → j + i ∈ PL.lockOf j ms
  | [], i, j, m, h, _ => by simp at h
  | m0 :: ms, 0, j, m, h, np => by
    simp at h
    subst h
    cases m0 with
    | p v => exact absurd rfl (np v)
    | l xs => exact List.mem_cons_self
    | d t ks vs => exact List.mem_cons_self
  | m0 :: ms, i + 1, j, m, h, np => by
    have := lock_mem (j := j + 1) (ms := ms) (i := i) (by simpa using h) np
    have e : j + (i + 1) = j + 1 + i := by omega
    rw [e]
    cases m0 with
    | p v => exact this
    | l xs => exact List.mem_cons_of_mem _ this
    | d t ks vs => exact List.mem_cons_of_mem _ this
/-- a def's end: what is told of the arguments -/
theorem PostV.args {ms : List MV} {vs : List V} {τ : L2.St} {v : MV} {x : V} (hl : ms.length = vs.length) (hτ : env'.length = (vs.map some ++ τ).length) (lk : Lk (PL.lockOf 0 ms) (vs.map some ++ τ) σ') (p : PostV k R σ' H own env' v x H') : PostV k R (vs.map some) H own (backE ms (env'.take ms.length)) v x H' := by
  obtain ⟨fo1, R1, O, a, r, t⟩ := p
  have e := a.ok
  let fo2 : Nat → List Addr := fun i => match PL.Env.at (backE ms (env'.take ms.length)) i with
    | some _ => fo1 i
    | none => []
  have sub : ∀ i c, c ∈ fo2 i → c ∈ fo1 i := fun i c h => by
    show c ∈ fo1 i
    have h : c ∈ (match PL.Env.at (backE ms (env'.take ms.length)) i with
      | some _ => fo1 i
      | none => []) := h
    split at h
    · exact h
    · cases h
  have dn : ∀ c, bn fo2 R1 c → bn fo1 R1 c := fun c z => z.imp (fun ⟨i, z⟩ => ⟨i, sub i c z⟩) id
  have hlen : (backE ms (env'.take ms.length)).length = (vs.map some).length := by
    rw [backE_len (by rw [List.length_take, hτ, List.length_append, List.length_map, hl]; omega), List.length_map, hl]
  refine ⟨fo2, R1, O, ⟨⟨hlen, fun i m q => ?_, fun i q => ?_, fun i => ?_, fun i j c ha hb => e.dj i j c (sub i c ha) (sub j c hb), fun i c ha => e.rs i c (sub i c ha), e.al, e.gl⟩, a.sub, ⟨a.tr.keep, fun c z => a.tr.new c (z.imp (fun ⟨i, z⟩ => ⟨i, sub i c z⟩) id)⟩⟩, r.ban dn, t⟩
  · have q0 := q
    obtain ⟨⟨m0, g1, g2⟩, g3⟩ := backE_at q
    have hi : i < ms.length := (List.getElem?_eq_some_iff.mp g1).1
    have g3' : env'.at i = some m := by
      unfold PL.Env.at at g3 ⊢
      rw [List.getElem?_take_of_lt hi] at g3
      exact g3
    obtain ⟨x', h1, r'⟩ := e.rep i m g3'
    have hm := lock_mem (j := 0) g1 g2
    rw [Nat.zero_add] at hm
    have h2 := lk.2 i hm
    rw [h1, List.getElem?_append_left (by rw [List.length_map, ← hl]; exact hi)] at h2
    refine ⟨x', h2.symm, ?_⟩
    have ef : fo2 i = fo1 i := by
      show (match PL.Env.at (backE ms (env'.take ms.length)) i with
        | some _ => fo1 i
        | none => []) = _
      rw [q0]
    rw [ef]
    exact r'.ban dn
  · show (match PL.Env.at (backE ms (env'.take ms.length)) i with
      | some _ => fo1 i
      | none => []) = []
    rw [q]
  · show (match PL.Env.at (backE ms (env'.take ms.length)) i with
      | some _ => fo1 i
      | none => []).Nodup
    split
    · exact e.nd i
    · exact List.nodup_nil
theorem PostX.args {vs : List V} {e : PV} {cls : Value} {d : Option Addr} {q : Nat} (hq : q = vs.length) (p : PostX k R σ' H own env' e cls d H') : PostX k R (vs.map some) H own (List.replicate q none) e cls d H' := by
  obtain ⟨fo1, a, c, f, w, A, e1, e2, e3, r⟩ := p
  have en := a.ok.zero (vs.map some)
  rw [List.length_map, ← hq] at en
  refine ⟨fun _ => [], ⟨en, a.sub, ⟨a.tr.keep, fun c z => ?_⟩⟩, c, f, w, A, e1, e2, e3, r.imp id fun ⟨dd, y, h1, h2, h3⟩ => ⟨dd, y, h1, h2, h3.ban fun c z => ?_⟩⟩
  · rcases z with ⟨_, z⟩ | z
    · cases z
    · exact absurd z.1 z.2
  · rcases z with ⟨_, z⟩ | z
    · cases z
    · exact .inr z
/-- the promise, from the reading of the body -/
theorem run_def {T : List PL.Def} {par : List (Txt × Txt)} {L m f : Nat} {d : PL.Def} (hT : T[f]? = some d) {vs : List V} {H : Hp} {Q : VK} {E : XK} (h : spF k (PL.callF T par L (m + 1)) f vs H Q E) :
    vs.length = d.np ∧ ∀ j, d.nl = d.np + j → ∃ lock, tSs k (fun cls dd _ H => E cls dd H) ⟨PL.callF T par L m, L, lock, par⟩ d.body { nx := fun _ H' => Q .non H', rt := Q } (vs.map some ++ List.replicate j none) H := by
  obtain ⟨R, ms, fo, ok, h⟩ := h
  have hl : ms.length = vs.length := by
    have := ok.len
    simpa using this
  have key : PL.callF T par L (m + 1) f ms = PL.runDef ⟨PL.callF T par L m, L, [], par⟩ d ms := by
    conv => lhs; unfold PL.callF
    rw [hT]
  rw [key] at h
  unfold PL.runDef at h
  by_cases hnp : ms.length = d.np
  · rw [if_pos hnp] at h
    refine ⟨by omega, fun j hj => ⟨PL.lockOf 0 ms, ms.map some ++ List.replicate j none, fo, R, ok.extN j, ?_⟩⟩
    have ej : d.nl - d.np = j := by omega
    rw [ej] at h
    cases hr : PL.evSs ⟨PL.callF T par L m, L, PL.lockOf 0 ms, par⟩ d.body (ms.map some ++ List.replicate j none) with
    | bad => rw [hr] at h; exact h.elim
    | ex e ε =>
      rw [hr] at h
      intro σ' cls dd H' _ p
      exact h cls dd H' (p.args hl)
    | ok fl ε =>
      rw [hr] at h
      cases fl with
      | bk => exact h.elim
      | ct => exact h.elim
      | nx =>
        intro σ' H' ⟨lk, fo', a⟩
        refine h .non H' ?_
        rw [← hnp]
        exact PostV.args hl (by rw [a.ok.len, lk.1]) lk (.pure a rfl)
      | rt v =>
        intro x H' ⟨σ', lk, p⟩
        refine h x H' ?_
        rw [← hnp]
        have p0 := p
        obtain ⟨fo', R', O, a, _, _⟩ := p0
        exact PostV.args hl (by rw [a.ok.len, lk.1]) lk p
  · rw [if_neg hnp] at h
    exact h.elim
end
end LB

end
section
set_option Elab.async false
set_option linter.all false
set_option maxRecDepth 100000
set_option maxHeartbeats 4000000
/-! Layer B, w: all defs of the module, one behind another. -/
namespace LB
open PySem PySem.Spec PyProof.Rows L2
open PL (PV MV Txt IE IEs IT II IS ISs)
/-- the module's other names -/
structure Md (P : Program) (w : World) (base : Heap) (M : Mc) (k : Kx) (par : List (Txt × Txt)) (mg : Str → Option Value) : Prop where
  gls : ∀ x v, (x, v) ∈ M.gls → ∃ y u, mg x = some u ∧ RelV y u ∧ (y, v) ∈ k.gl
  bts : ∀ x : String, x ∈ ["len", "abs", "min", "max", "sum", "all", "any", "int", "str", "tuple", "list", "bool", "isinstance", "range", "repr"] → mg (Str.ofString x) = none
  gcd : M.gcd = true → mg "gcd" = some (.builtin "math.gcd")
  sta : Sta M k par mg
  nex : ∀ a c d, ¬ k.ex a c d
  nhot : M.hot = false
  exs : ∀ x c f, (x, c, f) ∈ M.exs → ∃ (Cl fI : Addr) (fd : FuncData) (n0 n1 : Str) (ta : TA), OexC k.K Cl ∧ PySem.W.findIn k.K (.ref Cl) "__init__" = some (some (.ref fI)) ∧ PySem.W.typeIn k.K (.ref fI) = some (.type "function") ∧
    FnOk P w k.K mg base (L2N.CX P w) 1 fI fd [n0, n1] (spX Cl (strOf f) ta) ∧ Binds k.K fd [n0, n1] [] ∧ mg x = some (.ref Cl) ∧ k.cl c = some Cl ∧ TaOk f ta ∧ f ≠ []
/-- a def of the module, as it stands: its address -/
structure FnAt (K : PySem.W.Frag) (mg : Str → Option Value) (x : Str) (N ps : List Str) (body : List Stmt) (scope : Scope) : Prop where
  ex : ∃ fa fd qual params, FunD K x qual params body scope [] [] fa fd ∧ mg x = some (.ref fa) ∧ Binds K fd ps [] ∧ PySem.W.keepIn K (.ref fa) = true
  sc : FnScope N ps scope
/-- what the functions of level m keep -/
structure LevelOk (P : Program) (w : World) (mg : Str → Option Value) (base : Heap) (M : Mc) (k : Kx) (T : List PL.Def) (par : List (Txt × Txt)) (L m : Nat) : Prop where
  fn : ∀ x f, (x, f) ∈ M.fns → ∃ fa fd ps, FnG P w k.K mg base (L2N.CX P w) (m + 3) fa fd ps (spF k (PL.callF T par L m) f) ∧ mg x = some (.ref fa) ∧ PySem.W.keepIn k.K (.ref fa) = true ∧ Binds k.K fd ps []
  hot : ∀ (a : Addr) (oe : Obj) (cls : Value) (d : Option Addr), L2N.Zn cls d oe → (∃ vs, oe.data = .fields vs) → ∀ x f, (x, f) ∈ M.hfns →
    ∃ fa fd ps, FnP (a, oe) P w k.K mg base (L2N.CX P w) (m + 3) fa fd ps (spF (k.hot a cls d) (PL.callF T par L m) f) ∧ mg x = some (.ref fa) ∧ PySem.W.keepIn k.K (.ref fa) = true ∧ Binds k.K fd ps []
/-- a def checked: its names, its parameters, its tree -/
structure DefC (M : Mc) (K : PySem.W.Frag) (mg : Str → Option Value) (T : List PL.Def) (x : Str) (f : Nat) : Prop where
  ex : ∃ N ps body scope d n, FnAt K mg x N ps body scope ∧ T[f]? = some d ∧ ps.length = d.np ∧ N.length = d.nl ∧ d.np ≤ d.nl ∧ chkSs M N scope n body d.body = true
section
variable {P : Program} {w : World} {mg : Str → Option Value} {base : Heap} {M : Mc} {k : Kx} {T : List PL.Def} {par : List (Txt × Txt)} {L m : Nat}
theorem level_zero (h : ∀ x f, (x, f) ∈ M.fns → DefC M k.K mg T x f) (h2 : ∀ x f, (x, f) ∈ M.hfns → DefC M.toHot k.K mg T x f) : LevelOk P w mg base M k T par L 0 := by
  refine ⟨fun x f hx => ?_, fun a oe cls d _ _ x f hx => ?_⟩
  · obtain ⟨N, ps, body, scope, d, n, fat, _⟩ := (h x f hx).ex
    obtain ⟨fa, fd, qual, params, F, hm, hb, hk⟩ := fat.ex
    refine ⟨fa, fd, ps, ⟨fun vs H Q E z => ?_, fun A outer s H args us vs Q E _ _ _ _ z => ?_⟩, hm, hk, hb⟩
    · obtain ⟨R, ms, fo, _, z⟩ := z
      exact z.elim
    · obtain ⟨R, ms, fo, _, z⟩ := z
      exact z.elim
  · obtain ⟨N, ps, body, scope, d, n, fat, _⟩ := (h2 x f hx).ex
    obtain ⟨fa, fd, qual, params, F, hm, hb, hk⟩ := fat.ex
    refine ⟨fa, fd, ps, ⟨fun vs H Q E z => ?_, fun A outer s H args us vs Q E _ _ _ _ _ _ z => ?_⟩, hm, hk, hb⟩
    · obtain ⟨R, ms, fo, _, z⟩ := z
      exact z.elim
    · obtain ⟨R, ms, fo, _, z⟩ := z
      exact z.elim
theorem Md.hot (md : Md P w base M k par mg) (a : Addr) (cls : Value) (d : Option Addr) : Sta M.toHot (k.hot a cls d) par mg :=
  ⟨md.sta.exk, md.sta.fld, fun y D h => (by
    obtain ⟨v, u, g1, g2, g3, g4⟩ := (md.sta.cls y D h).ex
    exact ⟨v, u, ⟨g1.cv, g1.kit⟩, g2, g3, g4⟩), md.sta.glc⟩
theorem level_one (md : Md P w base M k par mg) (lv : LevelOk P w mg base M k T par L m) {x qual : Str} {f fa : Addr} {fd : FuncData} {params : Arguments} {N ps : List Str} {body : List Stmt} {scope : Scope} {d : PL.Def} {n : Nat} (F : FunD k.K x qual params body scope [] [] fa fd) (S : FnScope N ps scope) (hT : T[f]? = some d) (hps : ps.length = d.np) (hN : N.length = d.nl) (hle : d.np ≤ d.nl) (chk : chkSs M N scope n body d.body = true) :
    FnG P w k.K mg base (L2N.CX P w) (m + 1 + 3) fa fd ps (spF k (PL.callF T par L (m + 1)) f) := by
    refine FunD.okG (N := N) F S (fun vs H Q E z => ?_) fun cdv A outer s H vs Q E hr z => ?_
    · rw [(run_def hT z).1, hps]
    · obtain ⟨h1, h2⟩ := run_def hT z
      obtain ⟨lock, h3⟩ := h2 (d.nl - d.np) (by omega)
      refine ⟨_, (sndS (N := N) (sc := scope) n M k).Ss _ (fun cls dd _ H => E cls dd H) ⟨PL.callF T par L m, L, lock, par⟩ ⟨⟨rfl, S.nd, rfl, rfl, fun _ => rfl, hr.r.units, fun _ => hr.g, fun y g hy => ?_, md.gls, md.bts, md.gcd, md.sta, fun _ => md.nex, fun a c d z => absurd z (md.nex a c d), fun _ y c f hy => ?_⟩, L2N.takes_of rfl rfl rfl rfl, passes_of rfl, fun _ => rfl, S.kind, fun _ => ⟨rfl, rfl⟩, fun _ a oe cls d hz hf y g hy => ?_⟩ body d.body chk, ?_⟩
      · obtain ⟨fa', fd', ps', F', m1, m2, m3⟩ := lv.fn y g hy
        exact ⟨m + 3, fa', fd', ps', .inl ⟨md.nhot, F', hr⟩, m1, m2, m3⟩
      · obtain ⟨Cl, fI, fd', n0, n1, ta, e1, e2, e3, e4, e5, e6, e7, e8, e9⟩ := md.exs y c f hy
        exact ⟨Cl, fI, fd', n0, n1, 1, ta, e1, e2, e3, e4, hr.r.mono (by omega), e5, e6, e7, e8, e9⟩
      · obtain ⟨fa', fd', ps', F', m1, m2, m3⟩ := lv.hot a oe cls d hz hf y g hy
        exact ⟨m + 3, fa', fd', ps', F', L2H.roomH_of hr.r, m1, m2, m3⟩
      · have e : start N vs = vs.map some ++ List.replicate (d.nl - d.np) none := by
          unfold L2.start
          rw [hN, h1]
        rw [e]
        exact h3
theorem level_succ (md : Md P w base M k par mg) (h : ∀ x f, (x, f) ∈ M.fns → DefC M k.K mg T x f) (h2 : ∀ x f, (x, f) ∈ M.hfns → DefC M.toHot k.K mg T x f) (lv : LevelOk P w mg base M k T par L m) : LevelOk P w mg base M k T par L (m + 1) := by
  refine ⟨fun x f hx => ?_, fun a oe cls dd hz hf x f hx => ?_⟩
  · obtain ⟨N, ps, body, scope, d, n, fat, hT, hps, hN, hle, chk⟩ := (h x f hx).ex
    obtain ⟨fa, fd, qual, params, F, hm, hb, hk⟩ := fat.ex
    exact ⟨fa, fd, ps, level_one md lv F fat.sc hT hps hN hle chk, hm, hk, hb⟩
  · obtain ⟨N, ps, body, scope, d, n, fat, hT, hps, hN, hle, chk⟩ := (h2 x f hx).ex
    obtain ⟨fa, fd, qual, params, F, hm, hb, hk⟩ := fat.ex
    have S := fat.sc
    refine ⟨fa, fd, ps, FunD.okP (N := N) F S (fun vs H Q E z => ?_) fun cdv A outer s H vs Q E hot hr z => ?_, hm, hk, hb⟩
    · rw [(run_def hT z).1, hps]
    · obtain ⟨h1, h2⟩ := run_def hT z
      obtain ⟨lock, h3⟩ := h2 (d.nl - d.np) (by omega)
      have hun : ∀ U : Nat, U + 16 * (m + 3) + 200 < cLine → U + 64 < cLine := fun U h => by omega
      have hA : (A.deeper (envOfC qual scope s.heap.objs.size fa cdv)).units + 64 < cLine := by
        have := hr.un
        generalize (A.deeper (envOfC qual scope s.heap.objs.size fa cdv)).units = U at this ⊢
        exact hun U this
      have xo : XOk M.toHot N scope (k.hot a cls dd) ⟨PL.callF T par L m, L, lock, par⟩ (L2H.cxH (L2N.CX P w) P w k.K mg base N qual scope fa cdv A outer s H E (a, oe)) := by
        refine ⟨rfl, S.nd, rfl, rfl, fun z => (nomatch z), hA, fun z => (nomatch z), fun y g hy => ?_, md.gls, md.bts, md.gcd, md.hot a cls dd, fun z => (nomatch z), fun a' c' d' z => ?_, fun z => (nomatch z)⟩
        · obtain ⟨fa', fd', ps', F', m1, m2, m3⟩ := lv.hot a oe cls dd hz hf y g hy
          exact ⟨m + 3, fa', fd', ps', .inr ⟨(a, oe), rfl, F', hr, hot, List.mem_cons_self⟩, m1, m2, m3⟩
        · obtain ⟨rfl, rfl, A, g1, g2⟩ := z
          exact ⟨oe, A, List.mem_cons_self, g1, hz.1.trans g2, hz.2.1, hf⟩
      have e : start N vs = vs.map some ++ List.replicate (d.nl - d.np) none := by
        unfold L2.start
        rw [hN, h1]
      refine ⟨_, (sndS (N := N) (sc := scope) n M.toHot (k.hot a cls dd)).Ss _ (fun cls dd _ H => E cls dd H) _ ⟨xo, L2N.takes_of rfl rfl rfl rfl, passes_of rfl, fun _ => rfl, S.kind, fun z => (nomatch z), fun z => (nomatch z)⟩ body d.body chk, ?_⟩
      rw [e]
      exact h3
theorem levels (md : Md P w base M k par mg) (h : ∀ x f, (x, f) ∈ M.fns → DefC M k.K mg T x f) (h2 : ∀ x f, (x, f) ∈ M.hfns → DefC M.toHot k.K mg T x f) : ∀ m, LevelOk P w mg base M k T par L m
  | 0 => level_zero h h2
  | m + 1 => level_succ md h h2 (levels md h h2 m)
end
end LB

end
section
set_option Elab.async false
set_option linter.all false
set_option maxRecDepth 100000
set_option maxHeartbeats 4000000
/-! Layer B, Z0: what is looked at behind the top, by one Boolean, and what follows. -/
namespace LB
open PySem PySem.Spec PyProof.Rows L2
open PL (PV MV Txt IE IEs IT II IS ISs)
open He (ga ma eqO eqO_ok ba)
/-- an error's class that is raised, and its __init__ -/
structure XD where
  nm : Str
  tx : Txt
  fl : Txt
  qual : Str
  params : Arguments
  body : List Stmt
  scope : Scope
def iAd (K : PySem.W.Frag) (x : Str) : Addr := ma K (ga K x) "__init__"
def oexB (K : PySem.W.Frag) (C : Addr) : Bool := (match K.lookup C with
  | some ⟨.type "type", _, .cls cd, sl⟩ => (match cd.mro, sl.toList with
    | .ref C' :: bm, [_, _, _, _, some (.builtin n), _] => C' == C && n == "ValueError.__new__" && !cd.hasDel && cd.hasDict && PySem.HandSPX.refsVE bm
    | _, _ => false)
  | _ => false) && (eqO (PySem.W.findIn K (.ref C) "__setattr__") (some (some (.builtin "object.__setattr__"))) && (decide (PySem.W.subIn K (.ref C) (.type "BaseException") = some true) && (decide (PySem.W.typeIn K (.ref C) = some (.type "type")) && PySem.W.keepIn K (.ref C))))
theorem oexB_ok {K : PySem.W.Frag} {C : Addr} (h : oexB K C = true) : OexC K C := by
  obtain ⟨q, h⟩ := ba h
  obtain ⟨h1, h⟩ := ba h
  obtain ⟨h2, h⟩ := ba h
  obtain ⟨h3, h4⟩ := ba h
  refine ⟨?_, eqO_ok h1, of_decide_eq_true h2, of_decide_eq_true h3, h4⟩
  split at q
  · rename_i dd cd sl ho
    split at q
    · rename_i C' bm k0 k1 k2 k3 n k5 hm hs
      simp only [Bool.and_eq_true, beq_iff_eq, Bool.not_eq_true'] at q
      obtain ⟨⟨⟨⟨rfl, rfl⟩, hdel⟩, hdt⟩, ht⟩ := q
      obtain ⟨nm, bs, mro, ns, qn, hd, sn, sub, ab, col, del⟩ := cd
      dsimp only at hm hdel hdt
      subst hm hdel hdt
      have hsl : sl = #[k0, k1, k2, k3, some (.builtin "ValueError.__new__"), k5] := by
        obtain ⟨l⟩ := sl
        simp only at hs
        rw [hs]
      subst hsl
      exact ⟨nm, qn, ns, bs, bm, sn, sub, ab, col, dd, k0, k1, k2, k3, k5, ho, ht⟩
    · cases q
  · cases q
def exkB (K : PySem.W.Frag) (C : Addr) : Bool := (PySem.W.clsIn K C).isSome && (xfB K C && (eqO (PySem.W.findIn K (.ref C) "__class__") (some (some (.builtin "object.__class__"))) && (decide (PySem.W.mroIn K C (.type "object") = some true) &&
  (eqO (PySem.W.specialIn K (.builtin "object.__class__") "__get__") (some (some (.builtin "getset_descriptor.__get__"))) && decide (PySem.W.takesIn K (.builtin "object.__class__") = some true)))))
theorem exkB_ok {K : PySem.W.Frag} {C : Addr} (h : exkB K C = true) : ExK K C := by
  obtain ⟨h1, h⟩ := ba h
  obtain ⟨h2, h⟩ := ba h
  obtain ⟨h3, h⟩ := ba h
  obtain ⟨h4, h⟩ := ba h
  obtain ⟨h5, h6⟩ := ba h
  exact ⟨h1, xfB_ok h2, eqO_ok h3, of_decide_eq_true h4, eqO_ok h5, of_decide_eq_true h6⟩
/-- the classes' addresses -/
def clF (K : PySem.W.Frag) (cl : List (Str × Txt)) (c : Txt) : Option Addr := (cl.find? fun q => decide (q.2 = c)).map fun q => ga K q.1
theorem clF_mem {K : PySem.W.Frag} {cl : List (Str × Txt)} {c : Txt} {A : Addr} (h : clF K cl c = some A) : ∃ q ∈ cl, q.2 = c ∧ ga K q.1 = A := by
  unfold clF at h
  cases e : cl.find? (fun q => decide (q.2 = c)) with
  | none => rw [e] at h; cases h
  | some q =>
    rw [e] at h
    exact ⟨q, List.mem_of_find?_eq_some e, by simpa using List.find?_some e, Option.some.inj h⟩
/-- one name of a class: what it stands for -/
def clU (K : PySem.W.Frag) (own : Bool) (y : Str) (ty : String) : Value := if own then .ref (ga K y) else .type ty
/-- a module's constant -/
def dvP : PV → Option He.Dv
  | .int i => some (.int i)
  | .str s => some (.str (strOf s))
  | _ => none
def dvPs : List PV → Option (List He.Dv)
  | [] => some []
  | p :: r => match dvP p, dvPs r with
    | some a, some b => some (a :: b)
    | _, _ => none
def glB (K : PySem.W.Frag) (x : Str) : PV → Bool
  | .tup true l => (match dvPs l with
    | some ds => He.tupB K x ds && He.Fa.ok K (.glo x)
    | none => false)
  | .int i => He.Fa.ok K (.int x i)
  | .str s => He.Fa.ok K (.str x (strOf s))
  | _ => false
def glV (K : PySem.W.Frag) (x : Str) : PV → V
  | .int i => .int i
  | .str s => .str (strOf s)
  | _ => .ref (ga K x)
theorem dvPs_rep {k : Kx} {H : Hp} {B : Addr → Prop} {K : PySem.W.Frag} : ∀ {l : List PV} {ds : List He.Dv}, dvPs l = some ds → RepPs k H B l (ds.map (He.Dv.v K))
  | [], ds, h => by cases h; rfl
  | p :: r, ds, h => by
    unfold dvPs at h
    cases e1 : dvP p with
    | none => rw [e1] at h; cases h
    | some a =>
      cases e2 : dvPs r with
      | none => rw [e1, e2] at h; cases h
      | some b =>
        rw [e1, e2] at h
        cases h
        refine ⟨_, _, rfl, ?_, dvPs_rep e2⟩
        cases p <;> cases e1 <;> rfl
theorem glB_rep {k : Kx} {H : Hp} {x : Str} {v : PV} (h : glB k.K x v = true) : RepP k H (fun _ => True) v (glV k.K x v) := by
  unfold glB at h
  split at h
  · rename_i l
    split at h
    · rename_i ds hd
      exact ⟨_, _, rfl, He.tupB_ok (ba h).1 H, fun z => (nomatch z), dvPs_rep hd⟩
    · cases h
  · rfl
  · rfl
  · cases h
theorem glB_val {K : PySem.W.Frag} {hp : Heap} {mg : Str → Option Value} (X : K.In hp) (G : hp.Ns mainGlobals mg) {x : Str} {v : PV} (h : glB K x v = true) : ∃ u, mg x = some u ∧ RelV (glV K x v) u := by
  unfold glB at h
  split at h
  · split at h
    · exact ⟨_, He.glo_ok X G (ba h).2, rfl⟩
    · cases h
  · obtain ⟨t, e⟩ := He.int_ok X G h
    exact ⟨_, e, t, rfl⟩
  · obtain ⟨t, e⟩ := He.str_ok X G h
    exact ⟨_, e, t, rfl⟩
  · cases h
/-- the raised class d: its __init__ -/
def xsB (P : Program) (K : PySem.W.Frag) (d : XD) : Bool := (match K.lookup (iAd K d.nm) with
  | some ⟨_, _, .func fd, _⟩ => (match fd.code with
    | .ref cda => PySem.W.codeIn K fd.code d.qual && (match K.lookup cda with
      | some ⟨_, _, .fields vs, _⟩ => (match (vs[2]? : Option Value) with
        | some (Value.str file _) => (P.main.file : Str) == file
        | _ => false)
      | _ => false)
    | _ => false) && (match fd.defaults with
      | .none => true
      | _ => false) && (match fd.closure with
      | [(n, cc)] => (match K.lookup cc with
        | some ⟨_, _, .cell (some (.ref C')), _⟩ => decide (C' = ga K d.nm)
        | _ => false)
      | _ => false)
  | _ => false) && (eqO (PySem.W.findIn K (.ref (ga K d.nm)) "__init__") (some (some (.ref (iAd K d.nm)))) && (decide (PySem.W.typeIn K (.ref (iAd K d.nm)) = some (.type "function")) && (decide (PySem.W.mroIn K (ga K d.nm) (.ref (ga K d.nm)) = some true) &&
  (eqO (PySem.W.nsIn K cStatics "thirdparty.any") (some none) && (eqO (PySem.W.ks_superIn K (ga K d.nm) (ga K d.nm) "__init__") (some (some (.builtin "ValueError.__init__"))) && (decide (PySem.W.subIn K (.ref (ga K d.nm)) (.type "ValueError") = some true) &&
  (oexB K (ga K d.nm) && eqO (PySem.W.findIn K (.ref (ga K d.nm)) (strOf d.fl)) (some none))))))))
abbrev FnI : Type := Option (Str × Str × Arguments × FuncBody × Scope × Addr × List Str × Addr)
def iW (K : PySem.W.Frag) (d : XD) : FnI := match K.lookup (iAd K d.nm) with
  | some ⟨_, _, .func fd, _⟩ => some (fd.name, fd.qualname, fd.params, fd.body, fd.scope, fd.globals, fd.closure.map (·.1), fd.builtins)
  | _ => none
def XD.val (d : XD) : FnI := some ("__init__", d.qual, d.params, .stmts d.body, d.scope, mainGlobals, ["__class__"], builtinsNs)
/-- a def, as the text has it -/
structure FD where
  nm : Str
  params : Arguments
  body : List Stmt
  scope : Scope
def FD.d (q : FD) : He.DefD := ⟨(q.nm, none), q.nm, q.nm, q.params, q.body, q.scope, [], []⟩
/-- what is put in -/
structure HI where
  fns : List FD
  cl : List (Str × Txt)
  par : List (Txt × Txt)
  flds : List Txt
  gls : List (Str × PV)
  xds : List XD
  free : List Str
def kitB (K : PySem.W.Frag) (par : List (Txt × Txt)) (cl : List (Str × Txt)) (u : Value) (D : Txt) : Bool := cl.all fun q => decide (PySem.W.kitOne K (.ref (ga K q.1)) u = some (PL.isSub par 8 q.2 D)) && decide (PySem.W.exmOne K (.ref (ga K q.1)) u = some (PL.isSub par 8 q.2 D))
def veTx : Txt := [86, 97, 108, 117, 101, 69, 114, 114, 111, 114]
def okL (P : Program) (h : HI) (K : PySem.W.Frag) : Bool := (h.fns.all fun d => d.d.ok K && He.Fa.ok K (.glo d.nm)) && ((h.free.all fun x => He.Fa.ok K (.free x)) && ((h.gls.all fun q => glB K q.1 q.2) && ((h.cl.all fun q => He.Fa.ok K (.glo q.1) && exkB K (ga K q.1) && (h.flds.all fun f => eqO (PySem.W.findIn K (.ref (ga K q.1)) (strOf f)) (some none))) &&
  ((h.cl.all fun q => kitB K h.par h.cl (.ref (ga K q.1)) q.2) && (kitB K h.par h.cl (.type "ValueError") veTx && ((h.xds.all fun d => xsB P K d) && eqO (PySem.W.nsIn K mainGlobals "gcd") (some (some (.builtin "math.gcd")))))))))
abbrev AlL : Type := Bool × List He.FnW × List FnI
def obsK (P : Program) (h : HI) (K : PySem.W.Frag) : AlL := (okL P h K, h.fns.map fun d => He.fnW K d.d.at_, h.xds.map fun d => iW K d)
def valL (h : HI) : AlL := (true, h.fns.map fun d => d.d.val, h.xds.map XD.val)
def asL (g : Addr → Option Obj) : Nat → List Addr
  | 0 => [mainGlobals, cStatics]
  | n + 1 => He.growD g (asL g n)
def obsLG (P : Program) (n : Nat) (h : HI) (g : Addr → Option Obj) : AlL := obsK P h (He.frG g (asL g n))
def SaysL (P : Program) (h : HI) (K : PySem.W.Frag) : Prop := obsK P h K = valL h
def hookL (P : Program) (n : Nat) (h : HI) : PySem.W.Hook where
  α := AlL
  obs := fun s => obsLG P n h s.heap.get?
  val := fun _ => valL h
  says := fun _ hp => ∃ K : PySem.W.Frag, K.In hp ∧ SaysL P h K
  of := fun _ _ e => ⟨_, He.frG_in, e⟩
  keeps := fun _ _ _ ⟨K, hK, c⟩ k => ⟨K, PySem.W.Frag.In.keeps hK k, c⟩
theorem obsLG_eq {P : Program} {n : Nat} {h : HI} {g : Addr → Option Obj} {s : Shared} (e : ∀ a, g a = s.heap.get? a) : obsLG P n h g = (hookL P n h).obs s := by
  have e : g = s.heap.get? := funext e
  rw [e] <;> rfl
end LB

end
section
set_option Elab.async false
set_option linter.all false
set_option maxRecDepth 100000
set_option maxHeartbeats 4000000
/-! Layer B, Z1: the facts behind the top, for the defs. -/
namespace LB
open PySem PySem.Spec PyProof.Rows L2
open PL (PV MV Txt IE IEs IT II IS ISs)
open He (ga ma eqO eqO_ok ba)
theorem lk_zip : ∀ {ps : List Str} {us : List Value}, ps.Nodup → us.length = ps.length → ∀ {qs : List Str} {vs : List Value}, (∀ x ∈ ps, x ∉ qs) → vs.length = qs.length → ps.filterMap (fun n => ((qs.zip vs ++ ps.zip us).lookup n).map (n, ·)) = ps.zip us
  | [], us, _, _, _, _, _, _ => rfl
  | p :: ps, [], _, h, _, _, _, _ => by cases h
  | p :: ps, u :: us, nd, h, qs, vs, hq, hv => by
    have nq : ∀ {qs : List Str} {vs : List Value} {t : List (Str × Value)} {x : Str}, x ∉ qs → (qs.zip vs ++ t).lookup x = t.lookup x := by
      intro qs
      induction qs with
      | nil => intro vs t x _; cases vs <;> rfl
      | cons q qs ih =>
        intro vs t x hx
        cases vs with
        | nil => rfl
        | cons v vs =>
          rw [List.zip_cons_cons, List.cons_append, List.lookup_cons]
          have : (x == q) = false := by simpa using fun e => hx (by rw [e]; exact List.mem_cons_self)
          rw [this]
          exact ih fun z => hx (List.mem_cons_of_mem _ z)
    obtain ⟨n1, n2⟩ := List.nodup_cons.mp nd
    rw [List.filterMap_cons, nq (hq p List.mem_cons_self)]
    have : List.lookup p ((p :: ps).zip (u :: us)) = some u := by simp [List.lookup]
    rw [this]
    show (p, u) :: _ = (p, u) :: _
    congr 1
    have e := lk_zip (ps := ps) (us := us) n2 (by simpa using h) (qs := qs ++ [p]) (vs := vs ++ [u]) (fun x hx z => by
      rcases List.mem_append.mp z with z | z
      · exact hq x (List.mem_cons_of_mem _ hx) z
      · have : x = p := by simpa using z
        exact n1 (this ▸ hx)) (by simp [hv])
    have e2 : (qs ++ [p]).zip (vs ++ [u]) ++ ps.zip us = qs.zip vs ++ (p :: ps).zip (u :: us) := by
      rw [List.zip_append hv.symm]; simp
    rw [e2] at e
    exact e
theorem bind_plain {fd : FuncData} {as : List Arg} (hp : fd.params = ⟨[], as, none, [], [], none, []⟩) (hd : fd.defaults = .none) (nd : (as.map (·.arg)).Nodup) {us : List Value} (hl : us.length = (as.map (·.arg)).length) : bindArgs fd ⟨us, []⟩ = pure ((as.map (·.arg)).zip us) := by
  obtain ⟨n1, n2, n3, n4, n5, n6, n7, n8, n9, n10, n11, n12, n13, n14, n15⟩ := fd
  subst hp hd
  have key := lk_zip nd hl (qs := []) (vs := []) (fun _ _ z => nomatch z) rfl
  have e0 : (([] : List Str).zip ([] : List Value) ++ (as.map (·.arg)).zip us) = (as.map (·.arg)).zip us := rfl
  rw [e0] at key
  have g : decide (us.length > (as.map (·.arg)).length) = false := by rw [hl]; simp
  have mis : ((as.map (·.arg)).take ((as.map (·.arg)).length - 0)).filter (fun n => (((as.map (·.arg)).zip us).lookup n).isNone) = [] := by
    rw [Nat.sub_zero, List.take_length, List.filter_eq_nil_iff]
    intro x hx
    have : ((as.map (·.arg)).zip us).lookup x ≠ none := fun z => by
      have h2 := congrArg List.length key
      have : ((as.map (·.arg)).filterMap (fun n => (((as.map (·.arg)).zip us).lookup n).map (n, ·))).length < (as.map (·.arg)).length := by
        have : ∀ (l : List Str), x ∈ l → (l.filterMap (fun n => (((as.map (·.arg)).zip us).lookup n).map (n, ·))).length < l.length := by
          intro l
          induction l with
          | nil => intro h; cases h
          | cons y l ih =>
            intro h
            rw [List.filterMap_cons]
            rcases List.mem_cons.mp h with rfl | h
            · rw [z]; exact Nat.lt_succ_of_le (List.length_filterMap_le _ _)
            · cases (((as.map (·.arg)).zip us).lookup y) with
              | none => exact Nat.lt_succ_of_lt (ih h)
              | some v => exact Nat.succ_lt_succ (ih h)
        exact this _ hx
      rw [h2, List.length_zip, hl] at this
      simp at this
    cases q : ((as.map (·.arg)).zip us).lookup x with
    | none => exact absurd q this
    | some v => simp
  have hs : (seqItems? Value.none) = pure none := rfl
  have hz : ∀ l : List Str, l.zip ([] : List Value) = [] := fun l => List.zip_nil_right
  have mis2 := mis
  rw [Nat.sub_zero] at mis2
  unfold bindArgs
  simp only [hs, pure_bind, List.map_nil, List.nil_append, List.append_nil, List.forIn_nil, Option.getD, Option.isNone_none, List.length_nil, List.drop_nil, hz, mis, g, Bool.false_and, Bool.false_eq_true, if_false, List.isEmpty_nil, Bool.not_true, key, Nat.sub_zero, Nat.zero_sub, hl, gt_iff_lt, Nat.lt_irrefl, decide_false, false_and, mis2, Nat.sub_self, List.drop_length]

def kxL (K : PySem.W.Frag) (h : HI) : Kx := ⟨K, fun _ _ _ => False, clF K h.cl, h.gls.map fun q => (glV K q.1 q.2, q.2)⟩
def veN : Str := "ValueError"
def mcL (h : HI) (hfns : List (Str × Nat)) : Mc := { fns := (h.fns.map (·.nm)).zip (List.range h.fns.length), gls := h.gls, gcd := true, exs := h.xds.map fun d => (d.nm, d.tx, d.fl), hot := false, hfns := hfns, cls := h.cl ++ [(veN, veTx)], flds := h.flds }
/-! ### a def's text -/
def fnScB (N ps : List Str) (sc : Scope) : Bool := decide (sc.kind = .function) && (!sc.isCoroutine && (!sc.isGenerator && (decide N.Nodup && (decide (N.take ps.length = ps) && ((ps.all fun x => match sc.names.lookup x with
  | some .local => true
  | some .cell => true
  | _ => false) && sc.names.all fun y => match y.2 with
    | .free => false
    | _ => true)))))
theorem fnScB_ok {N ps : List Str} {sc : Scope} (h : fnScB N ps sc = true) : FnScope N ps sc := by
  obtain ⟨h1, h⟩ := ba h
  obtain ⟨h2, h⟩ := ba h
  obtain ⟨h3, h⟩ := ba h
  obtain ⟨h4, h⟩ := ba h
  obtain ⟨h5, h⟩ := ba h
  obtain ⟨h6, h7⟩ := ba h
  refine ⟨of_decide_eq_true h1, by simpa using h2, by simpa using h3, of_decide_eq_true h4, of_decide_eq_true h5, fun x hx => ?_, fun y hy z => ?_⟩
  · have := List.all_eq_true.mp h6 x hx
    split at this
    · exact .inl (by assumption)
    · exact .inr (by assumption)
    · cases this
  · have := List.all_eq_true.mp h7 y hy
    rw [z] at this
    cases this
def parB (a : Arguments) : Bool := a.posonlyargs.isEmpty && (a.vararg.isNone && (a.kwonlyargs.isEmpty && (a.kw_defaults.isEmpty && (a.kwarg.isNone && a.defaults.isEmpty))))
theorem parB_ok {a : Arguments} (h : parB a = true) : a = ⟨[], a.args, none, [], [], none, []⟩ := by
  obtain ⟨p1, p2, p3, p4, p5, p6, p7⟩ := a
  obtain ⟨h1, h⟩ := ba h
  obtain ⟨h2, h⟩ := ba h
  obtain ⟨h3, h⟩ := ba h
  obtain ⟨h4, h⟩ := ba h
  obtain ⟨h5, h6⟩ := ba h
  have e1 : p1 = [] := List.isEmpty_iff.mp h1
  have e2 : p3 = none := Option.isNone_iff_eq_none.mp h2
  have e3 : p4 = [] := List.isEmpty_iff.mp h3
  have e4 : p5 = [] := List.isEmpty_iff.mp h4
  have e5 : p6 = none := Option.isNone_iff_eq_none.mp h5
  have e6 : p7 = [] := List.isEmpty_iff.mp h6
  subst e1 e2 e3 e4 e5 e6
  rfl
/-- a def's text reads as the tree number f -/
def chkOne (M : Mc) (T : List PL.Def) (NM : List (List Txt)) (q : FD) (f : Nat) : Bool := match T[f]?, NM[f]? with
  | some d, some nm => fnScB (nm.map strOf) (q.params.args.map (·.arg)) q.scope && (parB q.params && (decide ((q.params.args.map (·.arg)).length = d.np) && (decide ((nm.map strOf).length = d.nl) && (decide (d.np ≤ d.nl) && chkSs M (nm.map strOf) q.scope 400 q.body d.body))))
  | _, _ => false
def chkAll (h : HI) (hf : List (Nat × Nat)) (M : Mc) (T : List PL.Def) (NM : List (List Txt)) : Bool := ((List.range h.fns.length).all fun f => match h.fns[f]? with
  | some q => chkOne M T NM q f
  | none => false) && hf.all fun p => match h.fns[p.1]? with
  | some q => chkOne M.toHot T NM q p.2
  | none => false
def hfL (h : HI) (hf : List (Nat × Nat)) : List (Str × Nat) := hf.map fun p => ((h.fns.map (·.nm)).getD p.1 Str.empty, p.2)
section
variable {P : Program} {h : HI} {K : PySem.W.Frag} {hp : Heap} {mg : Str → Option Value}
structure OkL (P : Program) (h : HI) (K : PySem.W.Frag) : Prop where
  fns : ∀ q ∈ h.fns, q.d.ok K = true ∧ He.Fa.ok K (.glo q.nm) = true ∧ He.fnW K q.d.at_ = q.d.val
  free : ∀ x ∈ h.free, He.Fa.ok K (.free x) = true
  gls : ∀ q ∈ h.gls, glB K q.1 q.2 = true
  cl : ∀ q ∈ h.cl, He.Fa.ok K (.glo q.1) = true ∧ exkB K (ga K q.1) = true ∧ ∀ f ∈ h.flds, PySem.W.findIn K (.ref (ga K q.1)) (strOf f) = some none
  kit : ∀ q ∈ h.cl, kitB K h.par h.cl (.ref (ga K q.1)) q.2 = true
  kitV : kitB K h.par h.cl (.type "ValueError") veTx = true
  xds : ∀ d ∈ h.xds, xsB P K d = true ∧ iW K d = d.val
  gcd : PySem.W.nsIn K mainGlobals "gcd" = some (some (.builtin "math.gcd"))
theorem map_eq_mem {α β : Type} {f g : α → β} : ∀ {l : List α}, l.map f = l.map g → ∀ q ∈ l, f q = g q
  | [], _, q, hq => nomatch hq
  | a :: l, e, q, hq => by
    rw [List.map_cons, List.map_cons] at e
    obtain ⟨e1, e2⟩ := List.cons.inj e
    rcases List.mem_cons.mp hq with rfl | hq
    · exact e1
    · exact map_eq_mem e2 q hq
theorem SaysL.ok (c : SaysL P h K) : OkL P h K := by
  have c1 : okL P h K = true := congrArg (fun z : AlL => z.1) c
  have c2 : (h.fns.map fun d => He.fnW K d.d.at_) = h.fns.map fun d => d.d.val := congrArg (fun z : AlL => z.2.1) c
  have c3 : (h.xds.map fun d => iW K d) = h.xds.map XD.val := congrArg (fun z : AlL => z.2.2) c
  obtain ⟨h1, r⟩ := ba c1
  obtain ⟨h2, r⟩ := ba r
  obtain ⟨h3, r⟩ := ba r
  obtain ⟨h4, r⟩ := ba r
  obtain ⟨h5, r⟩ := ba r
  obtain ⟨h6, r⟩ := ba r
  obtain ⟨h7, h8⟩ := ba r
  refine ⟨fun q hq => ?_, fun x hx => List.all_eq_true.mp h2 x hx, fun q hq => List.all_eq_true.mp h3 q hq, fun q hq => ?_, fun q hq => List.all_eq_true.mp h5 q hq, h6, fun d hd => ⟨List.all_eq_true.mp h7 d hd, map_eq_mem c3 d hd⟩, eqO_ok h8⟩
  · obtain ⟨g1, g2⟩ := ba (List.all_eq_true.mp h1 q hq)
    exact ⟨g1, g2, map_eq_mem c2 q hq⟩
  · obtain ⟨g1, g2⟩ := ba (List.all_eq_true.mp h4 q hq)
    obtain ⟨g3, g4⟩ := ba g1
    exact ⟨g3, g4, fun f hf => eqO_ok (List.all_eq_true.mp g2 f hf)⟩
theorem OkL.fnAt (c : OkL P h K) (X : K.In hp) (G : hp.Ns mainGlobals mg) {q : FD} (hq : q ∈ h.fns) {N : List Str} (hs : fnScB N (q.params.args.map (·.arg)) q.scope = true) (hpar : parB q.params = true) :
    FnAt K mg q.nm N (q.params.args.map (·.arg)) q.body q.scope := by
  obtain ⟨c1, c2, c3⟩ := c.fns q hq
  obtain ⟨fd, F⟩ := He.DefD.funD c3 c1
  have S := fnScB_ok hs
  have nd : (q.params.args.map (·.arg)).Nodup := by
    rw [← S.pre]
    exact S.nd.sublist (List.take_sublist _ _)
  refine ⟨⟨_, fd, q.nm, q.params, F, He.glo_ok X G c2, FunD.bindsN F fun kV doc pm an cdv ct us hl => ?_, F.kp⟩, S⟩
  exact bind_plain (as := q.params.args) (parB_ok hpar) rfl nd hl
theorem chkOne_ok (c : OkL P h K) (X : K.In hp) (G : hp.Ns mainGlobals mg) {M : Mc} {T : List PL.Def} {NM : List (List Txt)} {q : FD} {f : Nat} (hq : q ∈ h.fns) (e : chkOne M T NM q f = true) : DefC M K mg T q.nm f := by
  unfold chkOne at e
  cases e1 : T[f]? with
  | none => rw [e1] at e; cases e
  | some d =>
    cases e2 : NM[f]? with
    | none => rw [e1, e2] at e; cases e
    | some nm =>
      rw [e1, e2] at e
      obtain ⟨g1, g⟩ := ba e
      obtain ⟨g2, g⟩ := ba g
      obtain ⟨g3, g⟩ := ba g
      obtain ⟨g4, g⟩ := ba g
      obtain ⟨g5, g6⟩ := ba g
      exact ⟨_, _, _, _, d, 400, c.fnAt X G hq g1 g2, e1, of_decide_eq_true g3, of_decide_eq_true g4, of_decide_eq_true g5, g6⟩
theorem fns_mem {x : Str} {f : Nat} {hfns : List (Str × Nat)} (hx : (x, f) ∈ (mcL h hfns).fns) : ∃ q, h.fns[f]? = some q ∧ q.nm = x := by
  obtain ⟨i, hi⟩ := List.mem_iff_getElem?.mp hx
  have hi : ((h.fns.map (·.nm)).zip (List.range h.fns.length))[i]? = some (x, f) := hi
  rw [List.getElem?_zip_eq_some] at hi
  obtain ⟨h1, h2⟩ := hi
  rw [List.getElem?_map] at h1
  have h3 := (List.getElem?_eq_some_iff.mp h2)
  obtain ⟨h4, h5⟩ := h3
  rw [List.getElem_range] at h5
  subst h5
  cases e : h.fns[i]? with
  | none => rw [e] at h1; cases h1
  | some q => rw [e] at h1; exact ⟨q, rfl, Option.some.inj h1⟩
theorem chkAll_ok (c : OkL P h K) (X : K.In hp) (G : hp.Ns mainGlobals mg) {hf : List (Nat × Nat)} {T : List PL.Def} {NM : List (List Txt)} (e : chkAll h hf (mcL h (hfL h hf)) T NM = true) :
    (∀ x f, (x, f) ∈ (mcL h (hfL h hf)).fns → DefC (mcL h (hfL h hf)) K mg T x f) ∧ ∀ x f, (x, f) ∈ (mcL h (hfL h hf)).hfns → DefC (mcL h (hfL h hf)).toHot K mg T x f := by
  obtain ⟨e1, e2⟩ := ba e
  refine ⟨fun x f hx => ?_, fun x f hx => ?_⟩
  · obtain ⟨q, hq, rfl⟩ := fns_mem hx
    have hl := (List.getElem?_eq_some_iff.mp hq).1
    have := List.all_eq_true.mp e1 f (List.mem_range.mpr hl)
    rw [hq] at this
    exact chkOne_ok c X G (List.mem_of_getElem? hq) this
  · obtain ⟨p, hp', hx⟩ := List.mem_map.mp (show (x, f) ∈ hfL h hf from hx)
    have := List.all_eq_true.mp e2 p hp'
    cases hq : h.fns[p.1]? with
    | none => rw [hq] at this; cases this
    | some q =>
      rw [hq] at this
      have ex : x = q.nm := by
        have : (h.fns.map (·.nm)).getD p.1 Str.empty = x := congrArg Prod.fst hx
        rw [← this]
        rw [List.getD_eq_getElem?_getD, List.getElem?_map, hq]
        rfl
      have ef : f = p.2 := (congrArg Prod.snd hx).symm
      rw [ex, ef]
      exact chkOne_ok c X G (List.mem_of_getElem? hq) this
end
end LB

end
section
set_option Elab.async false
set_option linter.all false
set_option maxRecDepth 100000
set_option maxHeartbeats 4000000
/-! Layer B, Z2: the facts behind the top, for the errors; the law's end. -/
namespace LB
open PySem PySem.Spec PyProof.Rows L2
open PL (PV MV Txt IE IEs IT II IS ISs)
open He (ga ma eqO eqO_ok ba)
/-- a raised class's text -/
structure XDok (d : XD) : Prop where
  ex : ∃ (n0 n1 : Str) (e1 : Expr) (p0 p1 p2 p3 q1 q2 q3 q4 q5 : Pos) (ta : TA), d.body = xBody n0 n1 (strOf d.fl) e1 p0 p1 p2 p3 q1 q2 q3 q4 q5 ∧ XScope d.scope n0 n1 ∧
    (∀ X : Cx, X.N = [n0, n1] → X.env.scope = d.scope → X.mg "str" = none → PA X [e1] ta) ∧ TaOk d.fl ta ∧ d.fl ≠ [] ∧ (p2.endLine == p3.line) = true ∧ (∀ env, starEach [e1] env = [(false, eval e1 env)]) ∧
    (∀ env, swapsWith (.Call (.Attribute (.Call (.Name "super" p0) [] [] p1) "__init__" p2) [e1] [] p3) none q1.line env = pure false) ∧
    (n0 == ("__debug__" : Str)) = false ∧ (n1 == ("__debug__" : Str)) = false ∧ (n0 == ("__classdict__" : Str)) = false ∧ (n1 == ("__classdict__" : Str)) = false ∧
    parB d.params = true ∧ d.params.args.map (·.arg) = [n0, n1] ∧ d.scope.names.lookup ("super" : Str) = some .globalImplicit ∧ d.scope.names.lookup ("__class__" : Str) = some .free
section
variable {P : Program} {w : World} {base : Heap} {h : HI} {K : PySem.W.Frag} {hp : Heap} {mg : Str → Option Value} {CX : CXT}
theorem str_eq_of_beq {a b : Str} (e : (a == b) = true) : a = b := by simpa using e
/-- the raised class's __init__ keeps its promise -/
theorem xd_ok (c : OkL P h K) (X : K.In hp) (G : hp.Ns mainGlobals mg) {d : XD} (hd : d ∈ h.xds) (hglo : He.Fa.ok K (.glo d.nm) = true) (o : XDok d) (hsup : ("super" : Str) ∈ h.free) (hstr : ("str" : Str) ∈ h.free) (htop : (P.main.scope.names.lookup ("super" : Str)).isSome = false) :
    ∃ (fd : FuncData) (n0 n1 : Str) (ta : TA), OexC K (ga K d.nm) ∧ PySem.W.findIn K (.ref (ga K d.nm)) "__init__" = some (some (.ref (iAd K d.nm))) ∧ PySem.W.typeIn K (.ref (iAd K d.nm)) = some (.type "function") ∧
      FnOk P w K mg base CX 1 (iAd K d.nm) fd [n0, n1] (spX (ga K d.nm) (strOf d.fl) ta) ∧ Binds K fd [n0, n1] [] ∧ mg d.nm = some (.ref (ga K d.nm)) ∧ TaOk d.fl ta ∧ d.fl ≠ [] := by
  obtain ⟨hx, hi⟩ := c.xds d hd
  obtain ⟨n0, n1, e1, p0, p1, p2, p3, q1, q2, q3, q4, q5, ta, o1, o2, o3, o4, o5, o6, o7, o8, o9, o10, o11, o12, o13, o14, o15, o16⟩ := o.ex
  unfold xsB at hx
  obtain ⟨x1, x⟩ := ba hx
  obtain ⟨x2, x⟩ := ba x
  obtain ⟨x3, x⟩ := ba x
  obtain ⟨x4, x⟩ := ba x
  obtain ⟨x5, x⟩ := ba x
  obtain ⟨x6, x⟩ := ba x
  obtain ⟨x7, x⟩ := ba x
  obtain ⟨x8, x9⟩ := ba x
  have T := oexB_ok x8
  unfold iW at hi
  cases q : K.lookup (iAd K d.nm) with
  | none => rw [q] at x1; cases x1
  | some ob =>
    obtain ⟨oc, od, dt, osl⟩ := ob
    rw [q] at x1 hi
    cases dt with
    | func fd =>
      obtain ⟨m1, m2, m3, m4, m5, m6, m7, m8, m9, m10, m11, m12, m13, m14, m15⟩ := fd
      have e2 : (some (m1, m2, m3, m4, m5, m6, m7.map (·.1), m15) : FnI) = (some (("__init__" : Str), d.qual, d.params, FuncBody.stmts d.body, d.scope, mainGlobals, [("__class__" : Str)], builtinsNs) : FnI) := hi
      simp only [Option.some.injEq, Prod.mk.injEq] at e2
      obtain ⟨h1, h2, h3, h4, h5, h6, h7, h8⟩ := e2
      subst h1 h2 h3 h4 h5 h6 h8
      obtain ⟨y1, y3⟩ := ba x1
      obtain ⟨y1, y2⟩ := ba y1
      cases m13 with
      | ref cda =>
        obtain ⟨z1, z2⟩ := ba y1
        cases m8 with
        | none =>
          match m7, h7, y3 with
          | [(cn, cc)], h7, y3 =>
            have hcn : cn = "__class__" := by simpa using h7
            subst hcn
            cases qc : K.lookup cc with
            | none => simp only [qc] at y3; cases y3
            | some oc2 =>
              simp only [qc] at y3
              obtain ⟨c1, c2, c3, c4⟩ := oc2
              have y4 : ∃ A, c3 = .cell (some (.ref A)) ∧ A = ga K d.nm := by
                cases c3 with
                | cell v =>
                  cases v with
                  | none => cases y3
                  | some v =>
                    cases v with
                    | ref A => exact ⟨A, rfl, of_decide_eq_true y3⟩
                    | _ => cases y3
                | _ => cases y3
              obtain ⟨A, rfl, rfl⟩ := y4
              cases qd : K.lookup cda with
              | none => simp only [qd] at z2; cases z2
              | some od2 =>
                simp only [qd] at z2
                obtain ⟨d1, d2, d3, d4⟩ := od2
                have z3 : ∃ vs file tf, d3 = .fields vs ∧ vs[2]? = some (.str file tf) ∧ ((P.main.file : Str) == file) = true := by
                  cases d3 with
                  | fields vs =>
                    dsimp only at z2
                    cases qv : (vs[2]? : Option Value) with
                    | none => rw [qv] at z2; cases z2
                    | some v =>
                      rw [qv] at z2
                      cases v with
                      | str file tf => exact ⟨vs, file, tf, rfl, qv, z2⟩
                      | _ => cases z2
                  | _ => cases z2
                obtain ⟨vs, file, tf, rfl, z4, z5⟩ := z3
                have lk : K.lookup (iAd K d.nm) = some ⟨oc, od, .func (PySem.W.ksFn "__init__" d.qual d.params (xBody n0 n1 (strOf d.fl) e1 p0 p1 p2 p3 q1 q2 q3 q4 q5) d.scope .none m9 m10 m11 m12 (.ref cda) m14 cc), osl⟩ := by rw [q, o1]
                have hcl : ∃ oc od cd osl, K.lookup (ga K d.nm) = some ⟨oc, od, .cls cd, osl⟩ := by
                  obtain ⟨nm, q, N, bs, bm, sn, sub, ab, col, dd, k0, k1, k2, k3, k5, hC, _⟩ := T.cls
                  exact ⟨_, _, _, _, hC⟩
                have msup : mg "super" = none := He.free_ok X G (c.free _ hsup)
                have mstr : mg "str" = none := He.free_ok X G (c.free _ hstr)
                have hpar := parB_ok o13
                refine ⟨_, n0, n1, ta, T, eqO_ok x2, of_decide_eq_true x3, xs_fn (k := 0) lk z1 o2 T (fun A outer s H E => ?_) (fun A outer s H E => o3 _ rfl rfl mstr) (eqO_ok x9) o6 o7 o8 o9 o10 o11 o12, .all fun us hl => ?_, He.glo_ok X G hglo, o4, o5⟩
                · obtain ⟨ar, har⟩ : ∃ ar, (d.params.posonlyargs ++ d.params.args).head? = some ar ∧ ar.arg = n0 := by
                    rw [hpar]
                    cases ha : d.params.args with
                    | nil => rw [ha] at o14; cases o14
                    | cons a as => rw [ha] at o14; exact ⟨a, rfl, (List.cons.inj o14).1⟩
                  exact ⟨rfl, rfl, ⟨oc, od, _, osl, ar, lk, har.1, har.2⟩, ⟨d1, d2, vs, d4, file, tf, qd, z4, z5⟩, rfl, ⟨c1, c2, c4, qc⟩, hcl, of_decide_eq_true x4, msup, o15, o16, o2.k0, htop, eqO_ok x5, eqO_ok x6, of_decide_eq_true x7⟩
                · have nd : (d.params.args.map (·.arg)).Nodup := by
                    rw [o14]
                    simp [o2.ne]
                  have := bind_plain (fd := PySem.W.ksFn "__init__" d.qual d.params (xBody n0 n1 (strOf d.fl) e1 p0 p1 p2 p3 q1 q2 q3 q4 q5) d.scope .none m9 m10 m11 m12 (.ref cda) m14 cc) hpar rfl nd (us := us) (by rw [o14]; exact hl)
                  rw [o14] at this
                  exact this
        | _ => cases y2
      | _ => cases y1
    | _ => cases x1
def btsL : List Str := ["len", "abs", "min", "max", "sum", "all", "any", "int", "str", "tuple", "list", "bool", "isinstance", "range", "repr"]
/-- what is asked of the input's text -/
structure HOk (P : Program) (h : HI) : Prop where
  bts : ∀ x ∈ btsL, x ∈ h.free
  ve : veN ∈ h.free
  sup : ("super" : Str) ∈ h.free
  top : (P.main.scope.names.lookup ("super" : Str)).isSome = false
  cln : ∀ q ∈ h.gls, PL.clnP q.2 = true
  fld : ∀ f ∈ h.flds, f ≠ []
  xds : ∀ d ∈ h.xds, XDok d
  xcl : ∀ d ∈ h.xds, h.cl.find? (fun q => decide (q.2 = d.tx)) = some (d.nm, d.tx)
theorem kit_at {u : Value} {D c : Txt} {A : Addr} {par : List (Txt × Txt)} (hk : kitB K par h.cl u D = true) (e : clF K h.cl c = some A) : PySem.W.kitOne K (.ref A) u = some (PL.isSub par 8 c D) ∧ PySem.W.exmOne K (.ref A) u = some (PL.isSub par 8 c D) := by
  obtain ⟨q, hq, rfl, rfl⟩ := clF_mem e
  obtain ⟨g1, g2⟩ := ba (List.all_eq_true.mp hk q hq)
  exact ⟨of_decide_eq_true g1, of_decide_eq_true g2⟩
theorem md_ok (o : HOk P h) (c : OkL P h K) (X : K.In hp) (G : hp.Ns mainGlobals mg) (hfns : List (Str × Nat)) : Md P w base (mcL h hfns) (kxL K h) h.par mg := by
  refine ⟨fun x v hx => ?_, fun x hx => ?_, fun _ => PySem.W.mg_of X G c.gcd, ⟨fun cc A e => ?_, fun f hf => ⟨o.fld f hf, fun cc A e => ?_⟩, fun y D hy => ?_, fun q hq => ?_⟩, fun _ _ _ => id, rfl, fun x cc f hx => ?_⟩
  · obtain ⟨u, h1, h2⟩ := glB_val X G (c.gls _ hx)
    exact ⟨_, u, h1, h2, List.mem_map.mpr ⟨_, hx, rfl⟩⟩
  · refine He.free_ok X G (c.free _ (o.bts _ ?_))
    rcases List.mem_cons.mp hx with rfl | hx
    · decide
    all_goals
      repeat (rcases List.mem_cons.mp hx with rfl | hx; · decide)
      cases hx
  · obtain ⟨q, hq, rfl, rfl⟩ := clF_mem e
    exact exkB_ok (c.cl q hq).2.1
  · obtain ⟨q, hq, rfl, rfl⟩ := clF_mem e
    exact (c.cl q hq).2.2 f hf
  · rcases List.mem_append.mp (show (y, D) ∈ h.cl ++ [(veN, veTx)] from hy) with hy | hy
    · have hk := c.kit _ hy
      exact ⟨.ref (ga K y), .ref (ga K y), ⟨.own _, fun cc A e => (kit_at hk e).1⟩, rfl, .inl (He.glo_ok X G (c.cl _ hy).1), fun cc A e => (kit_at hk e).2⟩
    · have hy : (y, D) = (veN, veTx) := by simpa using hy
      obtain ⟨rfl, rfl⟩ := Prod.mk.inj hy
      exact ⟨.ty "ValueError", .type "ValueError", ⟨.ty _, fun cc A e => (kit_at c.kitV e).1⟩, rfl, .inr ⟨He.free_ok X G (c.free _ o.ve), by kernel_rfl, by decide⟩, fun cc A e => (kit_at c.kitV e).2⟩
  · obtain ⟨q', hq', rfl⟩ := List.mem_map.mp (show q ∈ h.gls.map fun q => (glV K q.1 q.2, q.2) from hq)
    exact o.cln _ hq'
  · obtain ⟨d, hd, e⟩ := List.mem_map.mp (show (x, cc, f) ∈ h.xds.map fun d => (d.nm, d.tx, d.fl) from hx)
    cases e
    have hcl := o.xcl d hd
    have hm : (d.nm, d.tx) ∈ h.cl := List.mem_of_find?_eq_some hcl
    obtain ⟨fd, n0, n1, ta, e1, e2, e3, e4, e5, e6, e7, e8⟩ := xd_ok (w := w) (base := base) (CX := L2N.CX P w) c X G hd (c.cl _ hm).1 (o.xds d hd) o.sup (o.bts _ (by decide)) o.top
    refine ⟨_, _, fd, n0, n1, ta, e1, e2, e3, e4, e5, e6, ?_, e7, e8⟩
    show clF K h.cl d.tx = _
    unfold clF
    rw [hcl]
    rfl
/-- what the law may let out, at whatever world -/
def CXw (P : Program) : CXT := fun outer H s E u s' => ∃ w : World, L2N.CX P w outer H s E u s'
theorem FnG.cxw {k : Nat} {f : Addr} {fd : FuncData} {ps : List Str} {sp : Sp} (F : FnG P w K mg base (L2N.CX P w) k f fd ps sp) : FnG P w K mg base (CXw P) k f fd ps sp :=
  ⟨F.len, fun A outer s H args us vs Q E hr he hb hv hs => codeAny_mono (F.run A outer s H args us vs Q E hr he hb hv hs) fun r s' hq => (by
    cases r with
    | error e => exact ⟨w, hq⟩
    | ok fl => cases fl <;> exact hq)⟩
theorem CXw.no {H : Hp} {s s' : Shared} {u : Value} (h : CXw P [] H s (fun _ _ _ => False) u s') : False := by
  obtain ⟨_, _, _, _, _, _, _, _, _, _, _, _, _, z⟩ := h
  exact z
/-- the law's end -/
theorem law_F {T : List PL.Def} {NM : List (List Txt)} {hf : List (Nat × Nat)} {L m fl : Nat} {q : FD} (o : HOk P h) (chk : chkAll h hf (mcL h (hfL h hf)) T NM = true) (hq : h.fns[fl]? = some q) (hps : q.params.args.map (·.arg) = [("script" : Str)])
    (pl : ∀ ns : List Int, ns.length ≤ 63 → ∃ back, PL.callF T h.par L (m + 1) fl [.p (.sls ns)] = .ok (.p (.bl true)) back) (X : K.In hp) (G : hp.Ns mainGlobals mg) (c : SaysL P h K) {fa : Addr} (hfa : mg q.nm = some (.ref fa)) :
    ∃ (fd : FuncData) (sp : Sp), (∀ (s : Shared) (u : Value), BindsTo s fd ⟨[u], []⟩ [(("script" : Str), u)]) ∧
      (∀ (H : Hp) (a : Addr) (ns : List Int), ns.length ≤ 63 → Only H → SqL K H a (ns.map V.int) → sp [.ref a] H (fun v _ => v = .bl true) fun _ _ _ => False) ∧
      ∀ base : Heap, FnG P w K mg base (CXw P) (m + 1 + 3) fa fd [("script" : Str)] sp := by
  have c := c.ok
  obtain ⟨k1, k2⟩ := chkAll_ok c X G chk
  have hmem : q ∈ h.fns := List.mem_of_getElem? hq
  have hl := (List.getElem?_eq_some_iff.mp hq).1
  have e := List.all_eq_true.mp (ba chk).1 fl (List.mem_range.mpr hl)
  rw [hq] at e
  have e : chkOne (mcL h (hfL h hf)) T NM q fl = true := e
  unfold chkOne at e
  cases e1 : T[fl]? with
  | none => rw [e1] at e; cases e
  | some d =>
    cases e2 : NM[fl]? with
    | none => rw [e1, e2] at e; cases e
    | some nm =>
      rw [e1, e2] at e
      obtain ⟨g1, g⟩ := ba e
      obtain ⟨g2, g⟩ := ba g
      obtain ⟨g3, g⟩ := ba g
      obtain ⟨g4, g⟩ := ba g
      obtain ⟨g5, g6⟩ := ba g
      rw [hps] at g1 g3
      obtain ⟨c1, c2, c3⟩ := c.fns q hmem
      obtain ⟨fd, F⟩ := He.DefD.funD c3 c1
      have ea : He.fAd K q.d.at_ = fa := by
        have := He.glo_ok X G c2
        rw [hfa] at this
        cases this
        rfl
      rw [ea] at F
      refine ⟨fd, spF (kxL K h) (PL.callF T h.par L (m + 1)) fl, fun s u => ?_, fun H a ns hn hO hS => ?_, fun base => ?_⟩
      · have := FunD.bindsA (ps := [("script" : Str)]) F (fun kV doc pm an cdv ct us hl => by
          have := bind_plain (fd := PySem.W.fnOf q.d.name q.d.qual q.d.params q.d.body q.d.scope .none kV doc pm an cdv ct) (as := q.params.args) (parB_ok g2) rfl (by rw [hps]; simp) (us := us) (by rw [hps]; exact hl)
          rw [hps] at this
          exact this) s [u] rfl
        exact this
      · obtain ⟨back, hb⟩ := pl ns hn
        have rep : RepP (kxL K h) H (fun _ => False) (.sls ns) (.ref a) := by
          refine ⟨a, rfl, ?_⟩
          rcases hS with (hS | ⟨o, hS⟩) | ⟨o, its, n, h1, h2, h3, h4, h5, h6⟩
          · rcases hO a with z | ⟨o, xs, z⟩
            · rw [hS] at z; cases z
            · rw [hS] at z; cases z
          · exact .inl ⟨o, hS⟩
          · exact .inr ⟨o, its, n, h1, h2, h3, h4, h5, h6⟩
        refine ⟨fun _ => False, [.p (.sls ns)], fun _ => [], ⟨rfl, fun i mm q => ?_, fun _ _ => rfl, fun _ => List.nodup_nil, fun _ _ _ z _ => (nomatch z), fun _ _ z => (nomatch z), fun _ z => z.elim, fun q hq => ?_⟩, ?_⟩
        · cases i with
          | zero =>
            cases q
            refine ⟨.ref a, rfl, ?_, rfl⟩
            exact rep.ban fun b z => z.elim (fun ⟨_, z⟩ => nomatch z) id
          | succ i => cases q
        · obtain ⟨q', hq', rfl⟩ := List.mem_map.mp (show q ∈ h.gls.map fun q => (glV K q.1 q.2, q.2) from hq)
          exact glB_rep (k := kxL K h) (c.gls _ hq')
        · rw [hb]
          intro x H' ⟨fo', R', O, _, r, _⟩
          exact r.1
      · exact FnG.cxw <| level_one (k := kxL K h) (md_ok o c X G (hfL h hf)) (levels (k := kxL K h) (md_ok o c X G (hfL h hf)) k1 k2 m) F (fnScB_ok g1) e1 (of_decide_eq_true g3) (of_decide_eq_true g4) (of_decide_eq_true g5) g6
end
end LB

end
section
set_option Elab.async false
set_option linter.all false
set_option maxRecDepth 100000
set_option maxHeartbeats 4000000
/-! Layer B, Z3: the law's call, where nothing guards against itself. -/
namespace LB
open PySem PySem.Spec PyProof.Rows L2
theorem law_callG {P : Program} {w : World} {K : PySem.W.Frag} {mg mb : Str → Option Value} {CX : CXT} {k : Nat} {fa a : Addr} {fd : FuncData} {x : Str} {sp : Sp} {s₁ : Shared} {vs : List Value} {ns : List Int}
    (KX : K.In s₁.heap) (hns : s₁.heap.Ns mainGlobals mg) (hb : s₁.heap.Ns builtinsNs mb) (hbb : ∀ x : Str, x ≠ "__name__" → mb x = bootBuiltins x) (hlim : s₁.heap.NoLimit) (hg : s₁.gens = #[])
    (ha : s₁.heap.get? a = some { cls := .type "list", data := .seq vs.toArray }) (hi : IntsAre vs ns) (hl : ns.length ≤ sizeLine) (hr : RoomG k callerA)
    (F : ∀ base : Heap, K.In base → base.Ns mainGlobals mg → FnG P w K mg base CX k fa fd [x] sp) (hbind : ∀ (s : Shared) (u : Value), BindsTo s fd ⟨[u], []⟩ [(x, u)])
    (hsp : ∀ H : Hp, Only H → SqL K H a (ns.map V.int) → sp [.ref a] H (fun v _ => v = .bl true) fun _ _ _ => False)
    (hCX : ∀ H e s', CX [] H s₁ (fun _ _ _ => False) e s' → False) :
    codeAny (model P w) callerA (.call (.ref fa) ⟨[.ref a], []⟩) (fun r s' => r = .ok (.ret (.bool true)) ∧ OldK s₁.heap s'.heap ∧ s'.os = s₁.os ∧ AllBare s'.gens) s₁ := by
  have rv := vals_ints hi
  have lenV := hi.length
  -- from an abstract heap in which nothing but the script may be tracked
  have core : ∀ H : Hp, Only H → SqL K H a (ns.map V.int) → L2.HOk P w H s₁.heap → (∀ b, H b ≠ none → b = a) → (H a ≠ none → K.lookup a = none) →
      codeAny (model P w) callerA (.call (.ref fa) ⟨[.ref a], []⟩) (fun r s' => r = .ok (.ret (.bool true)) ∧ OldK s₁.heap s'.heap ∧ s'.os = s₁.os ∧ AllBare s'.gens) s₁ := by
    intro H hO hS hok hA hK
    have base_of : ∀ {b : Addr} {o : Obj}, s₁.heap.get? b = some o → H b = none → (hidT s₁.heap H).get? b = some o := fun e n => hidT_get e n
    have noA : ∀ {b : Addr} {o : Obj} {es : Array DictEntry} {ep : Nat}, s₁.heap.get? b = some o → o.data = .dict es ep → H b = none := fun {b o es ep} e d => by
      cases q : H b with
      | none => rfl
      | some u =>
        have e' : b = a := hA b (by rw [q]; simp)
        subst e'
        rw [ha] at e; cases e
        have d' : Data.seq vs.toArray _ = Data.dict es ep := d
        cases d'
    have nsK : ∀ {b : Addr} {m : Str → Option Value}, s₁.heap.Ns b m → (hidT s₁.heap H).Ns b m := fun {b m} ⟨o, es, ep, e, d, r⟩ => ⟨o, es, ep, base_of e (noA e d), d, r⟩
    have hKb : K.In (hidT s₁.heap H) := fun b o e => base_of (KX b o e) (by
      cases q : H b with
      | none => rfl
      | some u =>
        have e' : b = a := hA b (by rw [q]; simp)
        subst e'
        rw [hK (by rw [q]; simp)] at e; cases e)
    have hM : Mod K mg (hidT s₁.heap H) := ⟨hKb, nsK hns, ⟨mb, nsK hb, hbb⟩, let ⟨mc, h1, h2⟩ := hlim; ⟨mc, nsK h1, h2⟩⟩
    have e0 : Env0 P w K mg (hidT s₁.heap H) callerA [] s₁ H := ⟨rfl, hM, fun b o e => of_hidT e, Nat.le_of_eq (hidT_size _ _), trivial, fun b hb => absurd (show b ∈ ([] : List Addr) from hb) (by simp), hok, .of_eq hg⟩
    refine codeAny_mono ((F _ hKb (nsK hns)).run callerA [] s₁ H ⟨[.ref a], []⟩ [.ref a] [.ref a] _ _ hr e0 (hbind s₁ (.ref a)) (.cons rfl .nil) (hsp H hO hS)) fun r s' h => ?_
    cases r with
    | error e => exact (hCX H e s' h).elim
    | ok fl =>
      cases fl with
      | next => exact False.elim h
      | brk => exact False.elim h
      | cont => exact False.elim h
      | ret u =>
        obtain ⟨v, H', os, bare, un, hok', r', q⟩ := h
        have q' : v = .bl true := q
        subst q'
        obtain rfl : u = Value.bool true := r'
        refine ⟨rfl, OldK.of_keep fun b o e => ?_, os, bare⟩
        cases q : H b with
        | none => exact un.keep b o e q (by intro z; exact absurd (show b ∈ ([] : List Addr) from z) (by simp)) (by simp)
        | some u =>
          rcases hO b with z | ⟨ob, xs, z⟩
          · rw [q] at z; cases z
          · have z2 := un.frzs b ob _ z
            obtain ⟨e1, _⟩ := hok b _ z
            obtain ⟨e2, _⟩ := hok' b _ z2
            rw [e] at e1; cases e1
            exact e2
  cases hk : K.lookup a with
  | some o =>
    -- the script is one of the module's own objects
    have e := KX a o hk
    rw [ha] at e
    cases e
    refine core (fun _ => none) (fun _ => .inl rfl) (.inr ⟨_, vs.toArray, _, hk, rfl, rfl, rfl, by rw [List.size_toArray, lenV]; exact hl, by simpa using rv⟩) (fun b u z => by have z' : (none : Option HO) = some u := z; cases z') (fun b z => absurd rfl z) fun z => absurd rfl z
  | none =>
    refine core (fun b => if b = a then some (.frz { cls := .type "list", data := .seq vs.toArray } (.lst (ns.map V.int))) else none) (fun b => ?_) (.inl (.inr ⟨{ cls := .type "list", data := .seq vs.toArray }, if_pos rfl⟩)) (fun b u z => ?_) (fun b z => ?_) fun _ => hk
    · by_cases hb : b = a
      · exact .inr ⟨_, _, if_pos hb⟩
      · exact .inl (if_neg hb)
    · by_cases hb : b = a
      · have z' := (if_pos hb).symm.trans z
        cases z'
        subst hb
        exact ⟨ha, by rw [List.length_map]; exact hl, vs, _, rv, ha⟩
      · have z' := (if_neg hb).symm.trans z
        cases z'
    · by_cases hb : b = a
      · exact hb
      · exact absurd (if_neg hb) z
theorem walk_ofG {l : PySem.W.OpenLaw} {n k : Nat} {q : Program} {loose : List Str} {XP : (Str → Option Value) → Heap → Prop} {YP : World → Heap → Prop} {d : DefRec} {CX : CXT} {x : Str}
    (hn : l.most = some n) (hn2 : n ≤ sizeLine) (hdf : d.params.defaults = []) (hr : RoomG k callerA)
    (F : ∀ (w : World) (mg : Str → Option Value) (fa : Addr) (h : Heap), YP w h → h.Ns mainGlobals mg → mg d.name = some (.ref fa) →
      ∃ (K : PySem.W.Frag) (fd : FuncData) (sp : Sp), K.In h ∧ (∀ (s : Shared) (u : Value), BindsTo s fd ⟨[u], []⟩ [(x, u)]) ∧
        (∀ (H : Hp) (a : Addr) (ns : List Int), ns.length ≤ n → Only H → SqL K H a (ns.map V.int) → sp [.ref a] H (fun v _ => v = .bl true) fun _ _ _ => False) ∧
        ∀ base : Heap, K.In base → base.Ns mainGlobals mg → FnG l.prog w K mg base CX k fa fd [x] sp)
    (hCX : ∀ (H : Hp) (s : Shared) (e : Value) (s' : Shared), CX [] H s (fun _ _ _ => False) e s' → False) :
    PySem.W.WalkO q loose XP YP l.row.toRowW d [] (fun f vs => PySem.call f vs) := by
  refine Att.attach_call hn hdf fun w s₀ s₁ mg mb fa o pm cd doc a vs ns G Y ho hd hcd hmg hobj hints hlen hg => ?_
  obtain ⟨K, fd, sp, KX, hb, hsp, hF⟩ := F w mg fa _ Y G.T.g hmg
  exact law_callG KX G.T.g G.T.b G.T.builtins G.T.nolimit hg hobj hints (Nat.le_trans hlen hn2) hr hF hb (fun H hO hS => hsp H a ns hlen hO hS) fun H e s' => hCX H s₁ e s'
end LB

end
section
set_option Elab.async false
set_option linter.all false
set_option maxRecDepth 100000
set_option maxHeartbeats 4000000
/-! Layer B, X4: the text of an error with a number. -/
namespace LB
open PySem PySem.Spec PyProof.Rows L2
open PL (PV MV Txt IE IEs IT II IS ISs)
section
variable {X : Cx} {n1 msg : Str} {j : Nat} {pa pb pc pd pe : Pos}
def rStrI : List V → Hp → VK → Prop := fun xs H Q => ∃ i : Int, xs = [.int i] ∧ i.natAbs.log2 < 1920 ∧ Q (.str (toString i)) H
/-- "text" + str(n) -/
def taNum (msg : Str) : TA := tCons (tOp rCatS (tC (.str msg)) (tCB rStrI (tCons (tVar 1) tNil))) tNil
theorem pa_num (hN : X.N[1]? = some n1) (hv : Vis X.env.scope n1) (hg : Gl X "str") (hm : X.mg "str" = none) (d1 : (n1 == ("__debug__" : Str)) = false) (c1 : (n1 == ("__classdict__" : Str)) = false) :
    PA X [.BinOp (.Constant (.str msg) j pa) .Add (.Call (.Name "str" pd) [.Name n1 pb] [] pe) pc] (taNum msg) :=
  pa_cons (pe_op op_add_str pe_str (pe_callTy call_str_int hg hm (by kernel_rfl) (pa_cons (pe_var hN hv d1 c1) pa_nil rfl) (by decide) (by decide) rfl rfl)) pa_nil rfl
theorem ta_num {i : Int} (hm : msg.length ≤ 1000) (hi : i.natAbs.log2 < 1000) : ∀ (τ : L2.St) (h : Hp) (P : List V → Hp → Prop), τ[1]? = some (some (.int i)) → (∀ z : Str, P [.str z] h) → taNum msg τ h P :=
  fun τ h P e q => ⟨.int i, e, i, rfl, by omega, msg, _, rfl, rfl, by have := int_text_len_1921 (i := i) (by omega); rw [sizeLine_eq]; omega, q _⟩
theorem taOk_num {f : Txt} (h1 : f ≠ PL.whatF) (h2 : f ≠ PL.rowF) (h3 : f ≠ []) (hm : msg.length ≤ 1000) : TaOk f (taNum msg) := ⟨fun m v h => by
  unfold PL.excArg at h
  split at h
  · cases ‹[m] = []›
  · rw [if_neg fun z => h1 z.1] at h; cases h
  · rename_i i heq
    cases heq
    by_cases q : i.natAbs.log2 < 1000
    · rw [if_pos ⟨h1, h2, h3, q⟩] at h
      cases h
      refine ⟨rfl, fun k H B y r => ?_⟩
      obtain rfl : y = V.int i := r
      exact ta_num hm q
    · rw [if_neg fun z => q z.2.2.2] at h; cases h
  · rw [if_neg h2] at h; cases h
  · cases h⟩
end
end LB

end
section
set_option autoImplicit false
set_option linter.all false
/-! the IR of law_k85_words; printed by gen.py -/
namespace K85
open PL
/-- 0 ratio: slots 0 top, 1 bottom, 2 shared -/
def b_ratio : ISs := (.cons (.ife (.tv (.cmp .eq (.var 1) (.con (.int 0))))
 (.cons (.rai [66, 97, 100, 86, 97, 108, 117, 101] [119, 104, 97, 116] (.cons (.con (.str [114, 97, 116, 105, 111])) .nil))
 .nil)
 .nil)
 (.cons (.set 2 (.blt .gcd (.cons (.var 0) (.cons (.var 1) .nil))))
 (.cons (.ife (.tv (.cmp .lt (.var 1) (.con (.int 0))))
 (.cons (.set 2 (.bin .sub (.con (.int 0)) (.var 2)))
 .nil)
 .nil)
 (.cons (.ret (.tup (.cons (.bin .fdiv (.var 0) (.var 2)) (.cons (.bin .fdiv (.var 1) (.var 2)) .nil))))
 .nil))))
/-- 1 ratio_text: slots 0 value -/
def b_ratio_text : ISs := (.cons (.ife (.tv (.cmp .eq (.ix (.var 0) (.con (.int 1))) (.con (.int 1))))
 (.cons (.ret (.blt .str1 (.cons (.ix (.var 0) (.con (.int 0))) .nil)))
 .nil)
 .nil)
 (.cons (.ret (.bin .add (.bin .add (.blt .str1 (.cons (.ix (.var 0) (.con (.int 0))) .nil)) (.con (.str [47]))) (.blt .str1 (.cons (.ix (.var 0) (.con (.int 1))) .nil))))
 .nil))
/-- 2 is_figures: slots 0 word, 1 most, 2 sign -/
def b_is_figures : ISs := (.cons (.ife (.tn (.tv (.chn .le .le (.con (.int 1)) (.blt .len (.cons (.var 0) .nil)) (.var 1))))
 (.cons (.ret (.con (.bl false)))
 .nil)
 .nil)
 (.cons (.ife (.tn (.tv (.blt .all1 (.cons (.comp [2] (.nm 2) (.mv 0) .tt (.cmp .isIn (.var 2) (.glo [70, 73, 71, 85, 82, 69, 83] (.str [48, 49, 50, 51, 52, 53, 54, 55, 56, 57])))) .nil))))
 (.cons (.ret (.con (.bl false)))
 .nil)
 .nil)
 (.cons (.ret (.orv (.cmp .eq (.var 0) (.con (.str [48]))) (.cmp .ne (.ix (.var 0) (.con (.int 0))) (.con (.str [48])))))
 .nil)))
/-- 3 ratio_of_word: slots 0 word, 1 body, 2 top, 3 slash, 4 bottom, 5 found -/
def b_ratio_of_word : ISs := (.cons (.ife (.tv (.cmp .gt (.blt .len (.cons (.var 0) .nil)) (.con (.int 130))))
 (.cons (.ret (.con .non))
 .nil)
 .nil)
 (.cons (.set 1 (.var 0))
 (.cons (.ife (.tv (.cmp .eq (.slc (.var 0) (.con .non) (.con (.int 1))) (.con (.str [45]))))
 (.cons (.set 1 (.slc (.var 0) (.con (.int 1)) (.con .non)))
 .nil)
 .nil)
 (.cons (.unp [2, 3, 4] (.met .partition (.var 1) (.cons (.con (.str [47])) .nil)))
 (.cons (.ife (.tn (.tv (.call 2 (.cons (.var 2) (.cons (.con (.int 130)) .nil)))))
 (.cons (.ret (.con .non))
 .nil)
 .nil)
 (.cons (.ife (.tv (.cmp .eq (.var 3) (.con (.str []))))
 (.cons (.set 4 (.con (.str [49])))
 .nil)
 (.cons (.ife (.to (.tv (.cmp .eq (.var 4) (.con (.str [49])))) (.to (.tn (.tv (.call 2 (.cons (.var 4) (.cons (.con (.int 130)) .nil))))) (.tv (.cmp .eq (.var 4) (.con (.str [48]))))))
 (.cons (.ret (.con .non))
 .nil)
 .nil)
 .nil))
 (.cons (.set 5 (.call 0 (.cons (.blt .int1 (.cons (.var 2) .nil)) (.cons (.blt .int1 (.cons (.var 4) .nil)) .nil))))
 (.cons (.ife (.tv (.cmp .eq (.slc (.var 0) (.con .non) (.con (.int 1))) (.con (.str [45]))))
 (.cons (.set 5 (.tup (.cons (.bin .sub (.con (.int 0)) (.ix (.var 5) (.con (.int 0)))) (.cons (.ix (.var 5) (.con (.int 1))) .nil))))
 .nil)
 .nil)
 (.cons (.ife (.tv (.cmp .ne (.call 1 (.cons (.var 5) .nil)) (.var 0)))
 (.cons (.ret (.con .non))
 .nil)
 .nil)
 (.cons (.rtv 5)
 .nil))))))))))
/-- 4 read_ratio: slots 0 text, 1 found -/
def b_read_ratio : ISs := (.cons (.set 1 (.call 3 (.cons (.var 0) .nil)))
 (.cons (.ife (.tv (.cmp .is (.var 1) (.con .non)))
 (.cons (.rai [66, 97, 100, 84, 101, 120, 116] [112, 108, 97, 99, 101] (.cons (.con (.int 0)) .nil))
 .nil)
 .nil)
 (.cons (.rtv 1)
 .nil)))
/-- 5 row_text: slots 0 row, 1 kind -/
def b_row_text : ISs := (.cons (.ife (.tv (.cmp .eq (.blt .len (.cons (.var 0) .nil)) (.con (.int 0))))
 (.cons (.ret (.con (.str [45])))
 .nil)
 .nil)
 (.cons (.ret (.met .join (.con (.str [])) (.cons (.comp [1] (.nm 1) (.mv 0) .tt (.ix (.glo [76, 69, 84, 84, 69, 82, 83] (.str [97, 98, 99, 100, 101])) (.var 1))) .nil)))
 .nil))
/-- 6 read_row: slots 0 text, 1 sign -/
def b_read_row : ISs := (.cons (.ife (.tv (.cmp .eq (.var 0) (.con (.str [45]))))
 (.cons (.ret (.tup .nil))
 .nil)
 .nil)
 (.cons (.ife (.to (.tn (.tv (.chn .le .le (.con (.int 1)) (.blt .len (.cons (.var 0) .nil)) (.con (.int 40))))) (.tn (.tv (.blt .all1 (.cons (.comp [1] (.nm 1) (.mv 0) .tt (.cmp .isIn (.var 1) (.glo [76, 69, 84, 84, 69, 82, 83] (.str [97, 98, 99, 100, 101])))) .nil)))))
 (.cons (.rai [66, 97, 100, 84, 101, 120, 116] [112, 108, 97, 99, 101] (.cons (.con (.int 0)) .nil))
 .nil)
 .nil)
 (.cons (.ret (.blt .tuple1 (.cons (.comp [1] (.nm 1) (.mv 0) .tt (.met .index (.glo [76, 69, 84, 84, 69, 82, 83] (.str [97, 98, 99, 100, 101])) (.cons (.var 1) .nil))) .nil)))
 .nil)))
/-- 7 entry_text: slots 0 entry -/
def b_entry_text : ISs := (.cons (.ife (.tv (.cmp .eq (.ix (.var 0) (.con (.int 0))) (.con (.str [99, 111, 109, 101]))))
 (.cons (.ret (.bin .add (.con (.str [43])) (.ix (.glo [76, 69, 84, 84, 69, 82, 83] (.str [97, 98, 99, 100, 101])) (.ix (.var 0) (.con (.int 1))))))
 .nil)
 .nil)
 (.cons (.ret (.bin .add (.con (.str [45])) (.blt .str1 (.cons (.ix (.var 0) (.con (.int 1))) .nil))))
 .nil))
/-- 8 log_text: slots 0 log, 1 entry -/
def b_log_text : ISs := (.cons (.ife (.tv (.cmp .eq (.blt .len (.cons (.var 0) .nil)) (.con (.int 0))))
 (.cons (.ret (.con (.str [46])))
 .nil)
 .nil)
 (.cons (.ret (.met .join (.con (.str [32])) (.cons (.comp [1] (.nm 1) (.mv 0) .tt (.call 7 (.cons (.var 1) .nil))) .nil)))
 .nil))
/-- 9 lines_of: slots 0 text, 1 found, 2 start, 3 line, 4 words, 5 place, 6 word -/
def b_lines_of : ISs := (.cons (.set 1 (.lst .nil))
 (.cons (.set 2 (.con (.int 0)))
 (.cons (.fo (.nm 3) (.val (.met .split (.var 0) (.cons (.con (.str [10])) .nil)))
 (.cons (.set 4 (.lst .nil))
 (.cons (.set 5 (.var 2))
 (.cons (.fo (.nm 6) (.val (.met .split (.var 3) (.cons (.con (.str [32])) .nil)))
 (.cons (.exp (.mut .append 4 (.cons (.tup (.cons (.var 6) (.cons (.var 5) .nil))) .nil)))
 (.cons (.set 5 (.bin .add (.bin .add (.var 5) (.blt .len (.cons (.var 6) .nil))) (.con (.int 1))))
 .nil)))
 (.cons (.exp (.mut .append 1 (.cons (.tup (.cons (.var 2) (.cons (.var 4) (.cons (.bin .add (.var 2) (.blt .len (.cons (.var 3) .nil))) .nil)))) .nil)))
 (.cons (.set 2 (.bin .add (.bin .add (.var 2) (.blt .len (.cons (.var 3) .nil))) (.con (.int 1))))
 .nil))))))
 (.cons (.rtv 1)
 .nil))))
/-- 10 read_entry: slots 0 word, 1 index -/
def b_read_entry : ISs := (.cons (.ife (.ta (.tv (.cmp .eq (.blt .len (.cons (.var 0) .nil)) (.con (.int 2)))) (.ta (.tv (.cmp .eq (.ix (.var 0) (.con (.int 0))) (.con (.str [43])))) (.tv (.cmp .isIn (.ix (.var 0) (.con (.int 1))) (.glo [76, 69, 84, 84, 69, 82, 83] (.str [97, 98, 99, 100, 101]))))))
 (.cons (.ret (.tup (.cons (.con (.str [99, 111, 109, 101])) (.cons (.met .index (.glo [76, 69, 84, 84, 69, 82, 83] (.str [97, 98, 99, 100, 101])) (.cons (.ix (.var 0) (.con (.int 1))) .nil)) .nil))))
 .nil)
 .nil)
 (.cons (.ife (.ta (.tv (.cmp .eq (.slc (.var 0) (.con .non) (.con (.int 1))) (.con (.str [45])))) (.tv (.call 2 (.cons (.slc (.var 0) (.con (.int 1)) (.con .non)) (.cons (.con (.int 3)) .nil)))))
 (.cons (.ret (.tup (.cons (.con (.str [108, 101, 97, 118, 101])) (.cons (.blt .int1 (.cons (.slc (.var 0) (.con (.int 1)) (.con .non)) .nil)) .nil))))
 .nil)
 .nil)
 (.cons (.rai [66, 97, 100, 84, 101, 120, 116] [112, 108, 97, 99, 101] (.cons (.var 1) .nil))
 .nil)))
/-- 11 read_log: slots 0 text, 1 found, 2 line, 3 word, 4 index -/
def b_read_log : ISs := (.cons (.ife (.tv (.cmp .eq (.var 0) (.con (.str [46]))))
 (.cons (.ret (.tup .nil))
 .nil)
 .nil)
 (.cons (.set 1 (.lst .nil))
 (.cons (.fo (.nm 2) (.val (.call 9 (.cons (.var 0) .nil)))
 (.cons (.ife (.tv (.cmp .gt (.ix (.var 2) (.con (.int 0))) (.con (.int 0))))
 (.cons (.rai [66, 97, 100, 84, 101, 120, 116] [112, 108, 97, 99, 101] (.cons (.bin .sub (.ix (.var 2) (.con (.int 0))) (.con (.int 1))) .nil))
 .nil)
 .nil)
 (.cons (.fo (.tp [3, 4]) (.val (.ix (.var 2) (.con (.int 1))))
 (.cons (.exp (.mut .append 1 (.cons (.call 10 (.cons (.var 3) (.cons (.var 4) .nil))) .nil)))
 .nil))
 .nil)))
 (.cons (.ife (.tv (.cmp .gt (.blt .len (.cons (.var 1) .nil)) (.con (.int 16))))
 (.cons (.rai [66, 97, 100, 86, 97, 108, 117, 101] [119, 104, 97, 116] (.cons (.con (.str [108, 111, 103])) .nil))
 .nil)
 .nil)
 (.cons (.ret (.blt .tuple1 (.cons (.var 1) .nil)))
 .nil)))))
/-- 12 _law_mixed: slots 0 cell, 1 place, 2 first, 3 second -/
def b_law_mixed : ISs := (.cons (.set 2 (.bin .mod (.blt .int1 (.cons (.bin .add (.bin .add (.bin .mul (.var 0) (.con (.int 48271))) (.bin .mul (.var 1) (.con (.int 69621)))) (.con (.int 12345))) .nil)) (.con (.int 2147483647))))
 (.cons (.set 3 (.bin .mod (.blt .int1 (.cons (.bin .add (.bin .add (.bin .mul (.var 2) (.con (.int 16807))) (.bin .mul (.var 1) (.con (.int 331)))) (.con (.int 7))) .nil)) (.con (.int 2147483629))))
 (.cons (.ret (.bin .mod (.blt .int1 (.cons (.bin .fdiv (.var 3) (.con (.int 11))) .nil)) (.con (.int 1000000))))
 .nil)))
/-- 13 _law_numbers: slots 0 script, 1 many, 2 cells, 3 left, 4 cell, 5 found, 6 place, 7 spot -/
def b_law_numbers : ISs := (.cons (.set 2 (.slc (.var 0) (.con .non) (.con (.int 63))))
 (.cons (.set 3 (.lst .nil))
 (.cons (.fo (.nm 4) (.mv 2)
 (.cons (.ife (.tv (.cmp .ge (.blt .abs (.cons (.var 4) .nil)) (.con (.int 1000000000000000000))))
 (.cons (.exp (.mut .append 3 (.cons (.blt .abs (.cons (.var 4) .nil)) .nil)))
 .nil)
 (.cons (.exp (.mut .append 3 (.cons (.con (.int 0)) .nil)))
 .nil))
 .nil))
 (.cons (.set 5 (.lst .nil))
 (.cons (.fo (.nm 6) (.rng1 (.var 1))
 (.cons (.ife (.tv (.cmp .eq (.blt .len (.cons (.var 2) .nil)) (.con (.int 0))))
 (.cons (.exp (.mut .append 5 (.cons (.call 12 (.cons (.con (.int 0)) (.cons (.var 6) .nil))) .nil)))
 .nil)
 (.cons (.set 7 (.bin .mod (.blt .int1 (.cons (.var 6) .nil)) (.blt .len (.cons (.var 2) .nil))))
 (.cons (.ife (.tv (.cmp .gt (.ix (.var 3) (.var 7)) (.con (.int 0))))
 (.cons (.exp (.mut .append 5 (.cons (.bin .mod (.blt .int1 (.cons (.ix (.var 3) (.var 7)) .nil)) (.con (.int 1000000))) .nil)))
 (.cons (.six 3 (.var 7) (.bin .fdiv (.ix (.var 3) (.var 7)) (.con (.int 1000000))))
 .nil))
 (.cons (.exp (.mut .append 5 (.cons (.call 12 (.cons (.ix (.var 2) (.var 7)) (.cons (.var 6) .nil))) .nil)))
 .nil))
 .nil)))
 .nil))
 (.cons (.exp (.mut .reverse 5 .nil))
 (.cons (.rtv 5)
 .nil)))))))
/-- 14 _law_take: slots 0 pool, 1 base -/
def b_law_take : ISs := (.cons (.ife (.tv (.cmp .eq (.blt .len (.cons (.var 0) .nil)) (.con (.int 0))))
 (.cons (.ret (.con (.int 0)))
 .nil)
 .nil)
 (.cons (.ret (.bin .mod (.blt .int1 (.cons (.mut .pop 0 .nil) .nil)) (.var 1)))
 .nil))
/-- 15 _law_common: slots 0 one, 1 two -/
def b_law_common : ISs := (.cons (.set 0 (.blt .abs (.cons (.var 0) .nil)))
 (.cons (.set 1 (.blt .abs (.cons (.var 1) .nil)))
 (.cons (.wh (.tv (.cmp .gt (.var 1) (.con (.int 0))))
 (.cons (.par 0 1 (.var 1) (.bin .mod (.blt .int1 (.cons (.var 0) .nil)) (.var 1)))
 .nil))
 (.cons (.rtv 0)
 .nil))))
/-- 16 _law_lowest: slots 0 top, 1 bottom, 2 shared -/
def b_law_lowest : ISs := (.cons (.set 2 (.call 15 (.cons (.var 0) (.cons (.var 1) .nil))))
 (.cons (.ife (.tv (.cmp .lt (.var 1) (.con (.int 0))))
 (.cons (.set 2 (.bin .sub (.con (.int 0)) (.var 2)))
 .nil)
 .nil)
 (.cons (.ret (.tup (.cons (.bin .fdiv (.var 0) (.var 2)) (.cons (.bin .fdiv (.var 1) (.var 2)) .nil))))
 .nil)))
/-- 17 _law_same: slots 0 told, 1 due -/
def b_law_same : ISs := (.cons (.ret (.andv (.cmp .eq (.var 0) (.var 1)) (.req (.var 0) (.var 1))))
 .nil)
/-- 18 _law_refusal: slots 0 wrong -/
def b_law_refusal : ISs := (.cons (.ife (.to (.tn (.tv (.isa (.var 0) [(.own [86, 97, 108, 117, 101, 69, 114, 114, 111, 114])]))) (.tv (.isa (.var 0) [(.own [78, 111, 87, 104, 111, 108, 101]), (.own [84, 111, 111, 77, 97, 110, 121]), (.own [85, 110, 98, 97, 108, 97, 110, 99, 101, 100])])))
 (.cons (.ret (.tup (.cons (.con (.str [111, 116, 104, 101, 114])) (.cons (.con (.int 0)) .nil))))
 .nil)
 .nil)
 (.cons (.ife (.ta (.tv (.isa (.var 0) [(.own [66, 97, 100, 84, 101, 120, 116])])) (.tn (.tv (.isa (.var 0) [(.own [66, 97, 100, 86, 97, 108, 117, 101])]))))
 (.cons (.ret (.tup (.cons (.con (.str [112, 108, 97, 99, 101])) (.cons (.atr (.var 0) [112, 108, 97, 99, 101]) .nil))))
 .nil)
 .nil)
 (.cons (.ife (.ta (.tv (.isa (.var 0) [(.own [66, 97, 100, 86, 97, 108, 117, 101])])) (.tn (.tv (.isa (.var 0) [(.own [66, 97, 100, 84, 101, 120, 116])]))))
 (.cons (.ret (.tup (.cons (.con (.str [119, 104, 97, 116])) (.cons (.atr (.var 0) [119, 104, 97, 116]) .nil))))
 .nil)
 .nil)
 (.cons (.ret (.tup (.cons (.con (.str [111, 116, 104, 101, 114])) (.cons (.con (.int 1)) .nil))))
 .nil))))
/-- 19 _law_figures: slots 0 word, 1 most, 2 sign -/
def b_law_figures : ISs := (.cons (.ife (.to (.tv (.cmp .eq (.blt .len (.cons (.var 0) .nil)) (.con (.int 0)))) (.tv (.cmp .gt (.blt .len (.cons (.var 0) .nil)) (.var 1))))
 (.cons (.ret (.con (.bl false)))
 .nil)
 .nil)
 (.cons (.ife (.ta (.tv (.cmp .gt (.blt .len (.cons (.var 0) .nil)) (.con (.int 1)))) (.tv (.cmp .eq (.ix (.var 0) (.con (.int 0))) (.con (.str [48])))))
 (.cons (.ret (.con (.bl false)))
 .nil)
 .nil)
 (.cons (.ret (.blt .all1 (.cons (.comp [2] (.nm 2) (.mv 0) .tt (.cmp .isIn (.var 2) (.con (.str [48, 49, 50, 51, 52, 53, 54, 55, 56, 57])))) .nil)))
 .nil)))
/-- 20 _law_number: slots 0 word, 1 found, 2 sign -/
def b_law_number : ISs := (.cons (.set 1 (.con (.int 0)))
 (.cons (.fo (.nm 2) (.mv 0)
 (.cons (.set 1 (.bin .add (.bin .mul (.var 1) (.con (.int 10))) (.met .index (.con (.str [48, 49, 50, 51, 52, 53, 54, 55, 56, 57])) (.cons (.var 2) .nil))))
 .nil))
 (.cons (.rtv 1)
 .nil)))
/-- 21 _law_word: slots 0 part -/
def b_law_word : ISs := (.cons (.ife (.tv (.cmp .eq (.ix (.var 0) (.con (.int 1))) (.con (.int 1))))
 (.cons (.ret (.blt .str1 (.cons (.ix (.var 0) (.con (.int 0))) .nil)))
 .nil)
 .nil)
 (.cons (.ret (.bin .add (.bin .add (.blt .str1 (.cons (.ix (.var 0) (.con (.int 0))) .nil)) (.con (.str [47]))) (.blt .str1 (.cons (.ix (.var 0) (.con (.int 1))) .nil))))
 .nil))
/-- 22 _law_read_word: slots 0 word, 1 most, 2 body, 3 parts, 4 top, 5 bottom, 6 part -/
def b_law_read_word : ISs := (.cons (.ife (.tv (.cmp .gt (.blt .len (.cons (.var 0) .nil)) (.var 1)))
 (.cons (.ret (.con .non))
 .nil)
 .nil)
 (.cons (.set 2 (.var 0))
 (.cons (.ife (.tv (.cmp .eq (.slc (.var 0) (.con .non) (.con (.int 1))) (.con (.str [45]))))
 (.cons (.set 2 (.slc (.var 0) (.con (.int 1)) (.con .non)))
 .nil)
 .nil)
 (.cons (.set 3 (.met .split (.var 2) (.cons (.con (.str [47])) .nil)))
 (.cons (.ife (.to (.tv (.cmp .gt (.blt .len (.cons (.var 3) .nil)) (.con (.int 2)))) (.tn (.tv (.blt .all1 (.cons (.comp [6] (.nm 6) (.mv 3) .tt (.call 19 (.cons (.var 6) (.cons (.var 1) .nil)))) .nil)))))
 (.cons (.ret (.con .non))
 .nil)
 .nil)
 (.cons (.set 4 (.call 20 (.cons (.ix (.var 3) (.con (.int 0))) .nil)))
 (.cons (.set 5 (.con (.int 1)))
 (.cons (.ife (.tv (.cmp .eq (.blt .len (.cons (.var 3) .nil)) (.con (.int 2))))
 (.cons (.set 5 (.call 20 (.cons (.ix (.var 3) (.con (.int 1))) .nil)))
 (.cons (.ife (.to (.tv (.cmp .lt (.var 5) (.con (.int 2)))) (.tv (.cmp .ne (.call 15 (.cons (.var 4) (.cons (.var 5) .nil))) (.con (.int 1)))))
 (.cons (.ret (.con .non))
 .nil)
 .nil)
 .nil))
 .nil)
 (.cons (.ife (.tv (.cmp .eq (.slc (.var 0) (.con .non) (.con (.int 1))) (.con (.str [45]))))
 (.cons (.ife (.tv (.cmp .eq (.var 4) (.con (.int 0))))
 (.cons (.ret (.con .non))
 .nil)
 .nil)
 (.cons (.set 4 (.bin .sub (.con (.int 0)) (.var 4)))
 .nil))
 .nil)
 (.cons (.ret (.tup (.cons (.var 4) (.cons (.var 5) .nil))))
 .nil))))))))))
/-- 23 _law_told: slots 0 way, 1 text, 2 wrong -/
def b_law_told : ISs := (.cons (.try (.cons (.ife (.tv (.cmp .eq (.var 0) (.con (.int 0))))
 (.cons (.ret (.tup (.cons (.con (.str [118, 97, 108, 117, 101])) (.cons (.call 4 (.cons (.var 1) .nil)) .nil))))
 .nil)
 .nil)
 (.cons (.ife (.tv (.cmp .eq (.var 0) (.con (.int 1))))
 (.cons (.ret (.tup (.cons (.con (.str [118, 97, 108, 117, 101])) (.cons (.call 6 (.cons (.var 1) .nil)) .nil))))
 .nil)
 .nil)
 (.cons (.ret (.tup (.cons (.con (.str [118, 97, 108, 117, 101])) (.cons (.call 11 (.cons (.var 1) .nil)) .nil))))
 .nil)))
 [76, 105, 110, 101, 69, 114, 114, 111, 114] (some 2)
 (.cons (.ret (.call 38 (.cons (.var 2) .nil)))
 .nil))
 .nil)
/-- 24 _law_figures_drawn: slots 0 pool, 1 many, 2 found, 3 step -/
def b_law_figures_drawn : ISs := (.cons (.set 2 (.ix (.con (.str [49, 50, 51, 52, 53, 54, 55, 56, 57])) (.call 14 (.cons (.var 0) (.cons (.con (.int 9)) .nil)))))
 (.cons (.fo (.nm 3) (.rng1 (.bin .fdiv (.bin .add (.var 1) (.con (.int 5))) (.con (.int 6))))
 (.cons (.set 2 (.bin .add (.var 2) (.met .zfill (.blt .str1 (.cons (.call 14 (.cons (.var 0) (.cons (.con (.int 1000000)) .nil))) .nil)) (.cons (.con (.int 6)) .nil))))
 .nil))
 (.cons (.ret (.slc (.var 2) (.con .non) (.var 1)))
 .nil)))
/-- 25 _law_bent: slots 0 pool, 1 text, 2 signs, 3 sign, 4 place, 5 way -/
def b_law_bent : ISs := (.cons (.set 3 (.ix (.var 2) (.call 14 (.cons (.var 0) (.cons (.blt .len (.cons (.var 2) .nil)) .nil)))))
 (.cons (.set 4 (.call 14 (.cons (.var 0) (.cons (.bin .add (.blt .len (.cons (.var 1) .nil)) (.con (.int 1))) .nil))))
 (.cons (.set 5 (.call 14 (.cons (.var 0) (.cons (.con (.int 3)) .nil))))
 (.cons (.ife (.tv (.cmp .eq (.var 5) (.con (.int 0))))
 (.cons (.ret (.bin .add (.bin .add (.slc (.var 1) (.con .non) (.var 4)) (.var 3)) (.slc (.var 1) (.var 4) (.con .non))))
 .nil)
 .nil)
 (.cons (.ife (.tv (.cmp .eq (.var 5) (.con (.int 1))))
 (.cons (.ret (.bin .add (.bin .add (.slc (.var 1) (.con .non) (.var 4)) (.var 3)) (.slc (.var 1) (.bin .add (.var 4) (.con (.int 1))) (.con .non))))
 .nil)
 .nil)
 (.cons (.ret (.bin .add (.slc (.var 1) (.con .non) (.var 4)) (.slc (.var 1) (.bin .add (.var 4) (.con (.int 1))) (.con .non))))
 .nil))))))
/-- 26 _law_ratio_drawn: slots 0 pool, 1 sign, 2 sort, 3 many, 4 tops, 5 top, 6 low, 7 one, 8 two -/
def b_law_ratio_drawn : ISs := (.cons (.set 1 (.ix (.lst (.cons (.con (.str [])) (.cons (.con (.str [45])) .nil))) (.call 14 (.cons (.var 0) (.cons (.con (.int 2)) .nil)))))
 (.cons (.set 2 (.call 14 (.cons (.var 0) (.cons (.con (.int 6)) .nil))))
 (.cons (.set 3 (.bin .sub (.bin .add (.con (.int 129)) (.call 14 (.cons (.var 0) (.cons (.con (.int 3)) .nil)))) (.blt .len (.cons (.var 1) .nil))))
 (.cons (.ife (.tv (.cmp .eq (.var 2) (.con (.int 0))))
 (.cons (.ret (.bin .add (.var 1) (.call 24 (.cons (.var 0) (.cons (.bin .add (.con (.int 1)) (.call 14 (.cons (.var 0) (.cons (.var 3) .nil)))) .nil)))))
 .nil)
 .nil)
 (.cons (.ife (.tv (.cmp .eq (.var 2) (.con (.int 1))))
 (.cons (.ret (.bin .add (.var 1) (.call 24 (.cons (.var 0) (.cons (.var 3) .nil)))))
 .nil)
 .nil)
 (.cons (.ife (.tv (.cmp .eq (.var 2) (.con (.int 2))))
 (.cons (.set 4 (.bin .add (.con (.int 1)) (.call 14 (.cons (.var 0) (.cons (.bin .sub (.var 3) (.con (.int 3))) .nil)))))
 (.cons (.set 5 (.call 24 (.cons (.var 0) (.cons (.var 4) .nil))))
 (.cons (.ret (.bin .add (.bin .add (.bin .add (.bin .add (.var 1) (.slc (.var 5) (.con .non) (.bin .sub (.var 4) (.con (.int 1))))) (.ix (.con (.str [49, 51, 55, 57])) (.call 14 (.cons (.var 0) (.cons (.con (.int 4)) .nil))))) (.con (.str [47, 49]))) (.bin .smul (.con (.str [48])) (.bin .sub (.bin .sub (.var 3) (.con (.int 2))) (.var 4)))))
 .nil)))
 .nil)
 (.cons (.ife (.tv (.cmp .eq (.var 2) (.con (.int 3))))
 (.cons (.set 6 (.call 20 (.cons (.call 24 (.cons (.var 0) (.cons (.bin .add (.con (.int 1)) (.call 14 (.cons (.var 0) (.cons (.con (.int 65)) .nil)))) .nil))) .nil)))
 (.cons (.ret (.bin .add (.bin .add (.bin .add (.var 1) (.blt .str1 (.cons (.var 6) .nil))) (.con (.str [47]))) (.blt .str1 (.cons (.bin .add (.var 6) (.con (.int 1))) .nil))))
 .nil))
 .nil)
 (.cons (.ife (.tv (.cmp .eq (.var 2) (.con (.int 4))))
 (.cons (.set 7 (.call 20 (.cons (.call 24 (.cons (.var 0) (.cons (.bin .add (.con (.int 1)) (.call 14 (.cons (.var 0) (.cons (.con (.int 90)) .nil)))) .nil))) .nil)))
 (.cons (.set 8 (.call 20 (.cons (.call 24 (.cons (.var 0) (.cons (.bin .add (.con (.int 1)) (.call 14 (.cons (.var 0) (.cons (.con (.int 90)) .nil)))) .nil))) .nil)))
 (.cons (.ret (.bin .add (.var 1) (.call 21 (.cons (.call 16 (.cons (.var 7) (.cons (.var 8) .nil))) .nil))))
 .nil)))
 .nil)
 (.cons (.ret (.call 21 (.cons (.call 16 (.cons (.bin .sub (.call 14 (.cons (.var 0) (.cons (.con (.int 41)) .nil))) (.con (.int 20))) (.cons (.bin .add (.con (.int 1)) (.call 14 (.cons (.var 0) (.cons (.con (.int 12)) .nil)))) .nil))) .nil)))
 .nil)))))))))
/-- 27 _law_ratio_odd: slots 0 found -/
def b_law_ratio_odd : ISs := (.cons (.set 0 (.lst (.cons (.con (.str [])) (.cons (.con (.str [45])) (.cons (.con (.str [47])) (.cons (.con (.str [49, 47])) (.cons (.con (.str [47, 50])) (.cons (.con (.str [45, 48])) (.cons (.con (.str [48, 47, 49])) (.cons (.con (.str [48, 47, 51])) (.cons (.con (.str [48, 48])) (.cons (.con (.str [48, 49])) (.cons (.con (.str [45, 48, 49])) (.cons (.con (.str [50, 47, 52])) (.cons (.con (.str [49, 48, 47, 52])) (.cons (.con (.str [45, 51, 47, 54])) (.cons (.con (.str [51, 47, 51])) (.cons (.con (.str [49, 47, 49])) .nil))))))))))))))))))
 (.cons (.exp (.mut .extend 0 (.cons (.lst (.cons (.con (.str [49, 47, 48])) (.cons (.con (.str [48, 47, 48])) (.cons (.con (.str [45, 47, 50])) (.cons (.con (.str [45, 45, 49])) (.cons (.con (.str [49, 47, 45, 50])) (.cons (.con (.str [45, 49, 47, 45, 50])) (.cons (.con (.str [43, 49])) (.cons (.con (.str [49, 46, 53])) (.cons (.con (.str [32, 49])) (.cons (.con (.str [49, 32])) (.cons (.con (.str [49, 10])) (.cons (.con (.str [10, 49])) (.cons (.con (.str [49, 47, 50, 47, 51])) .nil)))))))))))))) .nil)))
 (.cons (.exp (.mut .extend 0 (.cons (.lst (.cons (.con (.str [49, 95, 48])) (.cons (.con (.str [49, 47, 48, 50])) (.cons (.con (.str [49, 32, 47, 50])) (.cons (.con (.str [78, 111, 110, 101])) (.cons (.con (.str [97])) (.cons (.con (.str [49, 101, 49])) (.cons (.con (.str [48, 120, 49])) (.cons (.con (.str [48])) (.cons (.con (.str [45, 49])) (.cons (.con (.str [49, 47, 50])) (.cons (.con (.str [45, 49, 48, 47, 51])) .nil)))))))))))) .nil)))
 (.cons (.rtv 0)
 .nil))))
/-- 28 _law_ratio_right: slots 0 word, 1 value -/
def b_law_ratio_right : ISs := (.cons (.set 1 (.call 22 (.cons (.var 0) (.cons (.con (.int 400)) .nil))))
 (.cons (.ife (.ta (.tv (.cmp .isNot (.var 1) (.con .non))) (.tn (.tv (.call 17 (.cons (.call 1 (.cons (.var 1) .nil)) (.cons (.var 0) .nil))))))
 (.cons (.ret (.con (.bl false)))
 .nil)
 .nil)
 (.cons (.ife (.to (.tv (.cmp .is (.var 1) (.con .non))) (.tv (.cmp .gt (.blt .len (.cons (.var 0) .nil)) (.con (.int 130)))))
 (.cons (.ret (.call 17 (.cons (.call 23 (.cons (.con (.int 0)) (.cons (.var 0) .nil))) (.cons (.tup (.cons (.con (.str [112, 108, 97, 99, 101])) (.cons (.con (.int 0)) .nil))) .nil))))
 .nil)
 .nil)
 (.cons (.ret (.call 17 (.cons (.call 23 (.cons (.con (.int 0)) (.cons (.var 0) .nil))) (.cons (.tup (.cons (.con (.str [118, 97, 108, 117, 101])) (.cons (.var 1) .nil))) .nil))))
 .nil))))
/-- 29 _law_kinds_drawn: slots 0 pool, 1 many, 2 found, 3 step, 4 number, 5 place -/
def b_law_kinds_drawn : ISs := (.cons (.set 2 (.lst .nil))
 (.cons (.fo (.nm 3) (.rng1 (.bin .fdiv (.bin .add (.var 1) (.con (.int 6))) (.con (.int 7))))
 (.cons (.set 4 (.call 14 (.cons (.var 0) (.cons (.con (.int 78125)) .nil))))
 (.cons (.fo (.nm 5) (.rng1 (.con (.int 7)))
 (.cons (.exp (.mut .append 2 (.cons (.bin .mod (.blt .int1 (.cons (.var 4) .nil)) (.con (.int 5))) .nil)))
 (.cons (.set 4 (.bin .fdiv (.var 4) (.con (.int 5))))
 .nil)))
 .nil)))
 (.cons (.ret (.blt .tuple1 (.cons (.slc (.var 2) (.con .non) (.var 1)) .nil)))
 .nil)))
/-- 30 _law_row_due: slots 0 text, 1 sign -/
def b_law_row_due : ISs := (.cons (.ife (.tv (.cmp .eq (.var 0) (.con (.str [45]))))
 (.cons (.ret (.tup (.cons (.con (.str [118, 97, 108, 117, 101])) (.cons (.tup .nil) .nil))))
 .nil)
 .nil)
 (.cons (.ife (.to (.tv (.cmp .lt (.blt .len (.cons (.var 0) .nil)) (.con (.int 1)))) (.to (.tv (.cmp .gt (.blt .len (.cons (.var 0) .nil)) (.con (.int 40)))) (.tn (.tv (.blt .all1 (.cons (.comp [1] (.nm 1) (.mv 0) .tt (.cmp .isIn (.var 1) (.con (.str [97, 98, 99, 100, 101])))) .nil))))))
 (.cons (.ret (.tup (.cons (.con (.str [112, 108, 97, 99, 101])) (.cons (.con (.int 0)) .nil))))
 .nil)
 .nil)
 (.cons (.ret (.tup (.cons (.con (.str [118, 97, 108, 117, 101])) (.cons (.blt .tuple1 (.cons (.comp [1] (.nm 1) (.mv 0) .tt (.met .index (.con (.str [97, 98, 99, 100, 101])) (.cons (.var 1) .nil))) .nil)) .nil))))
 .nil)))
/-- 31 _law_row_right: slots 0 pool, 1 row, 2 word, 3 texts, 4 text, 5 kind -/
def b_law_row_right : ISs := (.cons (.set 2 (.con (.str [45])))
 (.cons (.ife (.tv (.cmp .gt (.blt .len (.cons (.var 1) .nil)) (.con (.int 0))))
 (.cons (.set 2 (.met .join (.con (.str [])) (.cons (.comp [5] (.nm 5) (.mv 1) .tt (.ix (.con (.str [97, 98, 99, 100, 101])) (.var 5))) .nil)))
 .nil)
 .nil)
 (.cons (.ife (.ta (.tv (.cmp .le (.blt .len (.cons (.var 1) .nil)) (.con (.int 40)))) (.tn (.tv (.call 17 (.cons (.call 5 (.cons (.var 1) .nil)) (.cons (.var 2) .nil))))))
 (.cons (.ret (.con (.bl false)))
 .nil)
 .nil)
 (.cons (.set 3 (.lst (.cons (.var 2) (.cons (.bin .add (.var 2) (.con (.str [10]))) (.cons (.call 25 (.cons (.var 0) (.cons (.var 2) (.cons (.con (.str [97, 98, 99, 100, 101, 102, 65, 69, 45, 32, 48, 10])) .nil)))) (.cons (.call 25 (.cons (.var 0) (.cons (.var 2) (.cons (.con (.str [97, 98, 99, 100, 101, 102, 65, 69, 45, 32, 48, 10])) .nil)))) .nil))))))
 (.cons (.exp (.mut .extend 3 (.cons (.lst (.cons (.con (.str [])) (.cons (.con (.str [45, 45])) (.cons (.con (.str [102])) (.cons (.con (.str [65])) (.cons (.con (.str [97, 32, 98])) (.cons (.con (.str [97, 45])) (.cons (.con (.str [45, 97])) (.cons (.con (.str [32, 97])) (.cons (.con (.str [48])) (.cons (.con (.str [97, 44, 98])) (.cons (.con (.str [101])) (.cons (.con (.str [45])) (.cons (.var 2) .nil)))))))))))))) .nil)))
 (.cons (.fo (.nm 4) (.mv 3)
 (.cons (.ife (.tn (.tv (.call 17 (.cons (.call 23 (.cons (.con (.int 1)) (.cons (.var 4) .nil))) (.cons (.call 30 (.cons (.var 4) .nil)) .nil)))))
 (.cons (.ret (.con (.bl false)))
 .nil)
 .nil)
 .nil))
 (.cons (.ret (.con (.bl true)))
 .nil)))))))
/-- 32 _law_entry_due: slots 0 word -/
def b_law_entry_due : ISs := (.cons (.ife (.ta (.tv (.cmp .eq (.blt .len (.cons (.var 0) .nil)) (.con (.int 2)))) (.ta (.tv (.cmp .eq (.ix (.var 0) (.con (.int 0))) (.con (.str [43])))) (.tv (.cmp .isIn (.ix (.var 0) (.con (.int 1))) (.con (.str [97, 98, 99, 100, 101]))))))
 (.cons (.ret (.tup (.cons (.con (.str [99, 111, 109, 101])) (.cons (.met .index (.con (.str [97, 98, 99, 100, 101])) (.cons (.ix (.var 0) (.con (.int 1))) .nil)) .nil))))
 .nil)
 .nil)
 (.cons (.ife (.ta (.tv (.cmp .eq (.slc (.var 0) (.con .non) (.con (.int 1))) (.con (.str [45])))) (.tv (.call 19 (.cons (.slc (.var 0) (.con (.int 1)) (.con .non)) (.cons (.con (.int 3)) .nil)))))
 (.cons (.ret (.tup (.cons (.con (.str [108, 101, 97, 118, 101])) (.cons (.call 20 (.cons (.slc (.var 0) (.con (.int 1)) (.con .non)) .nil)) .nil))))
 .nil)
 .nil)
 (.cons (.ret (.con .non))
 .nil)))
/-- 33 _law_log_due: slots 0 text, 1 ahead, 2 found, 3 index, 4 word, 5 entry -/
def b_law_log_due : ISs := (.cons (.ife (.tv (.cmp .eq (.var 0) (.con (.str [46]))))
 (.cons (.ret (.tup (.cons (.con (.str [118, 97, 108, 117, 101])) (.cons (.tup .nil) .nil))))
 .nil)
 .nil)
 (.cons (.set 1 (.ix (.met .partition (.var 0) (.cons (.con (.str [10])) .nil)) (.con (.int 0))))
 (.cons (.set 2 (.lst .nil))
 (.cons (.set 3 (.con (.int 0)))
 (.cons (.fo (.nm 4) (.val (.met .split (.var 1) (.cons (.con (.str [32])) .nil)))
 (.cons (.set 5 (.call 32 (.cons (.var 4) .nil)))
 (.cons (.ife (.tv (.cmp .is (.var 5) (.con .non)))
 (.cons (.ret (.tup (.cons (.con (.str [112, 108, 97, 99, 101])) (.cons (.var 3) .nil))))
 .nil)
 .nil)
 (.cons (.exp (.mut .append 2 (.cons (.var 5) .nil)))
 (.cons (.set 3 (.bin .add (.bin .add (.var 3) (.blt .len (.cons (.var 4) .nil))) (.con (.int 1))))
 .nil)))))
 (.cons (.ife (.tv (.cmp .lt (.blt .len (.cons (.var 1) .nil)) (.blt .len (.cons (.var 0) .nil))))
 (.cons (.ret (.tup (.cons (.con (.str [112, 108, 97, 99, 101])) (.cons (.blt .len (.cons (.var 1) .nil)) .nil))))
 .nil)
 .nil)
 (.cons (.ife (.tv (.cmp .gt (.blt .len (.cons (.var 2) .nil)) (.con (.int 16))))
 (.cons (.ret (.tup (.cons (.con (.str [119, 104, 97, 116])) (.cons (.con (.str [108, 111, 103])) .nil))))
 .nil)
 .nil)
 (.cons (.ret (.tup (.cons (.con (.str [118, 97, 108, 117, 101])) (.cons (.blt .tuple1 (.cons (.var 2) .nil)) .nil))))
 .nil))))))))
/-- 34 _law_log_words: slots 0 pool, 1 many, 2 found, 3 place, 4 sort -/
def b_law_log_words : ISs := (.cons (.set 1 (.call 14 (.cons (.var 0) (.cons (.con (.int 20)) .nil))))
 (.cons (.ife (.tv (.cmp .gt (.var 1) (.con (.int 17))))
 (.cons (.set 1 (.con (.int 16)))
 .nil)
 .nil)
 (.cons (.set 2 (.lst .nil))
 (.cons (.fo (.nm 3) (.rng1 (.var 1))
 (.cons (.set 4 (.call 14 (.cons (.var 0) (.cons (.con (.int 8)) .nil))))
 (.cons (.ife (.tv (.cmp .lt (.var 4) (.con (.int 4))))
 (.cons (.exp (.mut .append 2 (.cons (.bin .add (.con (.str [43])) (.ix (.con (.str [97, 98, 99, 100, 101])) (.call 14 (.cons (.var 0) (.cons (.con (.int 5)) .nil))))) .nil)))
 .nil)
 (.cons (.ife (.tv (.cmp .lt (.var 4) (.con (.int 6))))
 (.cons (.exp (.mut .append 2 (.cons (.bin .add (.con (.str [45])) (.blt .str1 (.cons (.call 14 (.cons (.var 0) (.cons (.con (.int 10)) .nil))) .nil))) .nil)))
 .nil)
 (.cons (.ife (.tv (.cmp .eq (.var 4) (.con (.int 6))))
 (.cons (.exp (.mut .append 2 (.cons (.bin .add (.con (.str [45])) (.blt .str1 (.cons (.call 14 (.cons (.var 0) (.cons (.con (.int 1000)) .nil))) .nil))) .nil)))
 .nil)
 (.cons (.exp (.mut .append 2 (.cons (.bin .add (.con (.str [45])) (.ix (.lst (.cons (.con (.str [48])) (.cons (.con (.str [57])) (.cons (.con (.str [49, 48])) (.cons (.con (.str [57, 57])) (.cons (.con (.str [49, 48, 48])) (.cons (.con (.str [57, 57, 57])) .nil))))))) (.call 14 (.cons (.var 0) (.cons (.con (.int 6)) .nil))))) .nil)))
 .nil))
 .nil))
 .nil))
 .nil)))
 (.cons (.rtv 2)
 .nil)))))
/-- 35 _law_log_bent: slots 0 pool, 1 words, 2 odd, 3 word, 4 place, 5 way -/
def b_law_log_bent : ISs := (.cons (.set 2 (.lst (.cons (.con (.str [])) (.cons (.con (.str [45])) (.cons (.con (.str [43])) (.cons (.con (.str [43, 102])) (.cons (.con (.str [43, 97, 98])) (.cons (.con (.str [45, 48, 49])) (.cons (.con (.str [45, 49, 48, 48, 48])) (.cons (.con (.str [45, 48, 48])) (.cons (.con (.str [46])) (.cons (.con (.str [97])) (.cons (.con (.str [45, 45, 49])) (.cons (.con (.str [43, 48])) (.cons (.con (.str [45, 97])) (.cons (.con (.str [43, 65])) (.cons (.con (.str [43, 45])) (.cons (.con (.str [99, 111, 109, 101])) (.cons (.con (.str [45, 49, 47, 50])) .nil)))))))))))))))))))
 (.cons (.exp (.mut .extend 2 (.cons (.lst (.cons (.con (.str [42, 97])) (.cons (.con (.str [45, 57, 57, 57])) (.cons (.con (.str [43, 101])) (.cons (.con (.str [45, 48])) (.cons (.con (.str [45, 43])) (.cons (.con (.str [49])) (.cons (.con (.str [97, 43])) (.cons (.con (.str [43, 32])) .nil))))))))) .nil)))
 (.cons (.set 3 (.ix (.var 2) (.call 14 (.cons (.var 0) (.cons (.blt .len (.cons (.var 2) .nil)) .nil)))))
 (.cons (.set 4 (.call 14 (.cons (.var 0) (.cons (.blt .len (.cons (.var 1) .nil)) .nil))))
 (.cons (.set 5 (.call 14 (.cons (.var 0) (.cons (.con (.int 6)) .nil))))
 (.cons (.ife (.tv (.cmp .eq (.var 5) (.con (.int 0))))
 (.cons (.ret (.met .join (.con (.str [32])) (.cons (.bin .add (.bin .add (.slc (.var 1) (.con .non) (.var 4)) (.lst (.cons (.var 3) .nil))) (.slc (.var 1) (.bin .add (.var 4) (.con (.int 1))) (.con .non))) .nil)))
 .nil)
 .nil)
 (.cons (.ife (.tv (.cmp .eq (.var 5) (.con (.int 1))))
 (.cons (.ret (.met .join (.con (.str [32])) (.cons (.bin .add (.bin .add (.slc (.var 1) (.con .non) (.var 4)) (.lst (.cons (.var 3) .nil))) (.slc (.var 1) (.var 4) (.con .non))) .nil)))
 .nil)
 .nil)
 (.cons (.ife (.tv (.cmp .eq (.var 5) (.con (.int 2))))
 (.cons (.ret (.met .join (.con (.str [32])) (.cons (.bin .add (.slc (.var 1) (.con .non) (.var 4)) (.slc (.var 1) (.bin .add (.var 4) (.con (.int 1))) (.con .non))) .nil)))
 .nil)
 .nil)
 (.cons (.ife (.tv (.cmp .eq (.var 5) (.con (.int 3))))
 (.cons (.ret (.met .join (.con (.str [32])) (.cons (.bin .add (.bin .add (.slc (.var 1) (.con .non) (.var 4)) (.lst (.cons (.bin .add (.bin .add (.ix (.var 1) (.var 4)) (.con (.str [10]))) (.var 3)) .nil))) (.slc (.var 1) (.bin .add (.var 4) (.con (.int 1))) (.con .non))) .nil)))
 .nil)
 .nil)
 (.cons (.ife (.tv (.cmp .eq (.var 5) (.con (.int 4))))
 (.cons (.ret (.bin .add (.bin .add (.met .join (.con (.str [32])) (.cons (.slc (.var 1) (.con .non) (.bin .add (.var 4) (.con (.int 1)))) .nil)) (.con (.str [10]))) (.met .join (.con (.str [32])) (.cons (.slc (.var 1) (.bin .add (.var 4) (.con (.int 1))) (.con .non)) .nil))))
 .nil)
 .nil)
 (.cons (.ret (.call 25 (.cons (.var 0) (.cons (.met .join (.con (.str [32])) (.cons (.var 1) .nil)) (.cons (.con (.str [43, 45, 97, 98, 99, 100, 101, 102, 48, 49, 50, 51, 52, 53, 57, 32, 46, 10, 47])) .nil)))))
 .nil)))))))))))
/-- 36 _law_logs_right: slots 0 pool, 1 words, 2 text, 3 due, 4 texts, 5 turn, 6 one -/
def b_law_logs_right : ISs := (.cons (.set 1 (.call 34 (.cons (.var 0) .nil)))
 (.cons (.ife (.tv (.cmp .eq (.blt .len (.cons (.var 1) .nil)) (.con (.int 0))))
 (.cons (.set 1 (.lst (.cons (.con (.str [46])) .nil)))
 .nil)
 .nil)
 (.cons (.set 2 (.met .join (.con (.str [32])) (.cons (.var 1) .nil)))
 (.cons (.set 3 (.call 33 (.cons (.var 2) .nil)))
 (.cons (.ife (.ta (.tv (.cmp .eq (.ix (.var 3) (.con (.int 0))) (.con (.str [118, 97, 108, 117, 101])))) (.tn (.tv (.call 17 (.cons (.call 8 (.cons (.ix (.var 3) (.con (.int 1))) .nil)) (.cons (.var 2) .nil))))))
 (.cons (.ret (.con (.bl false)))
 .nil)
 .nil)
 (.cons (.set 4 (.lst (.cons (.var 2) (.cons (.bin .add (.var 2) (.con (.str [10]))) (.cons (.con (.str [])) (.cons (.con (.str [10])) (.cons (.con (.str [32])) (.cons (.con (.str [46])) (.cons (.bin .add (.var 2) (.con (.str [32, 46]))) .nil)))))))))
 (.cons (.fo (.nm 5) (.rng1 (.con (.int 6)))
 (.cons (.exp (.mut .append 4 (.cons (.call 35 (.cons (.var 0) (.cons (.var 1) .nil))) .nil)))
 .nil))
 (.cons (.exp (.mut .append 4 (.cons (.var 2) .nil)))
 (.cons (.fo (.nm 6) (.mv 4)
 (.cons (.ife (.tn (.tv (.call 17 (.cons (.call 23 (.cons (.con (.int 2)) (.cons (.var 6) .nil))) (.cons (.call 33 (.cons (.var 6) .nil)) .nil)))))
 (.cons (.ret (.con (.bl false)))
 .nil)
 .nil)
 .nil))
 (.cons (.ret (.con (.bl true)))
 .nil))))))))))
/-- 37 law: slots 0 script, 1 pool, 2 words, 3 turn, 4 word, 5 many -/
def b_law : ISs := (.cons (.set 1 (.call 13 (.cons (.var 0) (.cons (.con (.int 240)) .nil))))
 (.cons (.set 2 (.lst .nil))
 (.cons (.fo (.nm 3) (.rng1 (.con (.int 3)))
 (.cons (.exp (.mut .append 2 (.cons (.call 26 (.cons (.var 1) .nil)) .nil)))
 .nil))
 (.cons (.fo (.nm 3) (.rng1 (.con (.int 3)))
 (.cons (.exp (.mut .append 2 (.cons (.call 25 (.cons (.var 1) (.cons (.ix (.var 2) (.var 3)) (.cons (.con (.str [48, 49, 50, 51, 52, 53, 54, 55, 56, 57, 47, 45, 43, 46, 32, 97, 95, 10])) .nil)))) .nil)))
 .nil))
 (.cons (.fo (.nm 4) (.val (.bin .add (.var 2) (.call 27 .nil)))
 (.cons (.ife (.tn (.tv (.call 28 (.cons (.var 4) .nil))))
 (.cons (.ret (.con (.bl false)))
 .nil)
 .nil)
 .nil))
 (.cons (.set 5 (.ix (.lst (.cons (.con (.int 0)) (.cons (.con (.int 1)) (.cons (.con (.int 2)) (.cons (.con (.int 3)) (.cons (.con (.int 4)) (.cons (.con (.int 7)) (.cons (.con (.int 12)) (.cons (.con (.int 20)) (.cons (.con (.int 39)) (.cons (.con (.int 40)) (.cons (.con (.int 40)) (.cons (.con (.int 41)) .nil))))))))))))) (.call 14 (.cons (.var 1) (.cons (.con (.int 12)) .nil)))))
 (.cons (.ife (.to (.tn (.tv (.call 31 (.cons (.var 1) (.cons (.call 29 (.cons (.var 1) (.cons (.var 5) .nil))) .nil))))) (.tn (.tv (.call 36 (.cons (.var 1) .nil)))))
 (.cons (.ret (.con (.bl false)))
 .nil)
 .nil)
 (.cons (.fo (.nm 4) (.mv 2)
 (.cons (.ife (.tn (.tv (.call 28 (.cons (.var 4) .nil))))
 (.cons (.ret (.con (.bl false)))
 .nil)
 .nil)
 .nil))
 (.cons (.ret (.con (.bl true)))
 .nil)))))))))
/-- 38 _law_refusal (an error is handled): slots 0 wrong -/
def h_law_refusal : ISs := (.cons (.ife (.to (.tn (.tv (.isa (.var 0) [(.own [86, 97, 108, 117, 101, 69, 114, 114, 111, 114])]))) (.tv (.isa (.var 0) [(.own [78, 111, 87, 104, 111, 108, 101]), (.own [84, 111, 111, 77, 97, 110, 121]), (.own [85, 110, 98, 97, 108, 97, 110, 99, 101, 100])])))
 (.cons (.ret (.tup (.cons (.con (.str [111, 116, 104, 101, 114])) (.cons (.con (.int 0)) .nil))))
 .nil)
 .nil)
 (.cons (.ife (.ta (.tv (.isa (.var 0) [(.own [66, 97, 100, 84, 101, 120, 116])])) (.tn (.tv (.isa (.var 0) [(.own [66, 97, 100, 86, 97, 108, 117, 101])]))))
 (.cons (.ret (.tup (.cons (.con (.str [112, 108, 97, 99, 101])) (.cons (.atr (.var 0) [112, 108, 97, 99, 101]) .nil))))
 .nil)
 .nil)
 (.cons (.ife (.ta (.tv (.isa (.var 0) [(.own [66, 97, 100, 86, 97, 108, 117, 101])])) (.tn (.tv (.isa (.var 0) [(.own [66, 97, 100, 84, 101, 120, 116])]))))
 (.cons (.ret (.tup (.cons (.con (.str [119, 104, 97, 116])) (.cons (.atr (.var 0) [119, 104, 97, 116]) .nil))))
 .nil)
 .nil)
 (.cons (.ret (.tup (.cons (.con (.str [111, 116, 104, 101, 114])) (.cons (.con (.int 1)) .nil))))
 .nil))))
def hot : List Nat := [18]
def T : List Def := [⟨2, 3, b_ratio⟩,
 ⟨1, 1, b_ratio_text⟩,
 ⟨2, 3, b_is_figures⟩,
 ⟨1, 6, b_ratio_of_word⟩,
 ⟨1, 2, b_read_ratio⟩,
 ⟨1, 2, b_row_text⟩,
 ⟨1, 2, b_read_row⟩,
 ⟨1, 1, b_entry_text⟩,
 ⟨1, 2, b_log_text⟩,
 ⟨1, 7, b_lines_of⟩,
 ⟨2, 2, b_read_entry⟩,
 ⟨1, 5, b_read_log⟩,
 ⟨2, 4, b_law_mixed⟩,
 ⟨2, 8, b_law_numbers⟩,
 ⟨2, 2, b_law_take⟩,
 ⟨2, 2, b_law_common⟩,
 ⟨2, 3, b_law_lowest⟩,
 ⟨2, 2, b_law_same⟩,
 ⟨1, 1, b_law_refusal⟩,
 ⟨2, 3, b_law_figures⟩,
 ⟨1, 3, b_law_number⟩,
 ⟨1, 1, b_law_word⟩,
 ⟨2, 7, b_law_read_word⟩,
 ⟨2, 3, b_law_told⟩,
 ⟨2, 4, b_law_figures_drawn⟩,
 ⟨3, 6, b_law_bent⟩,
 ⟨1, 9, b_law_ratio_drawn⟩,
 ⟨0, 1, b_law_ratio_odd⟩,
 ⟨1, 2, b_law_ratio_right⟩,
 ⟨2, 6, b_law_kinds_drawn⟩,
 ⟨1, 2, b_law_row_due⟩,
 ⟨2, 6, b_law_row_right⟩,
 ⟨1, 1, b_law_entry_due⟩,
 ⟨1, 6, b_law_log_due⟩,
 ⟨1, 5, b_law_log_words⟩,
 ⟨2, 6, b_law_log_bent⟩,
 ⟨1, 7, b_law_logs_right⟩,
 ⟨1, 6, b_law⟩,
 ⟨1, 1, h_law_refusal⟩]
/-- the slots' names -/
def NM : List (List Txt) := [[[116, 111, 112], [98, 111, 116, 116, 111, 109], [115, 104, 97, 114, 101, 100]],
 [[118, 97, 108, 117, 101]],
 [[119, 111, 114, 100], [109, 111, 115, 116], [115, 105, 103, 110]],
 [[119, 111, 114, 100], [98, 111, 100, 121], [116, 111, 112], [115, 108, 97, 115, 104], [98, 111, 116, 116, 111, 109], [102, 111, 117, 110, 100]],
 [[116, 101, 120, 116], [102, 111, 117, 110, 100]],
 [[114, 111, 119], [107, 105, 110, 100]],
 [[116, 101, 120, 116], [115, 105, 103, 110]],
 [[101, 110, 116, 114, 121]],
 [[108, 111, 103], [101, 110, 116, 114, 121]],
 [[116, 101, 120, 116], [102, 111, 117, 110, 100], [115, 116, 97, 114, 116], [108, 105, 110, 101], [119, 111, 114, 100, 115], [112, 108, 97, 99, 101], [119, 111, 114, 100]],
 [[119, 111, 114, 100], [105, 110, 100, 101, 120]],
 [[116, 101, 120, 116], [102, 111, 117, 110, 100], [108, 105, 110, 101], [119, 111, 114, 100], [105, 110, 100, 101, 120]],
 [[99, 101, 108, 108], [112, 108, 97, 99, 101], [102, 105, 114, 115, 116], [115, 101, 99, 111, 110, 100]],
 [[115, 99, 114, 105, 112, 116], [109, 97, 110, 121], [99, 101, 108, 108, 115], [108, 101, 102, 116], [99, 101, 108, 108], [102, 111, 117, 110, 100], [112, 108, 97, 99, 101], [115, 112, 111, 116]],
 [[112, 111, 111, 108], [98, 97, 115, 101]],
 [[111, 110, 101], [116, 119, 111]],
 [[116, 111, 112], [98, 111, 116, 116, 111, 109], [115, 104, 97, 114, 101, 100]],
 [[116, 111, 108, 100], [100, 117, 101]],
 [[119, 114, 111, 110, 103]],
 [[119, 111, 114, 100], [109, 111, 115, 116], [115, 105, 103, 110]],
 [[119, 111, 114, 100], [102, 111, 117, 110, 100], [115, 105, 103, 110]],
 [[112, 97, 114, 116]],
 [[119, 111, 114, 100], [109, 111, 115, 116], [98, 111, 100, 121], [112, 97, 114, 116, 115], [116, 111, 112], [98, 111, 116, 116, 111, 109], [112, 97, 114, 116]],
 [[119, 97, 121], [116, 101, 120, 116], [119, 114, 111, 110, 103]],
 [[112, 111, 111, 108], [109, 97, 110, 121], [102, 111, 117, 110, 100], [115, 116, 101, 112]],
 [[112, 111, 111, 108], [116, 101, 120, 116], [115, 105, 103, 110, 115], [115, 105, 103, 110], [112, 108, 97, 99, 101], [119, 97, 121]],
 [[112, 111, 111, 108], [115, 105, 103, 110], [115, 111, 114, 116], [109, 97, 110, 121], [116, 111, 112, 115], [116, 111, 112], [108, 111, 119], [111, 110, 101], [116, 119, 111]],
 [[102, 111, 117, 110, 100]],
 [[119, 111, 114, 100], [118, 97, 108, 117, 101]],
 [[112, 111, 111, 108], [109, 97, 110, 121], [102, 111, 117, 110, 100], [115, 116, 101, 112], [110, 117, 109, 98, 101, 114], [112, 108, 97, 99, 101]],
 [[116, 101, 120, 116], [115, 105, 103, 110]],
 [[112, 111, 111, 108], [114, 111, 119], [119, 111, 114, 100], [116, 101, 120, 116, 115], [116, 101, 120, 116], [107, 105, 110, 100]],
 [[119, 111, 114, 100]],
 [[116, 101, 120, 116], [97, 104, 101, 97, 100], [102, 111, 117, 110, 100], [105, 110, 100, 101, 120], [119, 111, 114, 100], [101, 110, 116, 114, 121]],
 [[112, 111, 111, 108], [109, 97, 110, 121], [102, 111, 117, 110, 100], [112, 108, 97, 99, 101], [115, 111, 114, 116]],
 [[112, 111, 111, 108], [119, 111, 114, 100, 115], [111, 100, 100], [119, 111, 114, 100], [112, 108, 97, 99, 101], [119, 97, 121]],
 [[112, 111, 111, 108], [119, 111, 114, 100, 115], [116, 101, 120, 116], [100, 117, 101], [116, 101, 120, 116, 115], [116, 117, 114, 110], [111, 110, 101]],
 [[115, 99, 114, 105, 112, 116], [112, 111, 111, 108], [119, 111, 114, 100, 115], [116, 117, 114, 110], [119, 111, 114, 100], [109, 97, 110, 121]],
 [[119, 114, 111, 110, 103]]]
def par : List (Txt × Txt) := [([76, 105, 110, 101, 69, 114, 114, 111, 114], [86, 97, 108, 117, 101, 69, 114, 114, 111, 114]), ([66, 97, 100, 86, 97, 108, 117, 101], [76, 105, 110, 101, 69, 114, 114, 111, 114]), ([84, 111, 111, 77, 97, 110, 121], [76, 105, 110, 101, 69, 114, 114, 111, 114]), ([78, 111, 87, 104, 111, 108, 101], [76, 105, 110, 101, 69, 114, 114, 111, 114]), ([85, 110, 98, 97, 108, 97, 110, 99, 101, 100], [76, 105, 110, 101, 69, 114, 114, 111, 114]), ([66, 97, 100, 84, 101, 120, 116], [76, 105, 110, 101, 69, 114, 114, 111, 114])]
end K85

end
section
set_option Elab.async false
set_option linter.all false
set_option maxRecDepth 100000
set_option maxHeartbeats 0
/-! law_k85_words: the head, and the law from its plain law. -/
namespace H85
open PySem PySem.Spec PyProof.Rows L2 LB
abbrev Pr : Program := PySem.Challenge.pw_linefactor_k85_words
def dOf : Stmt → List FD
  | .FunctionDef n a b _ _ _ sc _ _ _ => [⟨n, a, b, sc⟩]
  | _ => []
def fns : List FD := Pr.main.body.flatMap dOf
def tx (s : String) : PL.Txt := s.toList.map Char.toNat
def initS : Stmt → Arguments × List Stmt × Scope
  | .ClassDef _ _ _ [.FunctionDef _ a b _ _ _ sc _ _ _] _ _ _ _ _ _ _ => (a, b, sc)
  | _ => (⟨[], [], none, [], [], none, []⟩, [], ⟨.function, [], false, false, []⟩)
def iText : Arguments × List Stmt × Scope := initS (Pr.main.body.getD 7 (.Pass ⟨0, 0, 0, 0⟩))
def dText : XD := ⟨"BadText", tx "BadText", tx "place", "BadText.__init__", iText.1, iText.2.1, iText.2.2⟩
def iBad : Arguments × List Stmt × Scope := initS (Pr.main.body.getD 3 (.Pass ⟨0, 0, 0, 0⟩))
def dBad : XD := ⟨"BadValue", tx "BadValue", tx "what", "BadValue.__init__", iBad.1, iBad.2.1, iBad.2.2⟩
def cl : List (Str × PL.Txt) := [("LineError", tx "LineError"), ("BadValue", tx "BadValue"), ("TooMany", tx "TooMany"), ("NoWhole", tx "NoWhole"), ("Unbalanced", tx "Unbalanced"), ("BadText", tx "BadText")]
def free : List Str := ["len", "abs", "min", "max", "sum", "all", "any", "int", "str", "tuple", "list", "bool", "isinstance", "range", "ValueError", "super", "repr"]
def hi : HI := ⟨fns, cl, K85.par, [tx "what", tx "place"], [("LETTERS", .str (tx "abcde")), ("FIGURES", .str (tx "0123456789"))], [dBad, dText], free⟩
def hf : List (Nat × Nat) := K85.hot.zip ((List.range K85.hot.length).map fun i => fns.length + i)
abbrev R : PySem.W.OpenRow := PySem.W.OpenLaw.row PySem.Challenge.rw_linefactor_k85_words
def ob (s : PySem.W.SharedT) : AlL := obsLG Pr 4 hi (HandSHeadRun.getT s)
abbrev hk : PySem.W.Hook := hookL Pr 4 hi
theorem ob_eq (s : PySem.W.SharedT) : ob s = hk.obs s.abs := obsLG_eq (HandSHeadRun.getT_eq s)
def lawAt : Nat := Pr.main.body.length - 1
def names : List PySem.Str := (Pr.main.scope.names.map (·.1)).filter fun n => n != "law" && n != "__name__" && n != "gcd"
theorem badOk : XDok dBad := by
  refine ⟨"self", "what", _, _, _, _, _, _, _, _, _, _, taWhat "this is not a good ", rfl, ⟨rfl, rfl, rfl, rfl, rfl, by decide +kernel, by decide +kernel, by decide +kernel⟩, fun X hN hs hm => ?_, taOk_what (by decide +kernel), by decide +kernel, rfl, fun _ => rfl, fun env => sw_none rfl, rfl, rfl, rfl, rfl, rfl, rfl, rfl, rfl⟩
  exact pa_what (by rw [hN]; rfl) (.inl (by rw [hs]; rfl)) rfl rfl
theorem textOk : XDok dText := by
  refine ⟨"self", "place", _, _, _, _, _, _, _, _, _, _, taNum "the text is wrong at index ", rfl, ⟨rfl, rfl, rfl, rfl, rfl, by decide +kernel, by decide +kernel, by decide +kernel⟩, fun X hN hs hm => ?_, taOk_num (by decide +kernel) (by decide +kernel) (by decide +kernel) (by decide +kernel), by decide +kernel, rfl, fun _ => rfl, fun env => sw_none rfl, rfl, rfl, rfl, rfl, rfl, rfl, rfl, rfl⟩
  exact pa_num (by rw [hN]; rfl) (.inl (by rw [hs]; rfl)) (by show X.env.scope.names.lookup _ = _; rw [hs]; rfl) hm rfl rfl
theorem hok : HOk Pr hi := ⟨by decide +kernel, by decide +kernel, by decide +kernel, by decide +kernel, by decide +kernel, by decide +kernel, fun d hd => by
  have hd : d = dBad ∨ d = dText := by simpa [hi] using hd
  rcases hd with rfl | rfl
  · exact badOk
  · exact textOk, fun d hd => by
  have hd : d = dBad ∨ d = dText := by simpa [hi] using hd
  rcases hd with rfl | rfl
  · decide +kernel
  · decide +kernel⟩
theorem chk : chkAll hi hf (mcL hi (hfL hi hf)) K85.T K85.NM = true := by kernel_rfl
theorem run (w : World) : HandSHeadRun.RunEqI R (PySem.W.view R.prog [0, lawAt]) hk ob 30000 names w := by
  unfold HandSHeadRun.RunEqI
  kernel_rfl
/-- the law, where its trees answer True -/
def Pl : Prop := ∃ L : Nat, ∀ ns : List Int, ns.length ≤ 63 → ∃ back, PL.callF K85.T K85.par L 40 37 [.p (.sls ns)] = .ok (.p (.bl true)) back
end H85
open PySem PySem.W PySem.Calls PyProof.Rows
theorem H85.law_of (pl : H85.Pl) : PySem.Challenge.rw_linefactor_k85_words.Holds := by
  obtain ⟨L, pl⟩ := pl
  w_on; o_law
  refine HandSHeadRun.head_imp (r := OpenLaw.row PySem.Challenge.rw_linefactor_k85_words) (q := view (OpenLaw.row PySem.Challenge.rw_linefactor_k85_words).prog [0, H85.lawAt]) (H := H85.hk) (ob := H85.ob) (M := 30000) (loose := H85.names) (d := HandSHeadRun.topDef (OpenLaw.row PySem.Challenge.rw_linefactor_k85_words).prog H85.lawAt) (kwd := []) H85.ob_eq
    H85.run (by kernel_rfl) (by kernel_rfl) (by kernel_rfl) (by rfl) (by first | assumption | decide +kernel) (by decide +kernel) ⟨rfl, rfl, rfl, rfl, rfl, by decide +kernel⟩ ?hw ?hc
  case hw => w_witness2
  case hc =>
    refine LB.walk_ofG (l := PySem.Challenge.rw_linefactor_k85_words) (n := 63) (k := 42 + 1) (x := "script") (CX := LB.CXw PySem.Challenge.rw_linefactor_k85_words.prog) rfl (by decide) (by kernel_rfl) ⟨⟨rfl, by decide, by decide⟩, rfl⟩ ?F (fun _ _ _ _ z => z.no)
    intro w mg fa h Y G hmg0
    obtain ⟨K, KX, c⟩ := Y
    have hmg : mg ("law" : PySem.Str) = some (.ref fa) := by
      have e : (HandSHeadRun.topDef (OpenLaw.row PySem.Challenge.rw_linefactor_k85_words).prog H85.lawAt).name = ("law" : PySem.Str) := by kernel_rfl
      rw [← e]
      exact hmg0
    have hq : ∃ q, H85.hi.fns[37]? = some q ∧ q.nm = ("law" : PySem.Str) ∧ q.params.args.map (·.arg) = [("script" : PySem.Str)] := ⟨_, by rfl, by rfl, by rfl⟩
    obtain ⟨q, hq, hn, hps⟩ := hq
    obtain ⟨fd, sp, h1, h2, h3⟩ := LB.law_F (w := w) (m := 39) H85.hok H85.chk hq hps pl KX G c (by rw [hn]; exact hmg)
    exact ⟨K, fd, sp, KX, h1, h2, fun base _ _ => h3 base⟩

end
section
set_option autoImplicit false
set_option linter.all false
set_option exponentiation.threshold 5000
set_option maxRecDepth 100000
section
/-! Layer C, 0: what is to be shown of a run, construct by construct; head first. -/
namespace PL
def Res.W {α : Type} (r : Res α) (Q : α → Env → Prop) (E : PV → Env → Prop) : Prop := match r with
  | .ok a ε => Q a ε
  | .ex e ε => E e ε
  | .bad => False
def CRes.W (r : CRes) (Q : MV → List (Option MV) → Prop) (E : PV → Prop) : Prop := match r with
  | .ok v b => Q v b
  | .ex e => E e
  | .bad => False
def getK {α : Type} (o : Option α) (k : α → Prop) : Prop := match o with
  | some v => k v
  | none => False
def brK (c : Bool) (p q : Prop) : Prop := (c = true → p) ∧ (c = false → q)
/-- a value read from a slot -/
def rdK (o : Option MV) (ε : Env) (i : Nat) (Q : MV → Env → Prop) : Prop := match o with
  | some (.p v) => Q (.p v) ε
  | some m => Q (.p (frz m)) (ε.set i (some (.p (frz m))))
  | none => False
def intK (m : MV) (k : Int → Prop) : Prop := match m with
  | .p (.int i) => k i
  | _ => False
def blK (m : MV) (k : Bool → Prop) : Prop := match m with
  | .p (.bl i) => k i
  | _ => False
theorem W_bind {α β : Type} {r : Res α} {f : α → Env → Res β} {Q : β → Env → Prop} {E : PV → Env → Prop} : (r.bind f).W Q E = r.W (fun a ε => (f a ε).W Q E) E := by cases r <;> rfl
theorem getK_some {α : Type} {v : α} {k : α → Prop} : getK (some v) k = k v := Eq.trans rfl rfl
theorem getK_ite {α : Type} {c : Prop} [Decidable c] {v : α} {k : α → Prop} : getK (if c then some v else none) k = (c ∧ k v) := by
  by_cases h : c <;> simp [h, getK]
theorem getK_iteB {α : Type} {c : Bool} {v : α} {k : α → Prop} : getK (if c then some v else none) k = (c = true ∧ k v) := by
  by_cases h : c <;> simp [h, getK]
theorem getK_congr {α : Type} {o o' : Option α} {k : α → Prop} (h : o = o') : getK o k = getK o' k := by rw [h]
theorem brK_congr {c c' : Bool} {p q : Prop} (h : c = c') : brK c p q = brK c' p q := by rw [h]
theorem brK_t {p q : Prop} : brK true p q = p := by simp [brK]
theorem brK_f {p q : Prop} : brK false p q = q := by simp [brK]
theorem rdK_congr {o o' : Option MV} {ε : Env} {i : Nat} {Q : MV → Env → Prop} (h : o = o') : rdK o ε i Q = rdK o' ε i Q := by rw [h]
theorem rdK_p {v : PV} {ε : Env} {i : Nat} {Q : MV → Env → Prop} : rdK (some (.p v)) ε i Q = Q (.p v) ε := Eq.trans rfl rfl
theorem rdK_l {v : List MV} {ε : Env} {i : Nat} {Q : MV → Env → Prop} : rdK (some (.l v)) ε i Q = Q (.p (.fls (frzL v))) (ε.set i (some (.p (.fls (frzL v))))) := Eq.trans rfl rfl
theorem rdK_d {t : Bool} {ks vs : List PV} {ε : Env} {i : Nat} {Q : MV → Env → Prop} : rdK (some (.d t ks vs)) ε i Q = Q (.p (.fdc t ks vs)) (ε.set i (some (.p (.fdc t ks vs)))) := Eq.trans rfl rfl
theorem intK_congr {m m' : MV} {k : Int → Prop} (h : m = m') : intK m k = intK m' k := by rw [h]
theorem intK_int {i : Int} {k : Int → Prop} : intK (.p (.int i)) k = k i := Eq.trans rfl rfl
theorem blK_congr {m m' : MV} {k : Bool → Prop} (h : m = m') : blK m k = blK m' k := by rw [h]
theorem blK_bl {i : Bool} {k : Bool → Prop} : blK (.p (.bl i)) k = k i := Eq.trans rfl rfl
theorem W_opt {α : Type} {o : Option α} {ε : Env} {Q : α → Env → Prop} {E : PV → Env → Prop} : (Res.opt o ε).W Q E = getK o fun v => Q v ε := by cases o <;> rfl
theorem W_ok {α : Type} {v : α} {ε : Env} {Q : α → Env → Prop} {E : PV → Env → Prop} : (Res.ok v ε).W Q E = Q v ε := Eq.trans rfl rfl
section
variable {C : Ctx} {ε : Env} {a b c i k : IE} {es : IEs} {t u : IT} {E : PV → Env → Prop} {Q : MV → Env → Prop} {QO : Opd → Env → Prop} {QB : Bool → Env → Prop}
theorem w_var {i : Nat} : (ev C (.var i) ε).W Q E = rdK (ε.at i) ε i Q := by
  unfold ev readV rdK
  cases ε.at i with
  | none => rfl
  | some m => cases m <;> rfl
theorem w_con {v : PV} : (ev C (.con v) ε).W Q E = Q (.p v) ε := by unfold ev; rfl
theorem w_glo {x : Txt} {v : PV} : (ev C (.glo x v) ε).W Q E = Q (.p v) ε := by unfold ev; rfl
theorem w_bin {o : BOp} : (ev C (.bin o a b) ε).W Q E = (opd C a ε).W (fun x ε1 => (opd C b ε1).W (fun y ε2 => getK (x.get ε2) fun u => getK (y.get ε2) fun v => getK (binF o u v) fun w => Q w ε2) E) E := by
  rw [ev]
  simp only [W_bind]
  congr 1; funext x ε1; congr 1; funext y ε2
  cases x.get ε2 <;> cases y.get ε2 <;> simp only [getK, W_opt] <;> rfl
theorem w_neg : (ev C (.neg a) ε).W Q E = (ev C a ε).W (fun x ε1 => intK x fun i => Q (.p (.int (-i))) ε1) E := by
  rw [ev]
  simp only [W_bind]
  congr 1; funext x ε1
  unfold intK
  split <;> simp_all [Res.W]
theorem w_cmp {o : COp} : (ev C (.cmp o a b) ε).W Q E = (opd C a ε).W (fun x ε1 => (opd C b ε1).W (fun y ε2 => getK (x.get ε2) fun u => getK (y.get ε2) fun v => getK (cmpF o u v) fun w => Q (.p (.bl w)) ε2) E) E := by
  rw [ev]
  simp only [W_bind]
  congr 1; funext x ε1; congr 1; funext y ε2
  cases x.get ε2 <;> cases y.get ε2 <;> simp [getK, Res.W, W_opt]
  cases cmpF o _ _ <;> rfl
theorem w_chn {o o' : COp} : (ev C (.chn o o' a b c) ε).W Q E = (opd C a ε).W (fun x ε1 => (opd C b ε1).W (fun y ε2 => getK (x.get ε2) fun u => getK (y.get ε2) fun v => getK (cmpF o u v) fun w =>
    brK w ((opd C c ε2).W (fun z ε3 => getK (y.get ε3) fun v' => getK (z.get ε3) fun w => getK (cmpF o' v' w) fun d => Q (.p (.bl d)) ε3) E) (Q (.p (.bl false)) ε2)) E) E := by
  rw [ev]
  simp only [W_bind]
  congr 1; funext x ε1; congr 1; funext y ε2
  cases x.get ε2 <;> cases y.get ε2 <;> first | rfl | skip
  simp only [getK]
  cases cmpF o _ _ with
  | none => rfl
  | some d =>
    cases d
    · simp [brK, W_ok]
    · simp only [brK_t, W_bind]
      congr 1; funext z ε3
      cases y.get ε3 <;> cases z.get ε3 <;> first | rfl | skip
      simp only [getK]
      cases cmpF o' _ _ <;> rfl
theorem w_andv : (ev C (.andv a b) ε).W Q E = (ev C a ε).W (fun x ε1 => blK x fun c => brK c ((ev C b ε1).W Q E) (Q (.p (.bl false)) ε1)) E := by
  rw [ev]
  simp only [W_bind]
  congr 1; funext x ε1
  unfold blK brK
  split <;> simp_all [Res.W]
theorem w_orv : (ev C (.orv a b) ε).W Q E = (ev C a ε).W (fun x ε1 => blK x fun c => brK c (Q (.p (.bl true)) ε1) ((ev C b ε1).W Q E)) E := by
  rw [ev]
  simp only [W_bind]
  congr 1; funext x ε1
  unfold blK brK
  split <;> simp_all [Res.W]
theorem w_notv : (ev C (.notv a) ε).W Q E = (ev C a ε).W (fun x ε1 => blK x fun c => Q (.p (.bl (!c))) ε1) E := by
  rw [ev]
  simp only [W_bind]
  congr 1; funext x ε1
  unfold blK
  split <;> simp_all [Res.W]
theorem w_ifeE : (ev C (.ife t a b) ε).W Q E = (evT C t ε).W (fun c ε1 => brK c ((ev C a ε1).W Q E) ((ev C b ε1).W Q E)) E := by
  rw [ev]
  simp only [W_bind]
  congr 1; funext x ε1
  unfold brK
  cases x <;> simp
theorem w_call {f : Nat} : (ev C (.call f es) ε).W Q E = (opds C es ε).W (fun os ε1 => getK (lend ε1 os) fun r => (C.call f r.1).W (fun v back => Q v (unlend ε1 os back r.2)) (fun e => E e r.2)) E := by
  rw [ev]
  simp only [W_bind]
  congr 1; funext os ε1
  cases lend ε1 os with
  | none => rfl
  | some r =>
    obtain ⟨vs, ε2⟩ := r
    simp only [getK]
    cases C.call f vs <;> rfl
theorem w_blt {f : Blt} : (ev C (.blt f es) ε).W Q E = (opds C es ε).W (fun os ε1 => getK (gets ε1 os) fun vs => getK (bltF f vs) fun v => Q v ε1) E := by
  rw [ev]
  simp only [W_bind]
  congr 1; funext os ε1
  cases gets ε1 os <;> simp only [getK, W_opt] <;> rfl
theorem w_isa {cs : List Cls} : (ev C (.isa a cs) ε).W Q E = (opd C a ε).W (fun x ε1 => getK (x.get ε1) fun u => getK (isasF C.par u cs) fun b => Q (.p (.bl b)) ε1) E := by
  rw [ev]
  simp only [W_bind]
  congr 1; funext x ε1
  cases x.get ε1 with
  | none => rfl
  | some u => simp only [getK]; cases isasF C.par u cs <;> rfl
theorem w_met {m : Mth} : (ev C (.met m a es) ε).W Q E = (opd C a ε).W (fun x ε1 => (opds C es ε1).W (fun os ε2 => getK (x.get ε2) fun u => getK (gets ε2 os) fun vs => getK (metF m u vs) fun v => Q v ε2) E) E := by
  rw [ev]
  simp only [W_bind]
  congr 1; funext x ε1; congr 1; funext os ε2
  cases x.get ε2 <;> cases gets ε2 os <;> simp only [getK, W_opt] <;> rfl
/-- an own list -/
def lstK (o : Option MV) (k : List MV → Prop) : Prop := match o with
  | some (.l xs) => k xs
  | _ => False
theorem lstK_congr {o o' : Option MV} {k : List MV → Prop} (h : o = o') : lstK o k = lstK o' k := by rw [h]
theorem lstK_l {xs : List MV} {k : List MV → Prop} : lstK (some (.l xs)) k = k xs := Eq.trans rfl rfl
theorem lstK_bad {α : Type} {o : Option MV} {f : List MV → Res α} {Q : α → Env → Prop} {E : PV → Env → Prop} : (match o with
    | some (.l xs) => f xs
    | _ => .bad : Res α).W Q E = lstK o fun xs => (f xs).W Q E := by
  unfold lstK
  cases o with
  | none => rfl
  | some m => cases m <;> rfl
theorem w_mut {m : Mut} {i : Nat} : (ev C (.mut m i es) ε).W Q E = lstK (ε.at i) fun _ => (evs C es ε).W (fun vs ε1 => lstK (ε1.at i) fun xs => getK (mutF m xs vs) fun r => Q r.1 (ε1.set i (some (.l r.2)))) E := by
  rw [ev]
  refine Eq.trans lstK_bad ?_
  congr 1; funext _
  rw [W_bind]
  congr 1; funext vs ε1
  refine Eq.trans lstK_bad ?_
  congr 1; funext xs
  cases mutF m xs vs <;> rfl
theorem w_ix : (ev C (.ix a i) ε).W Q E = (opd C a ε).W (fun x ε1 => (ev C i ε1).W (fun k ε2 => getK (x.get ε2) fun u => getK (ixF u k) fun v => Q v (ixFrz ε2 x u k)) E) E := by
  rw [ev]
  simp only [W_bind]
  congr 1; funext x ε1; congr 1; funext k ε2
  cases x.get ε2 with
  | none => rfl
  | some u => simp only [getK]; cases ixF u k <;> rfl
/-- v[i][j] -/
def ix2F (o : Option MV) (a b : MV) : Option MV := match o, a, b with
    | some (.l xs), .p (.int i), .p (.int j) => match ixN xs.length i with
      | some k => match xs[k]? with
        | some m => if ixO m (.p (.int j)) then match ixF m (.p (.int j)) with
          | some (.p r) => some (.p r)
          | _ => none
          else none
        | none => none
      | none => none
    | some (.p u), a, .p (.int j) => match ixF (.p u) a with
      | some m => match ixF m (.p (.int j)) with
        | some (.p r) => some (.p r)
        | _ => none
      | none => none
    | _, _, _ => none
theorem ix2_aux (o : Option MV) (a b : MV) (ε2 : Env) : (match o, a, b with
    | some (.l xs), .p (.int i), .p (.int j) => match ixN xs.length i with
      | some k => match xs[k]? with
        | some m => if ixO m (.p (.int j)) then match ixF m (.p (.int j)) with
          | some (.p r) => .ok (.p r) ε2
          | _ => .bad
          else .bad
        | none => .bad
      | none => .bad
    | some (.p u), a, .p (.int j) => match ixF (.p u) a with
      | some m => match ixF m (.p (.int j)) with
        | some (.p r) => .ok (.p r) ε2
        | _ => .bad
      | none => .bad
    | _, _, _ => .bad : Res MV) = Res.opt (ix2F o a b) ε2 := by
  unfold ix2F
  split
  · split
    · split
      · split
        · split <;> rfl
        · rfl
      · rfl
    · rfl
  · split
    · split <;> rfl
    · rfl
  · rfl
theorem w_ix2 {v : Nat} {j : IE} : (ev C (.ix2 v i j) ε).W Q E = getK (ε.at v) fun _ => (ev C i ε).W (fun a ε1 => (ev C j ε1).W (fun b ε2 => getK (ix2F (ε2.at v) a b) fun r => Q r ε2) E) E := by
  rw [ev]
  cases ε.at v with
  | none => rfl
  | some w =>
    simp only [getK_some, W_bind]
    congr 1; funext a ε1; congr 1; funext b ε2
    exact Eq.trans (congrArg (fun r => Res.W r Q E) (ix2_aux _ _ _ _)) W_opt
theorem w_slc {lo hi : IE} : (ev C (.slc a lo hi) ε).W Q E = (opd C a ε).W (fun x ε1 => (ev C lo ε1).W (fun l ε2 => getK (optI (nonE lo) l) fun l => (ev C hi ε2).W (fun h ε3 => getK (x.get ε3) fun u => getK (optI (nonE hi) h) fun h => getK (slF u l h) fun r => Q r ε3) E) E) E := by
  rw [ev]
  simp only [W_bind]
  congr 1; funext x ε1; congr 1; funext l ε2
  cases optI (nonE lo) l with
  | none => rfl
  | some l =>
    simp only [getK, W_bind]
    congr 1; funext h ε3
    cases x.get ε3 <;> cases optI (nonE hi) h <;> simp only [W_opt, getK] <;> rfl
theorem w_tup : (ev C (.tup es) ε).W Q E = (evs C es ε).W (fun vs ε1 => Q (.p (.tup false (pvs vs))) ε1) E := by
  rw [ev]; simp only [W_bind]; rfl
theorem w_lst : (ev C (.lst es) ε).W Q E = (evs C es ε).W (fun vs ε1 => Q (.l vs) ε1) E := by
  rw [ev]; simp only [W_bind]; rfl
theorem w_dct {t : Bool} : (ev C (.dct t) ε).W Q E = Q (.d t [] []) ε := by rw [ev]; rfl
/-- one turn of a comprehension -/
def compS (C : Ctx) (own : List Nat) (tg : Tgt) (t : IT) (elt : IE) (x : PV) (ε2 : Env) : Res (Option MV) := match putT C.lock (wipeE ε2 own) tg x with
      | some ε3 => (evT C t ε3).noex.bind fun b ε4 => match b with
        | true => (ev C elt ε4).noex.bind fun m ε5 => .ok (some m) (restE ε2 ε5 own)
        | false => .ok none (restE ε2 ε4 own)
      | none => .bad
theorem W_noex {α : Type} {r : Res α} {Q : α → Env → Prop} {E : PV → Env → Prop} : r.noex.W Q E = r.W Q fun _ _ => False := by cases r <;> rfl
theorem w_comp {own : List Nat} {tg : Tgt} {it : II} : (ev C (.comp own tg it t a) ε).W Q E = (evI C it ε).W (fun w ε1 => (w.items.length ≤ LIM ∧ noOwn ε1 own = true) ∧ (compL (compS C own tg t a) w.items ε1).W (fun l ε6 => Q (.l l) (giveBack ε6 w.lent)) E) E := by
  rw [ev]
  simp only [W_bind]
  congr 1; funext w ε1
  by_cases h : (decide (w.items.length ≤ LIM) && noOwn ε1 own) = true
  · rw [if_pos h, W_bind]
    simp only [Bool.and_eq_true, decide_eq_true_eq] at h
    simp only [h, true_and, and_true, eq_iff_iff, true_iff]
    rfl
  · rw [if_neg h]
    simp only [Bool.and_eq_true, decide_eq_true_eq] at h
    simp only [h, false_and]; rfl
theorem w_compS {own : List Nat} {tg : Tgt} {x : PV} {QM : Option MV → Env → Prop} : (compS C own tg t a x ε).W QM E = getK (putT C.lock (wipeE ε own) tg x) fun ε3 => (evT C t ε3).W (fun b ε4 => brK b ((ev C a ε4).W (fun m ε5 => QM (some m) (restE ε ε5 own)) fun _ _ => False) (QM none (restE ε ε4 own))) fun _ _ => False := by
  unfold compS
  cases putT C.lock (wipeE ε own) tg x with
  | none => rfl
  | some ε3 =>
    simp only [getK, W_bind, W_noex]
    congr 1; funext b ε4
    cases b
    · simp [brK, Res.W]
    · simp only [brK, W_bind, W_noex]; simp [Res.W]
def atrK (m : MV) (f : Txt) (k : PV → Prop) : Prop := match m with
  | .p (.exc _ g v) => f = g ∧ k v
  | _ => False
theorem atrK_e {c g f : Txt} {v : PV} {k : PV → Prop} : atrK (.p (.exc c g v)) f k = (f = g ∧ k v) := Eq.trans rfl rfl
theorem w_atr {f : Txt} : (ev C (.atr a f) ε).W Q E = (ev C a ε).W (fun x ε1 => atrK x f fun v => Q (.p v) ε1) E := by
  rw [ev]
  simp only [W_bind]
  congr 1; funext x ε1
  cases x with
  | p v =>
    cases v with
    | exc c g v => simp only [atrK]; by_cases h : f = g <;> simp [h, Res.W]
    | _ => rfl
  | _ => rfl
theorem w_opdv {i : Nat} : (opd C (.var i) ε).W QO E = getK (ε.at i) fun _ => QO (.sl i) ε := by
  rw [opd]; cases ε.at i <;> rfl
theorem w_opd (h : ∀ i, a ≠ .var i) : (opd C a ε).W QO E = (ev C a ε).W (fun v ε1 => QO (.tm v) ε1) E := by
  cases a <;> first | exact absurd rfl (h _) | (rw [opd]; simp only [W_bind]; rfl; done) | skip
  all_goals
    rw [opd]
    · simp only [W_bind]; rfl
    · exact h
theorem w_opd' (h : (match a with
    | .var _ => false
    | _ => true) = true) : (opd C a ε).W QO E = (ev C a ε).W (fun v ε1 => QO (.tm v) ε1) E := w_opd fun i e => by subst e; cases h
theorem w_ods0 {Q : List Opd → Env → Prop} : (opds C .nil ε).W Q E = Q [] ε := by rw [opds]; rfl
theorem w_ods {Q : List Opd → Env → Prop} : (opds C (.cons a es) ε).W Q E = (opd C a ε).W (fun o ε1 => (opds C es ε1).W (fun os ε2 => Q (o :: os) ε2) E) E := by
  rw [opds]; simp only [W_bind]; rfl
theorem w_evs0 {Q : List MV → Env → Prop} : (evs C .nil ε).W Q E = Q [] ε := by rw [evs]; rfl
theorem w_evs {Q : List MV → Env → Prop} : (evs C (.cons a es) ε).W Q E = (ev C a ε).W (fun o ε1 => (evs C es ε1).W (fun os ε2 => Q (o :: os) ε2) E) E := by
  rw [evs]; simp only [W_bind]; rfl
theorem w_tt : (evT C .tt ε).W QB E = QB true ε := by rw [evT]; rfl
theorem w_tv : (evT C (.tv a) ε).W QB E = (opd C a ε).W (fun x ε1 => getK (x.get ε1) fun u => getK (truF u) fun b => QB b ε1) E := by
  rw [evT]; simp only [W_bind]
  congr 1; funext x ε1
  cases x.get ε1 with
  | none => rfl
  | some u => simp only [getK_some, W_opt]
theorem w_tn : (evT C (.tn t) ε).W QB E = (evT C t ε).W (fun b ε1 => QB (!b) ε1) E := by rw [evT]; simp only [W_bind]; rfl
theorem w_ta : (evT C (.ta t u) ε).W QB E = (evT C t ε).W (fun b ε1 => brK b ((evT C u ε1).W QB E) (QB false ε1)) E := by
  rw [evT]; simp only [W_bind]
  congr 1; funext b ε1
  cases b
  · rw [brK_f]; rfl
  · rw [brK_t]
theorem w_to : (evT C (.to t u) ε).W QB E = (evT C t ε).W (fun b ε1 => brK b (QB true ε1) ((evT C u ε1).W QB E)) E := by
  rw [evT]; simp only [W_bind]
  congr 1; funext b ε1
  cases b
  · rw [brK_f]
  · rw [brK_t]; rfl
variable {QI : Walk → Env → Prop}
theorem w_ival : (evI C (.val a) ε).W QI E = (ev C a ε).W (fun v ε1 => getK (seqP (frz v)) fun l => QI ⟨l, none⟩ ε1) E := by
  rw [evI]; simp only [W_bind]
  congr 1; funext v ε1
  cases seqP (frz v) <;> rfl
def mvK (o : Option MV) (i : Nat) (ε : Env) (QI : Walk → Env → Prop) : Prop := match o with
  | some (.p v) => getK (seqP v) fun l => QI ⟨l, none⟩ ε
  | some (.l xs) => (match unpL xs with
      | some l => QI ⟨l, some (i, .l xs)⟩ (ε.set i none)
      | none => QI ⟨frzL xs, none⟩ (ε.set i (some (.p (.fls (frzL xs))))))
  | _ => False
theorem mvK_congr {o o' : Option MV} {i : Nat} {ε : Env} (h : o = o') : mvK o i ε QI = mvK o' i ε QI := by rw [h]
theorem mvK_p {v : PV} {i : Nat} {ε : Env} : mvK (some (.p v)) i ε QI = getK (seqP v) fun l => QI ⟨l, none⟩ ε := Eq.trans rfl rfl
theorem mvK_l {xs : List MV} {l : List PV} {i : Nat} {ε : Env} (h : unpL xs = some l) : mvK (some (.l xs)) i ε QI = QI ⟨l, some (i, .l xs)⟩ (ε.set i none) := by simp only [mvK, h]
theorem w_imv {i : Nat} : (evI C (.mv i) ε).W QI E = mvK (ε.at i) i ε QI := by
  rw [evI]; unfold mvK
  cases ε.at i with
  | none => rfl
  | some m =>
    cases m with
    | p v => simp only []; cases seqP v <;> rfl
    | l xs => simp only []; cases unpL xs <;> rfl
    | d t ks vs => rfl
theorem w_rng1 : (evI C (.rng1 a) ε).W QI E = (ev C a ε).W (fun x ε1 => intK x fun n => small62 n = true ∧ QI ⟨rngL 0 n.toNat 1, none⟩ ε1) E := by
  rw [evI]; simp only [W_bind]
  congr 1; funext x ε1
  cases x with
  | p v =>
    cases v with
    | int n => simp only [intK]; by_cases h : small62 n = true <;> simp [h, Res.W]
    | _ => rfl
  | _ => rfl
theorem w_rng2 : (evI C (.rng2 a b) ε).W QI E = (ev C a ε).W (fun x ε1 => (ev C b ε1).W (fun y ε2 => intK x fun m => intK y fun n => (small62 m = true ∧ small62 n = true) ∧ QI ⟨rngL m (n - m).toNat 1, none⟩ ε2) E) E := by
  rw [evI]; simp only [W_bind]
  congr 1; funext x ε1; congr 1; funext y ε2
  cases x with
  | p v =>
    cases v with
    | int m =>
      cases y with
      | p w =>
        cases w with
        | int n => simp only [intK]; by_cases h : small62 m = true <;> by_cases h' : small62 n = true <;> simp [h, h', Res.W]
        | _ => rfl
      | _ => rfl
    | _ => cases y with
      | p w => cases w <;> rfl
      | _ => rfl
  | _ => cases y with
    | p w => cases w <;> rfl
    | _ => rfl
/-! ### statements -/
variable {QF : Flow → Env → Prop} {s : IS} {sa sb r : ISs}
def nxK (f : Flow) (ε : Env) (p : Prop) (QF : Flow → Env → Prop) : Prop := match f with
  | .nx => p
  | f => QF f ε
theorem nxK_congr {f f' : Flow} {ε : Env} {p : Prop} (h : f = f') : nxK f ε p QF = nxK f' ε p QF := by rw [h]
theorem nxK_nx {ε : Env} {p : Prop} : nxK .nx ε p QF = p := Eq.trans rfl rfl
theorem nxK_rt {ε : Env} {p : Prop} {v : MV} : nxK (.rt v) ε p QF = QF (.rt v) ε := Eq.trans rfl rfl
theorem nxK_bk {ε : Env} {p : Prop} : nxK .bk ε p QF = QF .bk ε := Eq.trans rfl rfl
theorem nxK_ct {ε : Env} {p : Prop} : nxK .ct ε p QF = QF .ct ε := Eq.trans rfl rfl
theorem w_nil : (evSs C .nil ε).W QF E = QF .nx ε := by rw [evSs]; rfl
theorem w_cons : (evSs C (.cons s r) ε).W QF E = (evS C s ε).W (fun f ε1 => nxK f ε1 ((evSs C r ε1).W QF E) QF) E := by
  rw [evSs]; simp only [W_bind]
  congr 1; funext f ε1
  cases f <;> rfl
theorem w_seq (h : ∀ P : Env → Prop, (∀ ε1, (evSs C r ε1).W QF E → P ε1) → (evS C s ε).W (fun f ε1 => nxK f ε1 (P ε1) QF) E) : (evSs C (.cons s r) ε).W QF E := by
  rw [w_cons]
  exact h _ fun _ z => z
theorem w_set {i : Nat} : (evS C (.set i a) ε).W QF E = (ev C a ε).W (fun v ε1 => getK (putS C.lock ε1 i v) fun ε2 => QF .nx ε2) E := by
  rw [evS]; simp only [W_bind]
  congr 1; funext v ε1
  cases putS C.lock ε1 i v <;> rfl
theorem w_unp {is : List Nat} : (evS C (.unp is a) ε).W QF E = (ev C a ε).W (fun v ε1 => getK (putT C.lock ε1 (.tp is) (frz v)) fun ε2 => QF .nx ε2) E := by
  rw [evS]; simp only [W_bind]
  congr 1; funext v ε1
  cases putT C.lock ε1 (.tp is) (frz v) <;> rfl
theorem w_par {i j : Nat} : (evS C (.par i j a b) ε).W QF E = (ev C a ε).W (fun x ε1 => (ev C b ε1).W (fun y ε2 => getK (putS C.lock ε2 i x) fun ε3 => getK (putS C.lock ε3 j y) fun ε4 => QF .nx ε4) E) E := by
  rw [evS]; simp only [W_bind]
  congr 1; funext x ε1; congr 1; funext y ε2
  cases putS C.lock ε2 i x with
  | none => rfl
  | some ε3 => simp only [getK_some]; cases putS C.lock ε3 j y <;> rfl
/-- o[j] = v -/
def sixF (o : Option MV) (j v : MV) : Option MV := match o, j with
  | some (.l xs), .p (.int j) => match ixN xs.length j with
      | some k => some (.l (xs.set k v))
      | none => none
  | some (.d t ks vs), .p k => if sameSort t k && decide (ks.length < LIM) then some (.d t (dput ks vs k (frz v)).1 (dput ks vs k (frz v)).2) else none
  | _, _ => none
theorem six_aux (o : Option MV) (j v : MV) (ε2 : Env) (i : Nat) : (match o, j with
    | some (.l xs), .p (.int j) => match ixN xs.length j with
      | some k => .ok .nx (ε2.set i (some (.l (xs.set k v))))
      | none => .bad
    | some (.d t ks vs), .p k => if sameSort t k && decide (ks.length < LIM) then let r := dput ks vs k (frz v); .ok .nx (ε2.set i (some (.d t r.1 r.2))) else .bad
    | _, _ => .bad : Res Flow) = match sixF o j v with
      | some m => .ok .nx (ε2.set i (some m))
      | none => .bad := by
  unfold sixF
  split
  · split <;> rfl
  · split <;> rfl
  · rfl
theorem isNone_getK {o : Option MV} {α : Type} {r : Res α} {Q : α → Env → Prop} : (if o.isNone then .bad else r : Res α).W Q E = getK o fun _ => r.W Q E := by cases o <;> rfl
theorem w_six {i : Nat} : (evS C (.six i k a) ε).W QF E = getK (ε.at i) fun _ => (ev C a ε).W (fun v ε1 => (ev C k ε1).W (fun j ε2 => getK (sixF (ε2.at i) j v) fun m => QF .nx (ε2.set i (some m))) E) E := by
  rw [evS, isNone_getK]
  congr 1; funext _
  simp only [W_bind]
  congr 1; funext v ε1; congr 1; funext j ε2
  refine Eq.trans (congrArg (fun r => Res.W r QF E) (six_aux _ _ _ _ _)) ?_
  cases sixF (ε2.at i) j v <;> rfl
def six2F (o : Option MV) (a b v : MV) : Option MV := match o, a, b with
    | some (.l xs), .p (.int a), .p (.int b) => match ixN xs.length a with
      | some n => match xs[n]? with
        | some (.l ys) => match ixN ys.length b with
          | some m => some (.l (xs.set n (.l (ys.set m v))))
          | none => none
        | _ => none
      | none => none
    | _, _, _ => none
theorem six2_aux (o : Option MV) (a b v : MV) (ε3 : Env) (i : Nat) : (match o, a, b with
    | some (.l xs), .p (.int a), .p (.int b) => match ixN xs.length a with
      | some n => match xs[n]? with
        | some (.l ys) => match ixN ys.length b with
          | some m => .ok .nx (ε3.set i (some (.l (xs.set n (.l (ys.set m v))))))
          | none => .bad
        | _ => .bad
      | none => .bad
    | _, _, _ => .bad : Res Flow) = match six2F o a b v with
      | some m => .ok .nx (ε3.set i (some m))
      | none => .bad := by
  unfold six2F
  split
  · split
    · split
      · split <;> rfl
      · rfl
    · rfl
  · rfl
theorem w_six2 {i : Nat} : (evS C (.six2 i b k a) ε).W QF E = getK (ε.at i) fun _ => (ev C a ε).W (fun v ε1 => (ev C b ε1).W (fun x ε2 => (ev C k ε2).W (fun y ε3 => getK (six2F (ε3.at i) x y v) fun m => QF .nx (ε3.set i (some m))) E) E) E := by
  rw [evS, isNone_getK]
  congr 1; funext _
  simp only [W_bind]
  congr 1; funext v ε1; congr 1; funext x ε2; congr 1; funext y ε3
  refine Eq.trans (congrArg (fun r => Res.W r QF E) (six2_aux _ _ _ _ _ _)) ?_
  cases six2F (ε3.at i) x y v <;> rfl
theorem w_exp : (evS C (.exp a) ε).W QF E = (ev C a ε).W (fun _ ε1 => QF .nx ε1) E := by rw [evS]; simp only [W_bind]; rfl
theorem w_ret : (evS C (.ret a) ε).W QF E = (ev C a ε).W (fun v ε1 => QF (.rt v) ε1) E := by rw [evS]; simp only [W_bind]; rfl
def rtvK (lock : List Nat) (o : Option MV) (i : Nat) (ε : Env) (QF : Flow → Env → Prop) : Prop := match o with
  | some (.p v) => QF (.rt (.p v)) ε
  | some m => lock.contains i = false ∧ QF (.rt m) (ε.set i none)
  | none => False
theorem rtvK_congr {lock : List Nat} {o o' : Option MV} {i : Nat} {ε : Env} (h : o = o') : rtvK lock o i ε QF = rtvK lock o' i ε QF := by rw [h]
theorem rtvK_p {lock : List Nat} {v : PV} {i : Nat} {ε : Env} : rtvK lock (some (.p v)) i ε QF = QF (.rt (.p v)) ε := Eq.trans rfl rfl
theorem rtvK_l {lock : List Nat} {v : List MV} {i : Nat} {ε : Env} : rtvK lock (some (.l v)) i ε QF = (lock.contains i = false ∧ QF (.rt (.l v)) (ε.set i none)) := Eq.trans rfl rfl
theorem rtvK_d {lock : List Nat} {t : Bool} {ks vs : List PV} {i : Nat} {ε : Env} : rtvK lock (some (.d t ks vs)) i ε QF = (lock.contains i = false ∧ QF (.rt (.d t ks vs)) (ε.set i none)) := Eq.trans rfl rfl
theorem w_rtv {i : Nat} : (evS C (.rtv i) ε).W QF E = rtvK C.lock (ε.at i) i ε QF := by
  rw [evS]; unfold rtvK
  cases ε.at i with
  | none => rfl
  | some m =>
    cases m with
    | p v => rfl
    | l xs => by_cases h : C.lock.contains i = true <;> simp only [h] <;> simp [Res.W]
    | d t ks vs => by_cases h : C.lock.contains i = true <;> simp only [h] <;> simp [Res.W]
theorem w_ret0 : (evS C .ret0 ε).W QF E = QF (.rt (.p .non)) ε := by rw [evS]; rfl
theorem w_ife : (evS C (.ife t sa sb) ε).W QF E = (evT C t ε).W (fun c ε1 => brK c ((evSs C sa ε1).W QF E) ((evSs C sb ε1).W QF E)) E := by
  rw [evS]; simp only [W_bind]
  congr 1; funext c ε1
  cases c
  · rw [brK_f]
  · rw [brK_t]
def noBk : Flow → Flow
  | .bk => .nx
  | f => f
/-- a turn of a for -/
def forS (C : Ctx) (tg : Tgt) (it : II) (body : ISs) (x : PV) (ε2 : Env) : Res Flow := match putT (lockI it C.lock) ε2 tg x with
      | some ε3 => evSs { C with lock := lockI it C.lock } body ε3
      | none => .bad
theorem w_fo {tg : Tgt} {it : II} : (evS C (.fo tg it r) ε).W QF E = (evI C it ε).W (fun w ε1 => (forL (forS C tg it r) w.items ε1).W (fun f ε4 => QF (noBk f) (giveBack ε4 w.lent)) E) E := by
  rw [evS]; simp only [W_bind]
  congr 1
theorem w_forS {tg : Tgt} {it : II} {x : PV} : (forS C tg it r x ε).W QF E = getK (putT (lockI it C.lock) ε tg x) fun ε3 => (evSs { C with lock := lockI it C.lock } r ε3).W QF E := by
  unfold forS
  cases putT (lockI it C.lock) ε tg x <;> rfl
theorem w_wh : (evS C (.wh t r) ε).W QF E = (whL (evT C t) (evSs C r) C.fuel ε).W QF E := by rw [evS]
theorem w_pas : (evS C .pas ε).W QF E = QF .nx ε := by rw [evS]; rfl
theorem w_cnt : (evS C .cnt ε).W QF E = QF .ct ε := by rw [evS]; rfl
theorem w_brk : (evS C .brk ε).W QF E = QF .bk ε := by rw [evS]; rfl
theorem w_rai {c f : Txt} : (evS C (.rai c f es) ε).W QF E = (evs C es ε).W (fun vs ε1 => getK (excArg f vs) fun v => E (.exc c f v) ε1) E := by
  rw [evS]; simp only [W_bind]
  congr 1; funext vs ε1
  cases excArg f vs <;> rfl
def clnK (f : Flow) (ε : Env) (QF : Flow → Env → Prop) : Prop := match f with
  | .rt v => clnM v = true ∧ QF (.rt v) (clnE ε)
  | f => QF f (clnE ε)
theorem clnK_rt {v : MV} {ε : Env} : clnK (.rt v) ε QF = (clnM v = true ∧ QF (.rt v) (clnE ε)) := Eq.trans rfl rfl
theorem clnK_nx {ε : Env} : clnK .nx ε QF = QF .nx (clnE ε) := Eq.trans rfl rfl
theorem W_clnF {f : Flow} {ε : Env} : (clnF f ε).W QF E = clnK f ε QF := by
  cases f with
  | rt v =>
    show (if clnM v = true then Res.ok (Flow.rt v) (clnE ε) else .bad : Res Flow).W QF E = _
    by_cases h : clnM v = true
    · rw [if_pos h]; simp only [clnK, h, true_and]; rfl
    · rw [if_neg h]; simp [clnK, h, Res.W]
  | _ => rfl
/-- what is left behind an error in a try -/
def excK (par : List (Txt × Txt)) (lock : List Nat) (c : Txt) (slot : Option Nat) (H : Env → (Flow → Env → Prop) → Prop) (QF : Flow → Env → Prop) (E : PV → Env → Prop) (e : PV) (ε1 : Env) : Prop := match e with
  | .exc d g v => (isSub par 8 d c = true → match slot with
      | none => H ε1 fun f ε3 => clnK f ε3 QF
      | some i => getK (putS lock ε1 i (.p (.exc d g v))) fun ε2 => H ε2 fun f ε3 => clnK f (ε3.set i none) QF) ∧ (isSub par 8 d c = false → E e ε1)
  | _ => False
theorem w_try {c : Txt} {slot : Option Nat} {h : ISs} : (evS C (.try r c slot h) ε).W QF E = (evSs C r ε).W QF (excK C.par C.lock c slot (fun ε2 Q => (evSs C h ε2).W Q fun _ _ => False) QF E) := by
  rw [evS]
  cases evSs C r ε with
  | ok f ε1 => rfl
  | bad => rfl
  | ex e ε1 =>
    cases e with
    | exc d g v =>
      show Res.W (if isSub C.par 8 d c = true then _ else _) QF E = excK C.par C.lock c slot (fun ε2 Q => (evSs C h ε2).W Q fun _ _ => False) QF E (.exc d g v) ε1
      unfold excK
      by_cases hs : isSub C.par 8 d c = true
      · rw [if_pos hs]
        simp only [hs, true_implies, Bool.true_eq_false, false_implies, and_true]
        cases slot with
        | none =>
          dsimp only
          rw [W_bind, W_noex]
          congr 1; funext f ε2
          exact W_clnF
        | some i =>
          dsimp only
          cases putS C.lock ε1 i (.p (.exc d g v)) with
          | none => rfl
          | some ε2 =>
            dsimp only
            rw [getK_some, W_bind, W_noex]
            congr 1; funext f ε3
            exact W_clnF
      · rw [if_neg hs]
        simp [hs, Res.W]
    | _ => rfl
theorem w_dead : (evS C .dead ε).W QF E = False := by rw [evS]; rfl
end
/-! ### loops -/
theorem W_for {step : PV → Env → Res Flow} {Q : Flow → Env → Prop} {E : PV → Env → Prop} (I : List PV → Env → Prop)
    (hs : ∀ x r ε, I (x :: r) ε → (step x ε).W (fun f ε' => match f with
      | .nx => I r ε'
      | .ct => I r ε'
      | .bk => Q .bk ε'
      | .rt v => Q (.rt v) ε') E) (he : ∀ ε, I [] ε → Q .nx ε) : ∀ (l : List PV) (ε : Env), I l ε → (forL step l ε).W Q E
  | [], ε, h => he ε h
  | x :: r, ε, h => by
    unfold forL
    rw [W_bind]
    have := hs x r ε h
    cases hx : step x ε with
    | bad => rw [hx] at this; exact this
    | ex e ε' => rw [hx] at this; exact this
    | ok f ε' =>
      rw [hx] at this
      cases f with
      | nx => exact W_for I hs he r ε' this
      | ct => exact W_for I hs he r ε' this
      | bk => exact this
      | rt v => exact this
theorem W_comp {step : PV → Env → Res (Option MV)} {E : PV → Env → Prop} (I : List MV → List PV → Env → Prop)
    (hs : ∀ a x r ε, I a (x :: r) ε → (step x ε).W (fun o ε' => I (a ++ o.toList) r ε') E) : ∀ (l : List PV) (a : List MV) (ε : Env) {Q : List MV → Env → Prop}, I a l ε → (∀ m ε, I (a ++ m) [] ε → Q m ε) → (compL step l ε).W Q E
  | [], a, ε, Q, h, he => he [] ε (by rw [List.append_nil]; exact h)
  | x :: r, a, ε, Q, h, he => by
    unfold compL
    rw [W_bind]
    have := hs a x r ε h
    cases hx : step x ε with
    | bad => rw [hx] at this; exact this
    | ex e ε' => rw [hx] at this; exact this
    | ok o ε' =>
      rw [hx] at this
      show (Res.bind _ _).W Q E
      rw [W_bind]
      refine W_comp I hs r (a ++ o.toList) ε' this fun m ε2 hm => ?_
      cases o with
      | none => exact he m ε2 (by simpa using hm)
      | some v => exact he (v :: m) ε2 (by simpa using hm)
/-- a comprehension that changes nothing -/
theorem W_compP {step : PV → Env → Res (Option MV)} {Q : List MV → Env → Prop} {E : PV → Env → Prop} {ε : Env} (g : PV → Option MV) (l : List PV)
    (hs : ∀ x, x ∈ l → (step x ε).W (fun o ε' => o = g x ∧ ε' = ε) E) (hq : Q (l.filterMap g) ε) : (compL step l ε).W Q E := by
  induction l generalizing Q with
  | nil => exact hq
  | cons x r ih =>
    unfold compL
    rw [W_bind]
    have := hs x List.mem_cons_self
    cases hx : step x ε with
    | bad => rw [hx] at this; exact this
    | ex e ε' => rw [hx] at this; exact this
    | ok o ε' =>
      rw [hx] at this
      obtain ⟨rfl, rfl⟩ := this
      show (Res.bind _ _).W Q E
      rw [W_bind]
      refine ih (fun y hy => hs y (List.mem_cons_of_mem _ hy)) ?_
      rw [List.filterMap_cons] at hq
      cases hg : g x <;> (rw [hg] at hq; exact hq)
theorem W_while {test : Env → Res Bool} {body : Env → Res Flow} {Q : Flow → Env → Prop} {E : PV → Env → Prop} (I : Nat → Env → Prop)
    (hs : ∀ m ε, I m ε → (test ε).W (fun b ε1 => (b = false → Q .nx ε1) ∧ (b = true → (body ε1).W (fun f ε' => match f with
      | .nx => ∃ m', m' < m ∧ I m' ε'
      | .ct => ∃ m', m' < m ∧ I m' ε'
      | .bk => Q .nx ε'
      | .rt v => Q (.rt v) ε') E)) E) : ∀ (n m : Nat) (ε : Env), m < n → I m ε → (whL test body n ε).W Q E
  | 0, m, ε, h, _ => absurd h (Nat.not_lt_zero _)
  | n + 1, m, ε, h, hi => by
    unfold whL
    rw [W_bind]
    have := hs m ε hi
    cases ht : test ε with
    | bad => rw [ht] at this; exact this
    | ex e ε' => rw [ht] at this; exact this
    | ok b ε1 =>
      rw [ht] at this
      cases b with
      | false => exact this.1 rfl
      | true =>
        have := this.2 rfl
        show (Res.bind _ _).W Q E
        rw [W_bind]
        cases hb : body ε1 with
        | bad => rw [hb] at this; exact this
        | ex e ε' => rw [hb] at this; exact this
        | ok f ε' =>
          rw [hb] at this
          cases f with
          | nx => obtain ⟨m', h1, h2⟩ := this; exact W_while I hs n m' ε' (by omega) h2
          | ct => obtain ⟨m', h1, h2⟩ := this; exact W_while I hs n m' ε' (by omega) h2
          | bk => exact this
          | rt v => exact this
theorem W_mono {α : Type} {r : Res α} {Q Q' : α → Env → Prop} {E E' : PV → Env → Prop} (h : r.W Q E) (hq : ∀ a ε, Q a ε → Q' a ε) (he : ∀ e ε, E e ε → E' e ε) : r.W Q' E' := by
  cases r with
  | ok a ε => exact hq _ _ h
  | ex e ε => exact he _ _ h
  | bad => exact h
theorem CW_mono {r : CRes} {Q Q' : MV → List (Option MV) → Prop} {E E' : PV → Prop} (h : r.W Q E) (hq : ∀ a ε, Q a ε → Q' a ε) (he : ∀ e, E e → E' e) : r.W Q' E' := by
  cases r with
  | ok a ε => exact hq _ _ h
  | ex e => exact he _ h
  | bad => exact h
theorem W_congr {α : Type} {r r' : Res α} {Q : α → Env → Prop} {E : PV → Env → Prop} (h : r = r') : r.W Q E = r'.W Q E := by rw [h]
theorem CW_congr {r r' : CRes} {Q : MV → List (Option MV) → Prop} {E : PV → Prop} (h : r = r') : r.W Q E = r'.W Q E := by rw [h]
theorem at_0 {o : Option MV} {r : Env} : Env.at (o :: r) 0 = o := rfl
theorem at_s {o : Option MV} {r : Env} {i : Nat} : Env.at (o :: r) (i + 1) = Env.at r i := rfl
theorem putS_eq {lock : List Nat} {ε : Env} {i : Nat} {v : MV} : putS lock ε i v = if lock.contains i || !(decide (i < ε.length)) then none else some (ε.set i (some v)) := rfl
/-! ### defs -/
def defK (np : Nat) (Q : MV → List (Option MV) → Prop) (f : Flow) (ε : Env) : Prop := match f with
  | .rt v => Q v (ε.take np)
  | .nx => Q (.p .non) (ε.take np)
  | _ => False
theorem defK_rt {np : Nat} {Q : MV → List (Option MV) → Prop} {v : MV} {ε : Env} : defK np Q (.rt v) ε = Q v (ε.take np) := Eq.trans rfl rfl
theorem defK_nx {np : Nat} {Q : MV → List (Option MV) → Prop} {ε : Env} : defK np Q .nx ε = Q (.p .non) (ε.take np) := Eq.trans rfl rfl
theorem w_def {T : List Def} {par : List (Txt × Txt)} {L n f np nl : Nat} {b : ISs} {args : List MV} {Q : MV → List (Option MV) → Prop} {E : PV → Prop} (hT : T[f]? = some ⟨np, nl, b⟩) (hl : args.length = np)
    (h : (evSs ⟨callF T par L n, L, lockOf 0 args, par⟩ b (args.map some ++ List.replicate (nl - np) none)).W (defK np Q) fun e _ => E e) : (callF T par L (n + 1) f args).W Q E := by
  unfold callF
  rw [hT]
  show (runDef _ _ _).W Q E
  unfold runDef
  rw [if_pos hl]
  show CRes.W (match evSs ⟨callF T par L n, L, lockOf 0 args, par⟩ b (args.map some ++ List.replicate (nl - np) none) with
    | .ok (.rt v) ε => .ok v (ε.take np)
    | .ok .nx ε => .ok (.p .non) (ε.take np)
    | .ok _ _ => .bad
    | .ex e _ => .ex e
    | .bad => .bad) Q E
  cases hr : evSs ⟨callF T par L n, L, lockOf 0 args, par⟩ b (args.map some ++ List.replicate (nl - np) none) with
  | bad => rw [hr] at h; exact h
  | ex e ε => rw [hr] at h; exact h
  | ok f ε => rw [hr] at h; cases f <;> exact h
end PL

end
section
/-! Layer C, 1: the values' own rules. -/
namespace PL
def iv (k : Nat) : PV := .int (k : Int)
theorem iv_app (k : Nat) : iv k = .int (k : Int) := rfl
theorem iv_fun : (fun (k : Nat) => PV.int (k : Int)) = iv := rfl
/-- an own list whose items are all frozen -/
abbrev own (xs : List PV) : MV := .l (xs.map MV.p)
abbrev ilist (l : List Int) : MV := own (l.map PV.int)
theorem unpL_own : ∀ (xs : List PV), unpL (xs.map MV.p) = some xs
  | [] => rfl
  | x :: r => by simp only [List.map_cons, unpL, unpL_own r]
theorem frzL_own : ∀ (xs : List PV), frzL (xs.map MV.p) = xs
  | [] => rfl
  | x :: r => by simp only [List.map_cons, frzL, frz, frzL_own r]
theorem map_snoc (xs : List PV) (v : PV) : xs.map MV.p ++ [MV.p v] = (xs ++ [v]).map MV.p := by simp
theorem frz_p (v : PV) : frz (.p v) = v := rfl
theorem frz_own (xs : List PV) : frz (own xs) = .fls xs := by simp only [own, frz, frzL_own]
theorem frz_l (xs : List MV) : frz (.l xs) = .fls (frzL xs) := rfl
theorem frz_d (t : Bool) (ks vs : List PV) : frz (.d t ks vs) = .fdc t ks vs := rfl
section
variable {a b : Int} {s r : Txt} {w w' t : Bool} {l m : List PV} {u v x y z : PV} {xs ys : List MV} {k : Nat}
theorem v_addi : binF .add (.p (.int a)) (.p (.int b)) = some (.p (.int (a + b))) := rfl
theorem v_adds : binF .add (.p (.str s)) (.p (.str r)) = if s.length + r.length ≤ LIM then some (.p (.str (s ++ r))) else none := rfl
theorem v_addt : binF .add (.p (.tup false l)) (.p (.tup false m)) = if l.length + m.length ≤ LIM then some (.p (.tup false (l ++ m))) else none := rfl
theorem v_addl : binF .add (own l) (own m) = if l.length + m.length ≤ LIM then some (own (l ++ m)) else none := by
  show (match unpL (l.map MV.p), unpL (m.map MV.p) with
    | some x, some y => if x.length + y.length ≤ LIM then some (MV.l ((x ++ y).map .p)) else none
    | _, _ => none) = _
  rw [unpL_own, unpL_own]
theorem v_addf : binF .add (.p (.fls l)) (own m) = if l.length + m.length ≤ LIM then some (own (l ++ m)) else none := by
  show (match some l, unpL (m.map MV.p) with
    | some x, some y => if x.length + y.length ≤ LIM then some (MV.l ((x ++ y).map .p)) else none
    | _, _ => none) = _
  rw [unpL_own]
theorem v_addg : binF .add (own l) (.p (.fls m)) = if l.length + m.length ≤ LIM then some (own (l ++ m)) else none := by
  show (match unpL (l.map MV.p), some m with
    | some x, some y => if x.length + y.length ≤ LIM then some (MV.l ((x ++ y).map .p)) else none
    | _, _ => none) = _
  rw [unpL_own]
theorem v_sub : binF .sub (.p (.int a)) (.p (.int b)) = some (.p (.int (a - b))) := rfl
theorem v_mul : binF .mul (.p (.int a)) (.p (.int b)) = if a.natAbs.log2 + b.natAbs.log2 < 1000000 then some (.p (.int (a * b))) else none := rfl
theorem v_smul : binF .smul (.p (.str s)) (.p (.int b)) = if s.length * b.toNat ≤ LIM ∧ -(2 ^ 63) ≤ b ∧ b < 2 ^ 63 then some (.p (.str (List.replicate b.toNat s).flatten)) else none := rfl
theorem v_fdiv : binF .fdiv (.p (.int a)) (.p (.int b)) = if 0 < b ∧ b.natAbs.log2 < 9000 then some (.p (.int (a / b))) else none := rfl
theorem v_mod : binF .mod (.p (.int a)) (.p (.int b)) = if 0 < b then some (.p (.int (a % b))) else none := rfl
theorem v_pow : binF .pow (.p (.int a)) (.p (.int b)) = if 0 ≤ b ∧ b ≤ 1000000 ∧ a.natAbs < 2 ^ 64 then some (.p (.int (a ^ b.toNat))) else none := rfl
theorem isData_int : isData (.int a) = true := rfl
theorem isData_non : isData .non = true := rfl
theorem isData_bl : isData (.bl w) = true := rfl
theorem v_eqi : cmpF .eq (.p (.int a)) (.p (.int b)) = some (decide (a = b)) := rfl
theorem v_nei : cmpF .ne (.p (.int a)) (.p (.int b)) = some (!decide (a = b)) := rfl
theorem v_lt : cmpF .lt (.p (.int a)) (.p (.int b)) = some (decide (a < b)) := rfl
theorem v_le : cmpF .le (.p (.int a)) (.p (.int b)) = some (decide (a ≤ b)) := rfl
theorem v_gt : cmpF .gt (.p (.int a)) (.p (.int b)) = some (decide (b < a)) := rfl
theorem v_ge : cmpF .ge (.p (.int a)) (.p (.int b)) = some (decide (b ≤ a)) := rfl
theorem v_is : cmpF .is (.p u) (.p .non) = some (isNonP u) := rfl
theorem v_isl : cmpF .is (.l xs) (.p .non) = some false := rfl
theorem v_isn : cmpF .isNot (.p u) (.p .non) = some (!isNonP u) := rfl
theorem v_isnl : cmpF .isNot (.l xs) (.p .non) = some true := rfl
theorem nonP_non : isNonP .non = true := rfl
theorem nonP_int : isNonP (.int a) = false := rfl
theorem nonP_bl : isNonP (.bl w) = false := rfl
theorem nonP_str : isNonP (.str s) = false := rfl
theorem nonP_tup : isNonP (.tup w l) = false := rfl
theorem nonP_fls : isNonP (.fls l) = false := rfl
theorem v_lent : lenF (.p (.tup w l)) = some l.length := rfl
theorem v_lenf : lenF (.p (.fls l)) = some l.length := rfl
theorem v_lenl : lenF (.l xs) = some xs.length := rfl
theorem v_lend : lenF (.d t l m) = some l.length := rfl
theorem v_lens : lenF (.p (.str s)) = if s.length ≤ LIM then some s.length else none := rfl
theorem v_lent' : bltF .len [.p (.tup w l)] = some (.p (.int (l.length : Nat))) := rfl
theorem v_lenf' : bltF .len [.p (.fls l)] = some (.p (.int (l.length : Nat))) := rfl
theorem v_lenl' : bltF .len [.l xs] = some (.p (.int (xs.length : Nat))) := rfl
theorem v_lend' : bltF .len [.d t l m] = some (.p (.int (l.length : Nat))) := rfl
theorem v_lens' : bltF .len [.p (.str s)] = if s.length ≤ LIM then some (.p (.int (s.length : Nat))) else none := by
  show (match if s.length ≤ LIM then some s.length else none with
    | some n => some (MV.p (.int (n : Int)))
    | none => none) = _
  by_cases h : s.length ≤ LIM
  · rw [if_pos h, if_pos h]
  · rw [if_neg h, if_neg h]
theorem v_abs : bltF .abs [.p (.int a)] = some (.p (.int (if a < 0 then -a else a))) := rfl
theorem v_min2 : bltF .min2 [.p (.int a), .p (.int b)] = some (.p (.int (if b < a then b else a))) := rfl
theorem v_max2 : bltF .max2 [.p (.int a), .p (.int b)] = some (.p (.int (if b > a then b else a))) := rfl
theorem v_gcd : bltF .gcd [.p (.int a), .p (.int b)] = some (.p (.int ((Nat.gcd a.natAbs b.natAbs : Nat) : Int))) := rfl
theorem v_inti : bltF .int1 [.p (.int a)] = some (.p (.int a)) := rfl
theorem v_tupt : bltF .tuple1 [.p (.tup w l)] = some (.p (.tup w l)) := rfl
theorem v_tupf : bltF .tuple1 [.p (.fls l)] = some (.p (.tup false l)) := rfl
theorem v_tupl : bltF .tuple1 [own l] = some (.p (.tup false l)) := by
  show (match unpL (l.map MV.p) with
    | some l => some (MV.p (.tup false l))
    | none => none) = _
  rw [unpL_own]
theorem v_truB : truF (.p (.bl w)) = some w := rfl
theorem v_truI : truF (.p (.int a)) = some (a != 0) := rfl
theorem v_truN : truF (.p .non) = some false := rfl
theorem v_truL : truF (.l xs) = some (!xs.isEmpty) := rfl
theorem v_ix0 : ixF (.p (.tup w (x :: l))) (.p (.int 0)) = some (.p x) := by
  show (match ixN (l.length + 1) 0 with
    | some k => ((x :: l)[k]?).map MV.p
    | none => none) = _
  rw [show ixN (l.length + 1) 0 = some 0 by unfold ixN; rw [if_pos (by omega), if_pos (by omega)]; rfl]
  rfl
theorem ixN_lit {n : Nat} (h : k < n) : ixN n (k : Int) = some k := by
  unfold ixN; rw [if_pos (by omega), if_pos (by omega)]; simp
theorem v_ixt (h : l[k]? = some v) : ixF (.p (.tup w l)) (.p (.int (k : Nat))) = some (.p v) := by
  have hk := (List.getElem?_eq_some_iff.mp h).1
  show (match ixN l.length k with
    | some k => (l[k]?).map MV.p
    | none => none) = _
  rw [ixN_lit hk]
  show (l[k]?).map MV.p = _
  rw [h]; rfl
theorem v_ixf (h : l[k]? = some v) : ixF (.p (.fls l)) (.p (.int (k : Nat))) = some (.p v) := v_ixt (w := false) h
theorem v_ix1 : ixF (.p (.tup w (x :: y :: l))) (.p (.int 1)) = some (.p y) := v_ixt (k := 1) rfl
theorem v_ix2 : ixF (.p (.tup w (x :: y :: z :: l))) (.p (.int 2)) = some (.p z) := v_ixt (k := 2) rfl
theorem v_ix3 : ixF (.p (.tup w (x :: y :: z :: u :: l))) (.p (.int 3)) = some (.p u) := v_ixt (k := 3) rfl
theorem v_ixl {i : Int} (h : ixN l.length i = some k) (h2 : l[k]? = some v) : ixF (own l) (.p (.int i)) = some (.p v) := by
  show (match ixN (l.map MV.p).length i with
    | some k => match (l.map MV.p)[k]? with
      | some (.p v) => some (MV.p v)
      | some m => some (MV.p (frz m))
      | none => none
    | none => none) = _
  rw [List.length_map, h]
  simp only [List.getElem?_map, h2]
  rfl
theorem v_ixo (h : l[k]? = some v) : ixF (own l) (.p (.int (k : Nat))) = some (.p v) := v_ixl (ixN_lit (List.getElem?_eq_some_iff.mp h).1) h
theorem ixFrz_p {ε : Env} {i : Opd} {j : MV} : ixFrz ε i (MV.p u) j = ε := by cases i <;> rfl
theorem ixFrz_d {ε : Env} {i : Opd} {j : MV} : ixFrz ε i (MV.d t l m) j = ε := by cases i <;> rfl
theorem ixFrz_t {ε : Env} {i j : MV} : ixFrz ε (Opd.tm i) (MV.l xs) j = ε := rfl
theorem ixFrz_o {ε : Env} {i : Opd} {j : MV} : ixFrz ε i (own l) j = ε := by
  cases i with
  | tm _ => rfl
  | sl i =>
    cases j with
    | p q =>
      cases q with
      | int j =>
        show (match ixN (l.map MV.p).length j with
          | some k => match (l.map MV.p)[k]? with
            | some (.p _) => ε
            | some m => ε.set i (some (.l ((l.map MV.p).set k (.p (frz m)))))
            | none => ε
          | none => ε) = _
        cases ixN (l.map MV.p).length j with
        | none => rfl
        | some k =>
          simp only [List.getElem?_map]
          cases l[k]? <;> rfl
      | _ => rfl
    | _ => rfl
theorem v_app (h : xs.length < LIM) {n : MV} : mutF .append xs [n] = some (MV.p .non, xs ++ [n]) := by
  show (if xs.length < LIM then some (MV.p .non, xs ++ [n]) else none) = _
  rw [if_pos h]
theorem v_appE {n : MV} : mutF .append xs [n] = if xs.length < LIM then some (MV.p .non, xs ++ [n]) else none := rfl
theorem v_pop : mutF .pop ((l ++ [v]).map MV.p) [] = some (MV.p v, l.map MV.p) := by
  show (match ((l ++ [v]).map MV.p).getLast? with
    | some q => some (q, ((l ++ [v]).map MV.p).dropLast)
    | none => none) = _
  simp
theorem v_rev : mutF .reverse xs [] = some (MV.p .non, xs.reverse) := rfl
theorem seqP_t : seqP (.tup w l) = some l := rfl
theorem seqP_f : seqP (.fls l) = some l := rfl
theorem seqP_s : seqP (.str s) = some (s.map fun c => .str [c]) := rfl
end
/-! the same, with what is asked for told by name -/
def MulOk (a b : Int) : Prop := a.natAbs.log2 + b.natAbs.log2 < 1000000
def DivOk (b : Int) : Prop := 0 < b ∧ b.natAbs.log2 < 9000
def LenOk (n : Nat) : Prop := n ≤ LIM
def AppOk (n : Nat) : Prop := n < LIM
def PowOk (a b : Int) : Prop := 0 ≤ b ∧ b ≤ 1000000 ∧ a.natAbs < 2 ^ 64
section
variable {a b : Int} {s r : Txt} {w w' t : Bool} {l m : List PV} {u v x y z : PV} {xs ys : List MV} {kk : MV → Prop}
theorem g_mul : getK (binF .mul (.p (.int a)) (.p (.int b))) kk = (MulOk a b ∧ kk (.p (.int (a * b)))) := by rw [v_mul, getK_ite]; rfl
theorem g_fdiv : getK (binF .fdiv (.p (.int a)) (.p (.int b))) kk = (DivOk b ∧ kk (.p (.int (a / b)))) := by rw [v_fdiv, getK_ite]; rfl
theorem g_mod : getK (binF .mod (.p (.int a)) (.p (.int b))) kk = (0 < b ∧ kk (.p (.int (a % b)))) := by rw [v_mod, getK_ite]
theorem g_pow : getK (binF .pow (.p (.int a)) (.p (.int b))) kk = (PowOk a b ∧ kk (.p (.int (a ^ b.toNat)))) := by rw [v_pow, getK_ite]; rfl
theorem g_adds : getK (binF .add (.p (.str s)) (.p (.str r))) kk = (LenOk (s.length + r.length) ∧ kk (.p (.str (s ++ r)))) := by rw [v_adds, getK_ite]; rfl
theorem g_addt : getK (binF .add (.p (.tup false l)) (.p (.tup false m))) kk = (LenOk (l.length + m.length) ∧ kk (.p (.tup false (l ++ m)))) := by rw [v_addt, getK_ite]; rfl
theorem g_addl : getK (binF .add (own l) (own m)) kk = (LenOk (l.length + m.length) ∧ kk (own (l ++ m))) := by rw [v_addl, getK_ite]; rfl
theorem g_addf : getK (binF .add (.p (.fls l)) (own m)) kk = (LenOk (l.length + m.length) ∧ kk (own (l ++ m))) := by rw [v_addf, getK_ite]; rfl
theorem g_addg : getK (binF .add (own l) (.p (.fls m))) kk = (LenOk (l.length + m.length) ∧ kk (own (l ++ m))) := by rw [v_addg, getK_ite]; rfl
theorem g_lens : getK (bltF .len [.p (.str s)]) kk = (LenOk s.length ∧ kk (.p (.int (s.length : Nat)))) := by rw [v_lens', getK_ite]; rfl
theorem g_app {n : MV} {k2 : MV × List MV → Prop} : getK (mutF .append xs [n]) k2 = (AppOk xs.length ∧ k2 (.p .non, xs ++ [n])) := by rw [v_appE, getK_ite]; rfl
theorem g_slt {lo hi : Option Int} : slF (.p (.tup false l)) lo hi = some (.p (.tup false (cutL l lo hi))) := rfl
theorem g_slf {lo hi : Option Int} : slF (.p (.fls l)) lo hi = some (own (cutL l lo hi)) := rfl
theorem g_slo {lo hi : Option Int} : slF (own l) lo hi = some (own (cutL l lo hi)) := by
  show (match unpL (l.map MV.p) with
    | some l => some (MV.l ((cutL l lo hi).map .p))
    | none => none) = _
  rw [unpL_own]
end
theorem small62_ok {a : Int} (h : -(2 ^ 62) ≤ a) (h2 : a < 2 ^ 62) : small62 a = true := by
  unfold small62; simp only [Bool.and_eq_true, decide_eq_true_eq]; exact ⟨h, h2⟩
theorem brK_dec {c : Prop} [Decidable c] {p q : Prop} (h1 : c → p) (h2 : ¬ c → q) : brK (decide c) p q := ⟨fun h => h1 (of_decide_eq_true h), fun h => h2 (of_decide_eq_false h)⟩
theorem brK_decN {c : Prop} [Decidable c] {p q : Prop} (h1 : ¬ c → p) (h2 : c → q) : brK (!decide c) p q := ⟨fun h => h1 (by simpa using h), fun h => h2 (by simpa using h)⟩
/-! ### loops over a list that is known -/
def forK (f : Flow) (ε : Env) (p : Prop) (Q : Flow → Env → Prop) : Prop := match f with
  | .nx => p
  | .ct => p
  | .bk => Q .bk ε
  | .rt v => Q (.rt v) ε
section
variable {p : Prop} {ε : Env} {v : MV} {Q : Flow → Env → Prop} {E : PV → Env → Prop} {step : PV → Env → Res Flow}
theorem forK_nx : forK .nx ε p Q = p := Eq.trans rfl rfl
theorem forK_ct : forK .ct ε p Q = p := Eq.trans rfl rfl
theorem forK_bk : forK .bk ε p Q = Q .bk ε := Eq.trans rfl rfl
theorem forK_rt : forK (.rt v) ε p Q = Q (.rt v) ε := Eq.trans rfl rfl
theorem W_forM {α : Type} (f : α → PV) (xs : List α) (I : List α → Env → Prop) (h0 : I [] ε) (hs : ∀ ys x zs ε, xs = ys ++ x :: zs → I ys ε → (step (f x) ε).W (fun fl ε' => forK fl ε' (I (ys ++ [x]) ε') Q) E) (he : ∀ ε, I xs ε → Q .nx ε) : (forL step (xs.map f) ε).W Q E := by
  refine W_for (fun l ε => ∃ ys zs, xs = ys ++ zs ∧ l = zs.map f ∧ I ys ε) (fun x r ε hI => ?_) (fun ε hI => ?_) _ _ ⟨[], xs, rfl, rfl, h0⟩
  · obtain ⟨ys, zs, e1, e2, hI⟩ := hI
    cases zs with
    | nil => cases e2
    | cons z zs =>
      obtain ⟨rfl, rfl⟩ := List.cons.inj e2
      refine W_mono (hs ys z zs ε e1 hI) (fun fl ε' h => ?_) fun _ _ z => z
      cases fl with
      | nx => exact ⟨ys ++ [z], zs, by simp [e1], rfl, h⟩
      | ct => exact ⟨ys ++ [z], zs, by simp [e1], rfl, h⟩
      | bk => exact h
      | rt v => exact h
  · obtain ⟨ys, zs, e1, e2, hI⟩ := hI
    have : zs = [] := by simpa using e2.symm
    subst this
    rw [List.append_nil] at e1
    subst e1
    exact he ε hI
theorem rng_iv (n : Nat) : rngL 0 n 1 = (List.range n).map iv := by
  unfold rngL iv
  refine List.map_congr_left fun i _ => ?_
  rw [Int.mul_one, Int.zero_add]
theorem rng_from (a n : Nat) : rngL (a : Int) n 1 = (List.range n).map fun i => iv (a + i) := by
  unfold rngL iv
  refine List.map_congr_left fun i _ => ?_
  rw [Int.mul_one, Int.natCast_add]
/-- over range(n) -/
theorem W_rng {n : Nat} (I : Nat → Env → Prop) (h0 : I 0 ε) (hs : ∀ i ε, i < n → I i ε → (step (.int (i : Nat)) ε).W (fun fl ε' => forK fl ε' (I (i + 1) ε') Q) E) (he : ∀ ε, I n ε → Q .nx ε) : (forL step (rngL 0 n 1) ε).W Q E := by
  rw [rng_iv]
  refine W_forM iv (List.range n) (fun ys ε => I ys.length ε) h0 (fun ys x zs ε e h => ?_) fun ε h => he ε (by simpa using h)
  have hx : x = ys.length := by
    have := congrArg (fun l => l[ys.length]?) e
    simp at this
    have hl := congrArg List.length e
    simp at hl
    rw [List.getElem?_range (by omega)] at this
    simpa using this.symm
  have hl := congrArg List.length e
  simp at hl
  subst hx
  rw [List.length_append]
  exact hs _ ε (by omega) h
end
/-- a comprehension that changes nothing, over a known list -/
theorem W_compM {α : Type} {step : PV → Env → Res (Option MV)} {Q : List MV → Env → Prop} {E : PV → Env → Prop} {ε : Env} (f : α → PV) (xs : List α) (g : α → Option MV)
    (hs : ∀ x, x ∈ xs → (step (f x) ε).W (fun o ε' => o = g x ∧ ε' = ε) E) (hq : Q (xs.filterMap g) ε) : (compL step (xs.map f) ε).W Q E := by
  induction xs generalizing Q with
  | nil => exact hq
  | cons x r ih =>
    rw [List.map_cons]
    unfold compL
    rw [W_bind]
    have := hs x List.mem_cons_self
    cases hx : step (f x) ε with
    | bad => rw [hx] at this; exact this
    | ex e ε' => rw [hx] at this; exact this
    | ok o ε' =>
      rw [hx] at this
      obtain ⟨rfl, rfl⟩ := this
      show (Res.bind _ _).W Q E
      rw [W_bind]
      refine ih (fun y hy => hs y (List.mem_cons_of_mem _ hy)) ?_
      rw [List.filterMap_cons] at hq
      cases hg : g x <;> (rw [hg] at hq; exact hq)
theorem ix2_tt {w w' : Bool} {l m : List PV} {v : PV} {i j : Nat} (h : l[i]? = some (.tup w' m)) (g : m[j]? = some v) : ix2F (some (.p (.tup w l))) (.p (.int (i : Nat))) (.p (.int (j : Nat))) = some (.p v) := by
  show (match ixF (.p (.tup w l)) (.p (.int (i : Nat))) with
      | some m => match ixF m (.p (.int (j : Nat))) with
        | some (.p r) => some (MV.p r)
        | _ => none
      | none => none) = _
  rw [v_ixt h]
  show (match ixF (.p (.tup w' m)) (.p (.int (j : Nat))) with
        | some (.p r) => some (MV.p r)
        | _ => none) = _
  rw [v_ixt g]
theorem cut_take {α : Type} (l : List α) (k : Nat) : cutL l none (some (k : Int)) = l.take k := by
  unfold cutL sIx
  have : ¬ ((k : Int) < 0) := by omega
  simp only [this, if_false, Nat.sub_zero, List.drop_zero, Int.toNat_natCast]
  rw [Nat.min_def]
  split
  · rfl
  · rw [List.take_length, List.take_of_length_le (by omega)]
theorem cut_drop {α : Type} (l : List α) (k : Nat) : cutL l (some (k : Int)) none = l.drop k := by
  unfold cutL sIx
  have : ¬ ((k : Int) < 0) := by omega
  simp only [this, if_false, Int.toNat_natCast]
  rw [Nat.min_def]
  split
  · rw [List.take_of_length_le (by simp)]
  · rw [Nat.sub_self, List.take_zero, List.drop_eq_nil_of_le (by omega)]
theorem cut_drop1 {α : Type} (l : List α) (k : Nat) : cutL l (some ((k : Int) + 1)) none = l.drop (k + 1) := cut_drop l (k + 1)
theorem small_nat {n : Nat} (h : n ≤ 2 ^ 60) : small62 (n : Int) = true := by
  unfold small62; simp only [Bool.and_eq_true, decide_eq_true_eq]; omega
end PL

end
section
/-! Layer C, 2: rules of texts. -/
namespace PL
def asc (s : Txt) : Bool := s.all fun c => decide (c < 1114112)
def JoinOk (s : Txt) (z : List Txt) : Prop := (z.map (·.length)).sum + z.length * s.length ≤ LIM
def StrOk (i : Int) : Prop := i.natAbs.log2 < 1920
def DigOk (s : Txt) : Prop := (s.all isDig && !s.isEmpty && decide (s.length ≤ 640)) = true
def RepOk (s : Txt) (b : Int) : Prop := s.length * b.toNat ≤ LIM ∧ -(2 ^ 63) ≤ b ∧ b < 2 ^ 63
def partV (c : Nat) (s : Txt) : PV := match partC c s with
  | some (a, b) => .tup false [.str a, .str [c], .str b]
  | none => .tup false [.str s, .str [], .str []]
theorem strsOf_map : ∀ (l : List Txt), strsOf (l.map PV.str) = some l
  | [] => rfl
  | x :: r => by simp only [List.map_cons, strsOf, strsOf_map r]
theorem blsOf_map : ∀ (l : List Bool), blsOf (l.map PV.bl) = some l
  | [] => rfl
  | x :: r => by simp only [List.map_cons, blsOf, blsOf_map r]
theorem intsOf_map : ∀ (l : List Int), intsOf (l.map PV.int) = some l
  | [] => rfl
  | x :: r => by simp only [List.map_cons, intsOf, intsOf_map r]
section
variable {s r a b : Txt} {c k : Nat} {i : Int} {kk : MV → Prop} {kb : Bool → Prop} {ws : List Txt} {bs : List Bool} {l : List PV} {lo hi : Option Int} {w : Bool}
theorem g_split : getK (metF .split (.p (.str s)) [.p (.str [c])]) kk = (LenOk (s.length + 2) ∧ kk (own ((splitC c s).map PV.str))) := by
  show getK (if s.length + 2 ≤ LIM then some (.l ((splitC c s).map fun w => .p (.str w))) else none) kk = _
  rw [getK_ite, own, List.map_map]; rfl
theorem g_part : getK (metF .partition (.p (.str s)) [.p (.str [c])]) kk = (LenOk s.length ∧ kk (.p (partV c s))) := by
  show getK (if s.length ≤ LIM then match partC c s with
      | some (a, b) => some (.p (.tup false [.str a, .str [c], .str b]))
      | none => some (.p (.tup false [.str s, .str [], .str []])) else none) kk = _
  by_cases h : s.length ≤ LIM
  · rw [if_pos h]
    unfold partV
    cases partC c s with
    | none => simp [getK, LenOk, h]
    | some q => simp [getK, LenOk, h]
  · rw [if_neg h]; simp [getK, LenOk, h]
theorem g_join : getK (metF .join (.p (.str s)) [own (ws.map PV.str)]) kk = (JoinOk s ws ∧ kk (.p (.str (joinT s ws)))) := by
  show getK (match unpL ((ws.map PV.str).map MV.p) with
    | some l => match strsOf l with
      | some z => if (z.map (·.length)).sum + z.length * s.length ≤ LIM then some (.p (.str (joinT s z))) else none
      | none => none
    | none => none) kk = _
  rw [unpL_own]
  dsimp only
  rw [strsOf_map]
  dsimp only
  rw [getK_ite]; rfl
theorem g_str1 : getK (bltF .str1 [.p (.int i)]) kk = (StrOk i ∧ kk (.p (.str (intTxt i)))) := by
  show getK (if i.natAbs.log2 < 1920 then some (MV.p (.str (intTxt i))) else none) kk = _
  rw [getK_ite]; rfl
theorem g_int1 : getK (bltF .int1 [.p (.str s)]) kk = (DigOk s ∧ kk (.p (.int (valT s : Nat)))) := by
  show getK (if (s.all isDig && !s.isEmpty && decide (s.length ≤ 640)) = true then some (MV.p (.int (valT s : Nat))) else none) kk = _
  rw [getK_ite]; rfl
theorem g_smul : getK (binF .smul (.p (.str s)) (.p (.int i))) kk = (RepOk s i ∧ kk (.p (.str (List.replicate i.toNat s).flatten))) := by
  rw [v_smul, getK_ite]; rfl
theorem v_ins : cmpF .isIn (.p (.str [c])) (.p (.str s)) = some (s.contains c) := rfl
theorem v_notins : cmpF .notIn (.p (.str [c])) (.p (.str s)) = some (!s.contains c) := rfl
theorem g_slst : getK (slF (.p (.str s)) lo hi) kk = (LenOk s.length ∧ kk (.p (.str (cutL s lo hi)))) := by
  show getK (if s.length ≤ LIM then some (MV.p (.str (cutL s lo hi))) else none) kk = _
  rw [getK_ite]; rfl
theorem isData_str : isData (.str s) = asc s := by
  show (asc s && decide (0 ≤ 64)) = _
  simp
theorem g_eqs : getK (cmpF .eq (.p (.str a)) (.p (.str b))) kb = ((asc a = true ∧ asc b = true) ∧ kb (decide (a = b))) := by
  show getK (if isData (.str a) && isData (.str b) then some (decide (a = b)) else none) kb = _
  rw [isData_str, isData_str, getK_iteB, Bool.and_eq_true]
theorem g_nes : getK (cmpF .ne (.p (.str a)) (.p (.str b))) kb = ((asc a = true ∧ asc b = true) ∧ kb (!decide (a = b))) := by
  show getK (if isData (.str a) && isData (.str b) then some (!decide (a = b)) else none) kb = _
  rw [isData_str, isData_str, getK_iteB, Bool.and_eq_true]
theorem v_all : bltF .all1 [own (bs.map PV.bl)] = some (.p (.bl (bs.all id))) := by
  show (match unpL ((bs.map PV.bl).map MV.p) with
    | some l => match blsOf l with
      | some z => some (MV.p (.bl (z.all id)))
      | none => none
    | none => none) = _
  rw [unpL_own]
  dsimp only
  rw [blsOf_map]
theorem v_ixs (h : s[k]? = some c) (hl : s.length ≤ LIM) : ixF (.p (.str s)) (.p (.int (k : Nat))) = some (.p (.str [c])) := by
  have hk := (List.getElem?_eq_some_iff.mp h).1
  show (if s.length ≤ LIM then match ixN s.length k with
      | some k => match s[k]? with
        | some c => some (MV.p (.str [c]))
        | none => none
      | none => none else none) = _
  rw [if_pos hl, ixN_lit hk]
  dsimp only
  rw [h]
theorem v_idx (h : idxC c s = some k) : metF .index (.p (.str s)) [.p (.str [c])] = some (.p (.int (k : Nat))) := by
  show (match idxC c s with
    | some n => some (MV.p (.int (n : Int)))
    | none => none) = _
  rw [h]
theorem v_truS : truF (.p (.str s)) = if s.length ≤ LIM then some (!s.isEmpty) else none := rfl
theorem g_zfill : getK (metF .zfill (.p (.str s)) [.p (.int i)]) kk = ((s.all isDig && decide (0 ≤ i) && decide (i ≤ 1000)) = true ∧ kk (.p (.str (zfill s i.toNat)))) := by
  show getK (if (s.all isDig && decide (0 ≤ i) && decide (i ≤ 1000)) = true then some (MV.p (.str (zfill s i.toNat))) else none) kk = _
  rw [getK_ite]
/-- a list that grows by a list -/
theorem v_ext (xs : List MV) (hl : xs.length + l.length ≤ LIM) : mutF .extend xs [own l] = some (MV.p .non, xs ++ l.map MV.p) := by
  show (match unpL (l.map MV.p) with
    | some l => if xs.length + l.length ≤ LIM then some (MV.p .non, xs ++ l.map MV.p) else none
    | none => none) = _
  rw [unpL_own]
  dsimp only
  rw [if_pos hl]
end
def reqK (o o' : Option MV) (p : Prop) : Prop := match o, o' with
  | some (.p u), some (.p v) => (isData u && same u v && shw u && decide (dep u ≤ 40) && decide (cst u ≤ LIM)) = true ∧ p
  | _, _ => False
theorem reqK_p {u v : PV} {p : Prop} : reqK (some (.p u)) (some (.p v)) p = ((isData u && same u v && shw u && decide (dep u ≤ 40) && decide (cst u ≤ LIM)) = true ∧ p) := Eq.trans rfl rfl
theorem w_req {C : Ctx} {ε : Env} {i j : Nat} {Q : MV → Env → Prop} {E : PV → Env → Prop} : (ev C (.req (.var i) (.var j)) ε).W Q E = reqK (ε.at i) (ε.at j) (Q (.p (.bl true)) ε) := by
  rw [ev]
  simp only [W_bind, w_opdv, Opd.get]
  unfold reqK
  cases ε.at i with
  | none => rfl
  | some u =>
    cases ε.at j with
    | none => cases u <;> rfl
    | some v =>
      simp only [getK]
      cases u with
      | p u =>
        cases v with
        | p v =>
          dsimp only
          by_cases h : (isData u && same u v && shw u && decide (dep u ≤ 40) && decide (cst u ≤ LIM)) = true
          · rw [if_pos h]; simp only [h, true_and]; rfl
          · rw [if_neg h]; simp [h, Res.W]
        | _ => rfl
      | _ => cases v <;> rfl
end PL

end
open PL
local macro_rules
  | `(tactic| nofun) => `(tactic| simp only [↓w_var, ↓w_con, ↓w_glo, ↓w_bin, ↓w_neg, ↓w_cmp, ↓w_chn, ↓w_andv, ↓w_orv, ↓w_notv, ↓w_ifeE, ↓w_call, ↓w_blt, ↓w_isa, ↓w_met, ↓w_mut, ↓w_ix, ↓w_ix2, ↓w_slc, ↓w_tup, ↓w_lst, ↓w_dct, ↓w_comp, ↓w_atr, ↓w_req, ↓w_opdv, ↓w_opd', ↓w_ods0, ↓w_ods, ↓w_evs0, ↓w_evs, ↓w_tt, ↓w_tv, ↓w_tn, ↓w_ta, ↓w_to, ↓w_ival, ↓w_imv, ↓w_rng1, ↓w_rng2, ↓w_nil, ↓w_set, ↓w_unp, ↓w_par, ↓w_six, ↓w_six2, ↓w_exp, ↓w_ret, ↓w_rtv, ↓w_ret0, ↓w_ife, ↓w_fo, ↓w_pas, ↓w_cnt, ↓w_brk, ↓w_rai, ↓w_try, ↓w_forS, ↓w_compS, ↓w_dead, own, ilist, getK_some, brK_t, brK_f, rdK_p, rdK_l, rdK_d, intK_int, blK_bl, lstK_l, mvK_p, atrK_e, clnK_rt, clnK_nx, forK_nx, forK_ct, forK_bk, forK_rt, nxK_nx, nxK_rt, nxK_bk, nxK_ct, rtvK_p, rtvK_l, rtvK_d, defK_rt, defK_nx, at_0, at_s, putS_eq, Opd.get, gets, lend, unlend, frz_p, frz_own, frz_l, frz_d, frzL, frzL_own, unpL_own, pvs, optI, nonE, noBk, giveBack, restE, wipeE, noOwn, lockI, lockOf, putT, putSs, List.set_cons_zero, List.set_cons_succ, List.take_succ_cons, List.take_zero, List.length_cons, List.length_nil, List.length_map, List.contains_cons, List.contains_nil, List.all_nil, List.all_cons, List.map_cons, List.map_nil, List.replicate_succ, List.replicate_zero, List.cons_append, List.nil_append, Bool.or_false, Bool.false_or, Bool.not_true, Bool.not_false, Bool.and_true, Bool.true_and, Bool.or_true, Bool.true_or, Bool.false_and, Bool.and_false, decide_true, decide_false, if_true, if_false, true_and, and_true, Nat.reduceBEq, Nat.reduceAdd, Nat.reduceLT, Nat.reduceLeDiff, Nat.reduceSub, Bool.false_eq_true, reduceIte, reduceCtorEq, v_addi, g_adds, g_addt, g_addl, g_addf, g_addg, v_sub, g_mul, g_slt, g_slf, g_slo, g_fdiv, g_mod, g_pow, isData_int, isData_non, isData_bl, v_eqi, v_nei, v_lt, v_le, v_gt, v_ge, v_is, v_isl, v_isn, v_isnl, nonP_non, nonP_int, nonP_bl, nonP_str, nonP_tup, nonP_fls, v_lent, v_lent', v_lenf', v_lenl', v_lend', g_lens, iv_app, v_lenf, v_lenl, v_lend, v_lent, v_lent', v_lenf', v_lenl', v_lend', g_lens, iv_app, v_lenf, v_lenl, v_lend, v_abs, v_min2, v_max2, v_gcd, v_inti, v_tupt, v_tupf, v_tupl, v_truB, v_truI, v_truN, v_truL, v_ix0, v_ix1, v_ix2, v_ix3, ixFrz_p, ixFrz_d, ixFrz_t, ixFrz_o, g_app, v_pop, v_rev, seqP_t, seqP_f, seqP_s, reqK_p, g_split, g_part, g_join, g_str1, g_int1, g_smul, v_ins, v_notins, g_slst, isData_str, g_eqs, g_nes, v_all, g_zfill])
section
/-! Plain law, 0: ratios in lowest terms. -/
namespace A
open PL
/-- in lowest terms, for a positive bottom -/
def gI (t b : Int) : Int := ((Nat.gcd t.natAbs b.natAbs : Nat) : Int)
def low (t b : Int) : Int × Int := (t / gI t b, b / gI t b)
theorem gI_pos {t b : Int} (h : 0 < b) : 0 < gI t b := by
  unfold gI
  have : 0 < Nat.gcd t.natAbs b.natAbs := Nat.gcd_pos_of_pos_right _ (by omega)
  omega
theorem gI_dvd_l (t b : Int) : gI t b ∣ t := by
  unfold gI
  exact Int.ofNat_dvd_left.mpr (Nat.gcd_dvd_left _ _)
theorem gI_dvd_r (t b : Int) : gI t b ∣ b := by
  unfold gI
  exact Int.ofNat_dvd_left.mpr (Nat.gcd_dvd_right _ _)
theorem low_l {t b : Int} : gI t b * (low t b).1 = t := Int.mul_ediv_cancel' (gI_dvd_l t b)
theorem low_r {t b : Int} : gI t b * (low t b).2 = b := Int.mul_ediv_cancel' (gI_dvd_r t b)
theorem low_pos {t b : Int} (h : 0 < b) : 0 < (low t b).2 := by
  have h1 := gI_pos (t := t) h
  have h2 := low_r (t := t) (b := b)
  rcases Int.lt_trichotomy (low t b).2 0 with z | z | z
  · have := Int.mul_neg_of_pos_of_neg h1 z; omega
  · rw [z] at h2; omega
  · exact z
theorem low_scale {t b k : Int} (hb : 0 < b) (hk : 0 < k) : low (k * t) (k * b) = low t b := by
  have e : gI (k * t) (k * b) = k * gI t b := by
    unfold gI
    rw [Int.natAbs_mul, Int.natAbs_mul, Nat.gcd_mul_left, Int.natCast_mul]
    have : ((k.natAbs : Nat) : Int) = k := by omega
    rw [this]
  unfold low
  rw [e, Int.mul_ediv_mul_of_pos _ _ hk, Int.mul_ediv_mul_of_pos _ _ hk]
theorem low_scale' {t b k : Int} (hb : 0 < b) (hk : 0 < k) : low (t * k) (b * k) = low t b := by
  rw [Int.mul_comm t, Int.mul_comm b]; exact low_scale hb hk
/-- over equal fractions -/
theorem low_cross {t b t' b' : Int} (hb : 0 < b) (hb' : 0 < b') (h : t * b' = t' * b) : low t b = low t' b' := by
  rw [← low_scale' hb hb', ← low_scale' (k := b) hb' hb, h, Int.mul_comm b b']
theorem low_eq {t b : Int} : (low t b).1 * b = t * (low t b).2 := by
  have h1 := low_l (t := t) (b := b)
  have h2 := low_r (t := t) (b := b)
  generalize (low t b).1 = a, (low t b).2 = c, gI t b = g at *
  rw [← h1, ← h2]
  grind
theorem low_add {t b t' b' : Int} (hb : 0 < b) (hb' : 0 < b') : low ((low t b).1 * (low t' b').2 + (low t' b').1 * (low t b).2) ((low t b).2 * (low t' b').2) = low (t * b' + t' * b) (b * b') := by
  have p1 := low_pos (t := t) hb
  have p2 := low_pos (t := t') hb'
  refine low_cross (Int.mul_pos p1 p2) (Int.mul_pos hb hb') ?_
  have e1 := low_eq (t := t) (b := b)
  have e2 := low_eq (t := t') (b := b')
  generalize (low t b).1 = a, (low t b).2 = c, (low t' b').1 = a', (low t' b').2 = c' at *
  calc (a * c' + a' * c) * (b * b') = (a * b) * (c' * b') + (a' * b') * (c * b) := by grind
    _ = (t * c) * (c' * b') + (t' * c') * (c * b) := by rw [e1, e2]
    _ = (t * b' + t' * b) * (c * c') := by grind
theorem low_sub {t b t' b' : Int} (hb : 0 < b) (hb' : 0 < b') : low ((low t b).1 * (low t' b').2 - (low t' b').1 * (low t b).2) ((low t b).2 * (low t' b').2) = low (t * b' - t' * b) (b * b') := by
  have p1 := low_pos (t := t) hb
  have p2 := low_pos (t := t') hb'
  refine low_cross (Int.mul_pos p1 p2) (Int.mul_pos hb hb') ?_
  have e1 := low_eq (t := t) (b := b)
  have e2 := low_eq (t := t') (b := b')
  generalize (low t b).1 = a, (low t b).2 = c, (low t' b').1 = a', (low t' b').2 = c' at *
  calc (a * c' - a' * c) * (b * b') = (a * b) * (c' * b') - (a' * b') * (c * b) := by grind
    _ = (t * c) * (c' * b') - (t' * c') * (c * b) := by rw [e1, e2]
    _ = (t * b' - t' * b) * (c * c') := by grind
theorem low_mul {t b t' b' : Int} (hb : 0 < b) (hb' : 0 < b') : low ((low t b).1 * (low t' b').1) ((low t b).2 * (low t' b').2) = low (t * t') (b * b') := by
  have p1 := low_pos (t := t) hb
  have p2 := low_pos (t := t') hb'
  refine low_cross (Int.mul_pos p1 p2) (Int.mul_pos hb hb') ?_
  have e1 := low_eq (t := t) (b := b)
  have e2 := low_eq (t := t') (b := b')
  generalize (low t b).1 = a, (low t b).2 = c, (low t' b').1 = a', (low t' b').2 = c' at *
  calc (a * a') * (b * b') = (a * b) * (a' * b') := by grind
    _ = (t * c) * (t' * c') := by rw [e1, e2]
    _ = (t * t') * (c * c') := by grind
theorem low_num_pos {t b : Int} (hb : 0 < b) : 0 < (low t b).1 ↔ 0 < t := by
  have h1 := gI_pos (t := t) hb
  have h2 := low_l (t := t) (b := b)
  constructor
  · intro z; rw [← h2]; exact Int.mul_pos h1 z
  · intro z
    rcases Int.lt_trichotomy (low t b).1 0 with y | y | y
    · have := Int.mul_neg_of_pos_of_neg h1 y; omega
    · rw [y] at h2; omega
    · exact y
theorem low_num_zero {t b : Int} (hb : 0 < b) : (low t b).1 = 0 ↔ t = 0 := by
  have h1 := gI_pos (t := t) hb
  have h2 := low_l (t := t) (b := b)
  constructor
  · intro z; rw [z] at h2; omega
  · intro z; unfold low; rw [z]; simp
theorem low_inv {t b t' b' : Int} (hb : 0 < b) (hb' : 0 < b') (ht : 0 < t') : low ((low t b).1 * (low t' b').2) ((low t b).2 * (low t' b').1) = low (t * b') (b * t') := by
  have p1 := low_pos (t := t) hb
  have p2 := (low_num_pos (t := t') hb').mpr ht
  refine low_cross (Int.mul_pos p1 p2) (Int.mul_pos hb ht) ?_
  have e1 := low_eq (t := t) (b := b)
  have e2 := low_eq (t := t') (b := b')
  generalize (low t b).1 = a, (low t b).2 = c, (low t' b').1 = a', (low t' b').2 = c' at *
  calc (a * c') * (b * t') = (a * b) * (t' * c') := by grind
    _ = (t * c) * (a' * b') := by rw [e1, e2]
    _ = (t * b') * (c * a') := by grind
theorem low_le_l {t b : Int} (hb : 0 < b) : (low t b).1.natAbs ≤ t.natAbs := by
  have h1 := gI_pos (t := t) hb
  have h2 := congrArg Int.natAbs (low_l (t := t) (b := b))
  rw [Int.natAbs_mul] at h2
  rw [← h2]
  exact Nat.le_mul_of_pos_left _ (by omega)
theorem low_le_r {t b : Int} (hb : 0 < b) : (low t b).2.natAbs ≤ b.natAbs := by
  have h1 := gI_pos (t := t) hb
  have h2 := congrArg Int.natAbs (low_r (t := t) (b := b))
  rw [Int.natAbs_mul] at h2
  rw [← h2]
  exact Nat.le_mul_of_pos_left _ (by omega)
/-! sixths -/
def six (x : Int) : Int × Int := low x 6
theorem six_add (x y : Int) : low ((six x).1 * (six y).2 + (six y).1 * (six x).2) ((six x).2 * (six y).2) = six (x + y) := by
  unfold six
  rw [low_add (by omega) (by omega)]
  refine low_cross (by omega) (by omega) ?_
  grind
theorem six_sub (x y : Int) : low ((six x).1 * (six y).2 - (six y).1 * (six x).2) ((six x).2 * (six y).2) = six (x - y) := by
  unfold six
  rw [low_sub (by omega) (by omega)]
  refine low_cross (by omega) (by omega) ?_
  grind
theorem six_div (x y : Int) (hy : 0 < y) : low ((six x).1 * (six y).2) ((six x).2 * (six y).1) = low x y := by
  unfold six
  rw [low_inv (by omega) (by omega) hy]
  exact low_cross (by omega) hy (by grind)
theorem six_pos (x : Int) : 0 < (six x).2 := low_pos (by omega)
theorem six_num (x : Int) : 0 < (six x).1 ↔ 0 < x := low_num_pos (by omega)
theorem six_num0 (x : Int) : (six x).1 = 0 ↔ x = 0 := low_num_zero (by omega)
theorem six_inj {x y : Int} (h : six x = six y) : x = y := by
  have e1 := low_eq (t := x) (b := 6)
  have e2 := low_eq (t := y) (b := 6)
  have p := low_pos (t := y) (b := 6) (by omega)
  unfold six at h
  rw [h] at e1
  rw [e2] at e1
  exact (Int.eq_of_mul_eq_mul_right (by omega) e1).symm
theorem six_lt (x y : Int) : (six x).1 * (six y).2 < (six y).1 * (six x).2 ↔ x < y := by
  have e1 := low_eq (t := x) (b := 6)
  have e2 := low_eq (t := y) (b := 6)
  have p1 := six_pos x
  have p2 := six_pos y
  unfold six at *
  generalize (low x 6).1 = a, (low x 6).2 = c, (low y 6).1 = a', (low y 6).2 = c' at *
  have p : 0 < c * c' := Int.mul_pos p1 p2
  have k : (a' * c - a * c') * 6 = (y - x) * (c * c') := by grind
  constructor
  · intro h
    have : 0 < (y - x) * (c * c') := by rw [← k]; omega
    rcases Int.lt_trichotomy (y - x) 0 with z | z | z
    · have := Int.mul_neg_of_neg_of_pos z p; omega
    · rw [z] at this; simp at this
    · omega
  · intro h
    have : 0 < (y - x) * (c * c') := Int.mul_pos (by omega) p
    rw [← k] at this
    omega
/-- small enough for the model's products and quotients -/
theorem log2_iff {n k : Nat} (hk : 0 < k) : n.log2 < k ↔ n < 2 ^ k := by
  by_cases h : n = 0
  · subst h
    have : (0 : Nat) < 2 ^ k := Nat.pow_pos (by omega)
    simp only [this, iff_true]
    simpa using hk
  · exact Nat.log2_lt h
theorem log2_mul {a b m k : Nat} (hm : 0 < m) (hk : 0 < k) (h : a.log2 < m) (g : b.log2 < k) : (a * b).log2 < m + k := by
  rw [log2_iff (by omega)]
  rw [log2_iff hm] at h
  rw [log2_iff hk] at g
  rw [Nat.pow_add]
  exact Nat.mul_lt_mul'' h g
theorem log2_le {a b m : Nat} (hm : 0 < m) (h : a ≤ b) (g : b.log2 < m) : a.log2 < m := by
  rw [log2_iff hm] at *
  omega
end A

end
section
/-! Plain law: figures, words of fractions. -/
namespace TX
open PL
theorem dch {d : Nat} (h : d < 10) : (Nat.digitChar d).toNat = 48 + d := by
  match d, h with
  | 0, _ => rfl
  | 1, _ => rfl
  | 2, _ => rfl
  | 3, _ => rfl
  | 4, _ => rfl
  | 5, _ => rfl
  | 6, _ => rfl
  | 7, _ => rfl
  | 8, _ => rfl
  | 9, _ => rfl
theorem nat_lt {n : Nat} (h : n < 10) : natTxt n = [48 + n] := by
  unfold natTxt
  rw [Nat.toDigits_of_lt_base h, List.map_cons, List.map_nil, dch h]
theorem nat_ge {n : Nat} (h : 10 ≤ n) : natTxt n = natTxt (n / 10) ++ [48 + n % 10] := by
  unfold natTxt
  rw [Nat.toDigits_of_base_le (by omega) h, List.map_append, List.map_cons, List.map_nil, dch (by omega)]
theorem val_snoc (s : Txt) (c : Nat) : valT (s ++ [c]) = valT s * 10 + (c - 48) := by
  unfold valT
  rw [List.foldl_append]; rfl
theorem val_nil : valT [] = 0 := rfl
theorem val_nat (n : Nat) : valT (natTxt n) = n := by
  induction n using Nat.strongRecOn with
  | ind n ih =>
    by_cases h : n < 10
    · rw [nat_lt h]
      show 0 * 10 + (48 + n - 48) = n
      omega
    · rw [nat_ge (by omega), val_snoc, ih (n / 10) (by omega)]
      omega
/-- plain figures without leading zeros -/
def figB (s : Txt) : Bool := !s.isEmpty && s.all isDig && (s == [48] || !(s.head? == some 48))
theorem dig_of {c : Nat} (h : isDig c = true) : 48 ≤ c ∧ c ≤ 57 := by
  unfold isDig at h
  simpa using h
theorem dig_mk {d : Nat} (h : d < 10) : isDig (48 + d) = true := by
  unfold isDig
  simp; omega
theorem nat_ne (n : Nat) : natTxt n ≠ [] := by
  by_cases h : n < 10
  · rw [nat_lt h]; simp
  · rw [nat_ge (by omega)]; simp
theorem nat_dig (n : Nat) : (natTxt n).all isDig = true := by
  induction n using Nat.strongRecOn with
  | ind n ih =>
    by_cases h : n < 10
    · rw [nat_lt h]; simp [dig_mk h]
    · rw [nat_ge (by omega), List.all_append, ih (n / 10) (by omega)]
      simp [dig_mk (show n % 10 < 10 by omega)]
theorem nat_head {n : Nat} (h : 0 < n) : (natTxt n).head? ≠ some 48 := by
  induction n using Nat.strongRecOn with
  | ind n ih =>
    by_cases h2 : n < 10
    · rw [nat_lt h2]; simp; omega
    · rw [nat_ge (by omega), List.head?_append]
      have := ih (n / 10) (by omega) (by omega)
      cases hh : (natTxt (n / 10)).head? with
      | none => exact absurd (List.head?_eq_none_iff.mp hh) (nat_ne _)
      | some c => rw [hh] at this; simpa using this
theorem fig_nat (n : Nat) : figB (natTxt n) = true := by
  unfold figB
  rw [nat_dig]
  by_cases h : n = 0
  · subst h; rfl
  · have h1 := nat_head (n := n) (by omega)
    have h2 := nat_ne n
    simp [h1, h2]
theorem fig_parts {s : Txt} (h : figB s = true) : s ≠ [] ∧ s.all isDig = true ∧ (s = [48] ∨ s.head? ≠ some 48) := by
  unfold figB at h
  simp only [Bool.and_eq_true, Bool.or_eq_true, Bool.not_eq_true', beq_iff_eq, List.isEmpty_eq_false_iff, beq_eq_false_iff_ne, ne_eq] at h
  exact ⟨h.1.1, h.1.2, h.2⟩
theorem val_pos {s : Txt} (h : s.all isDig = true) (hn : s ≠ []) (hh : s.head? ≠ some 48) : 0 < valT s := by
  have key : ∀ (s : Txt) (a : Nat), a ≤ s.foldl (fun a c => a * 10 + (c - 48)) a := by
    intro s
    induction s with
    | nil => intro a; exact Nat.le_refl _
    | cons c r ih => intro a; exact Nat.le_trans (by omega) (ih (a * 10 + (c - 48)))
  cases s with
  | nil => exact absurd rfl hn
  | cons c r =>
    have hc : c ≠ 48 := fun z => hh (by rw [z]; rfl)
    have h1 := dig_of (by rw [List.all_cons, Bool.and_eq_true] at h; exact h.1)
    exact Nat.lt_of_lt_of_le (show 0 < 0 * 10 + (c - 48) by omega) (key r _)
theorem nat_val {s : Txt} (h : figB s = true) : natTxt (valT s) = s := by
  obtain ⟨h1, h2, h3⟩ := fig_parts h
  rcases h3 with rfl | h3
  · rfl
  · have key : ∀ (k : Nat) (s : Txt), s.length = k → s ≠ [] → s.all isDig = true → s.head? ≠ some 48 → natTxt (valT s) = s := by
      intro k
      induction k with
      | zero => intro s hl hn _ _; exact absurd (List.eq_nil_of_length_eq_zero hl) hn
      | succ k ih =>
        intro s hl hn ha hh
        rcases List.eq_nil_or_concat s with rfl | ⟨t, c, rfl⟩
        · exact absurd rfl hn
        · rw [List.concat_eq_append] at hl ha hh hn ⊢
          rw [List.all_append, Bool.and_eq_true] at ha
          have hc := dig_of (by simpa using ha.2 : isDig c = true)
          rw [val_snoc]
          by_cases ht : t = []
          · subst ht
            rw [val_nil, nat_lt (by omega)]
            simp; omega
          · have hht : t.head? ≠ some 48 := by
              cases t with
              | nil => exact absurd rfl ht
              | cons x t => simpa using hh
            have hp := val_pos ha.1 ht hht
            rw [nat_ge (by omega), show (valT t * 10 + (c - 48)) / 10 = valT t by omega, show (valT t * 10 + (c - 48)) % 10 = c - 48 by omega,
              ih t (by simpa using hl) ht ha.1 hht, show 48 + (c - 48) = c by omega]
    exact key _ s rfl h1 h2 h3
theorem val_lt {s : Txt} (h : s.all isDig = true) : valT s < 10 ^ s.length := by
  have key : ∀ (k : Nat) (s : Txt), s.length = k → s.all isDig = true → valT s < 10 ^ k := by
    intro k
    induction k with
    | zero => intro s hl _; rw [List.eq_nil_of_length_eq_zero hl]; decide
    | succ k ih =>
      intro s hl ha
      rcases List.eq_nil_or_concat s with rfl | ⟨t, c, rfl⟩
      · cases hl
      · rw [List.concat_eq_append] at hl ha ⊢
        rw [List.all_append, Bool.and_eq_true] at ha
        have hc := dig_of (by simpa using ha.2 : isDig c = true)
        have := ih t (by simpa using hl) ha.1
        rw [val_snoc, Nat.pow_succ]
        omega
  exact key _ s rfl h
theorem val_inj {s t : Txt} (h : figB s = true) (g : figB t = true) (e : valT s = valT t) : s = t := by
  rw [← nat_val h, ← nat_val g, e]
theorem nat_inj {m n : Nat} (h : natTxt m = natTxt n) : m = n := by
  rw [← val_nat m, ← val_nat n, h]
theorem nat_len {n k : Nat} (hk : 0 < k) (h : n < 10 ^ k) : (natTxt n).length ≤ k := by
  unfold natTxt
  rw [List.length_map]
  exact (Nat.length_toDigits_le_iff (by omega) hk).mpr h
theorem no_slash {s : Txt} {c : Nat} (h : s.all isDig = true) (hc : c < 48) : c ∉ s := fun hm => by
  have := dig_of (List.all_eq_true.mp h c hm)
  omega
theorem int_nat (n : Nat) : intTxt (n : Int) = natTxt n := by
  unfold intTxt
  rw [if_neg (by omega)]; rfl
theorem int_neg {n : Nat} (h : 0 < n) : intTxt (-(n : Int)) = 45 :: natTxt n := by
  unfold intTxt
  rw [if_pos (by omega), Int.natAbs_neg]; rfl
theorem int_slash (i : Int) : 47 ∉ intTxt i := by
  unfold intTxt
  split
  · simp only [List.mem_cons, not_or]
    exact ⟨by decide, no_slash (nat_dig _) (by decide)⟩
  · exact no_slash (nat_dig _) (by decide)
/-! ### parts -/
theorem part_none {c : Nat} {s : Txt} (h : partC c s = none) : c ∉ s ∧ splitC c s = [s] := by
  induction s with
  | nil => exact ⟨by simp, rfl⟩
  | cons x r ih =>
    unfold partC at h
    by_cases hx : x = c
    · rw [if_pos hx] at h; cases h
    · rw [if_neg hx] at h
      cases hp : partC c r with
      | some q => rw [hp] at h; cases h
      | none =>
        obtain ⟨h1, h2⟩ := ih hp
        refine ⟨by simp only [List.mem_cons, not_or]; exact ⟨fun z => hx z.symm, h1⟩, ?_⟩
        unfold splitC
        rw [if_neg hx, h2]
theorem part_some {c : Nat} {s a b : Txt} (h : partC c s = some (a, b)) : s = a ++ c :: b ∧ c ∉ a ∧ splitC c s = a :: splitC c b := by
  induction s generalizing a with
  | nil => cases h
  | cons x r ih =>
    unfold partC at h
    by_cases hx : x = c
    · rw [if_pos hx] at h
      cases h
      refine ⟨by rw [hx]; rfl, by simp, ?_⟩
      show (if x = c then [] :: splitC c b else _) = _
      rw [if_pos hx]
    · rw [if_neg hx] at h
      cases hp : partC c r with
      | none => rw [hp] at h; cases h
      | some q =>
        obtain ⟨a', b'⟩ := q
        rw [hp] at h
        cases h
        obtain ⟨h1, h2, h3⟩ := ih hp
        refine ⟨by rw [h1]; rfl, by simp only [List.mem_cons, not_or]; exact ⟨fun z => hx z.symm, h2⟩, ?_⟩
        show (if x = c then [] :: splitC c r else _) = _
        rw [if_neg hx, h3]
theorem part_mem {c : Nat} {s : Txt} (h : c ∉ s) : partC c s = none := by
  induction s with
  | nil => rfl
  | cons x r ih =>
    simp only [List.mem_cons, not_or] at h
    unfold partC
    rw [if_neg fun z => h.1 z.symm, ih h.2]
theorem part_app {c : Nat} {a b : Txt} (h : c ∉ a) : partC c (a ++ c :: b) = some (a, b) := by
  induction a with
  | nil => show (if c = c then some ([], b) else _) = _; rw [if_pos rfl]
  | cons x r ih =>
    simp only [List.mem_cons, not_or] at h
    show (if x = c then _ else match partC c (r ++ c :: b) with
      | some (a, b) => some (x :: a, b)
      | none => none) = _
    rw [if_neg fun z => h.1 z.symm, ih h.2]
/-! ### words of fractions -/
def wd (q : Int × Int) : Txt := if q.2 = 1 then intTxt q.1 else intTxt q.1 ++ (47 :: intTxt q.2)
/-- the own reader, behind the sign -/
def rdB (s : Txt) : Option (Nat × Nat) := match partC 47 s with
  | none => if figB s then some (valT s, 1) else none
  | some (a, b) => if figB a && figB b && decide (2 ≤ valT b) && decide (Nat.gcd (valT a) (valT b) = 1) then some (valT a, valT b) else none
def sgn (w : Txt) : Bool := w.head? == some 45
def bod (w : Txt) : Txt := if sgn w then w.tail else w
def rdW (w : Txt) : Option (Int × Int) := match rdB (bod w) with
  | none => none
  | some (t, b) => if sgn w then (if t = 0 then none else some (-(t : Int), (b : Int))) else some ((t : Int), (b : Int))
theorem bod_sgn {w : Txt} (h : sgn w = true) : w = 45 :: bod w := by
  unfold sgn at h
  unfold bod
  cases w with
  | nil => cases h
  | cons c r =>
    have : c = 45 := by simpa using h
    subst this
    rfl
theorem bod_no {w : Txt} (h : sgn w = false) : bod w = w := by unfold bod; rw [h]; rfl
theorem rdB_spec {s : Txt} {t b : Nat} (h : rdB s = some (t, b)) : 1 ≤ b ∧ Nat.gcd t b = 1 ∧ s = wd ((t : Int), (b : Int)) := by
  unfold rdB at h
  cases hp : partC 47 s with
  | none =>
    rw [hp] at h
    dsimp only at h
    split at h
    · rename_i hf
      cases h
      refine ⟨Nat.le_refl _, Nat.gcd_one_right _, ?_⟩
      unfold wd
      dsimp only
      rw [if_pos (show ((1 : Nat) : Int) = 1 from rfl), int_nat, nat_val hf]
    · cases h
  | some q =>
    obtain ⟨x, y⟩ := q
    rw [hp] at h
    dsimp only at h
    split at h
    · rename_i hf
      simp only [Bool.and_eq_true, decide_eq_true_eq] at hf
      cases h
      obtain ⟨e1, _, _⟩ := part_some hp
      refine ⟨by omega, hf.2, ?_⟩
      unfold wd
      rw [if_neg (by show ¬ ((valT y : Int) = 1); omega), int_nat, int_nat, nat_val hf.1.1.1, nat_val hf.1.1.2]
      exact e1
    · cases h
/-- what is read is written as the same text -/
theorem rdW_wd {w : Txt} {q : Int × Int} (h : rdW w = some q) : wd q = w ∧ 0 < q.2 ∧ Nat.gcd q.1.natAbs q.2.natAbs = 1 := by
  unfold rdW at h
  cases hb : rdB (bod w) with
  | none => rw [hb] at h; cases h
  | some p =>
    obtain ⟨t, b⟩ := p
    rw [hb] at h
    obtain ⟨h1, h2, h3⟩ := rdB_spec hb
    have h : (if sgn w then (if t = 0 then none else some (-(t : Int), (b : Int))) else some ((t : Int), (b : Int))) = some q := h
    cases hs : sgn w with
    | false =>
      rw [hs] at h
      cases h
      rw [bod_no hs] at h3
      refine ⟨h3.symm, by show (0 : Int) < (b : Int); omega, h2⟩
    | true =>
      rw [hs] at h
      by_cases ht : t = 0
      · rw [if_pos rfl, if_pos ht] at h; cases h
      · rw [if_pos rfl, if_neg ht] at h
        cases h
        refine ⟨?_, by show (0 : Int) < (b : Int); omega, by show Nat.gcd (-(t : Int)).natAbs _ = 1; rw [Int.natAbs_neg]; exact h2⟩
        rw [bod_sgn hs, h3]
        unfold wd
        by_cases hb1 : (b : Int) = 1
        · rw [if_pos hb1, if_pos hb1, int_neg (by omega), int_nat]
        · rw [if_neg hb1, if_neg hb1, int_neg (by omega), int_nat]; rfl
/-- the program's reader, behind its looks at the figures: the fraction in lowest terms, with its sign -/
def fnd (w : Txt) (t b : Nat) : Int × Int := (if sgn w then -(((t / Nat.gcd t b : Nat)) : Int) else ((t / Nat.gcd t b : Nat) : Int), ((b / Nat.gcd t b : Nat) : Int))
/-- no slash -/
theorem fnd_one {w : Txt} (hp : partC 47 (bod w) = none) (hf : figB (bod w) = true) : (wd (fnd w (valT (bod w)) 1) = w ∧ rdW w = some (fnd w (valT (bod w)) 1)) ∨ (wd (fnd w (valT (bod w)) 1) ≠ w ∧ rdW w = none) := by
  have hr : rdB (bod w) = some (valT (bod w), 1) := by
    unfold rdB
    rw [hp]
    dsimp only
    rw [if_pos hf]
  have hg : fnd w (valT (bod w)) 1 = (if sgn w then -((valT (bod w) : Nat) : Int) else ((valT (bod w) : Nat) : Int), 1) := by
    unfold fnd
    rw [Nat.gcd_one_right]
    simp
  unfold rdW
  rw [hr, hg]
  dsimp only
  cases hs : sgn w with
  | false =>
    left
    simp only [Bool.false_eq_true, if_false]
    refine ⟨?_, rfl⟩
    unfold wd
    rw [if_pos rfl, int_nat, nat_val hf, bod_no hs]
  | true =>
    simp only [if_true]
    by_cases ht : valT (bod w) = 0
    · right
      rw [if_pos ht, ht]
      refine ⟨fun z => ?_, rfl⟩
      have : w.head? = some 45 := by unfold sgn at hs; simpa using hs
      rw [← z] at this
      revert this
      decide
    · left
      rw [if_neg ht]
      refine ⟨?_, rfl⟩
      unfold wd
      rw [if_pos rfl, int_neg (by omega), nat_val hf]
      exact (bod_sgn hs).symm
theorem fnd_two {w a b : Txt} (hp : partC 47 (bod w) = some (a, b)) (ha : figB a = true) (hb : figB b = true) (h2 : 2 ≤ valT b) : (wd (fnd w (valT a) (valT b)) = w ∧ rdW w = some (fnd w (valT a) (valT b))) ∨ (wd (fnd w (valT a) (valT b)) ≠ w ∧ rdW w = none) := by
  obtain ⟨e1, e2, _⟩ := part_some hp
  have hg0 : 0 < Nat.gcd (valT a) (valT b) := Nat.gcd_pos_of_pos_right _ (by omega)
  by_cases hg : Nat.gcd (valT a) (valT b) = 1
  · left
    have hr : rdB (bod w) = some (valT a, valT b) := by
      unfold rdB
      rw [hp]
      dsimp only
      rw [if_pos (by simp [ha, hb, h2, hg])]
    have hgg : fnd w (valT a) (valT b) = (if sgn w then -((valT a : Nat) : Int) else ((valT a : Nat) : Int), ((valT b : Nat) : Int)) := by
      unfold fnd
      rw [hg]
      simp
    have ht : valT a ≠ 0 := fun z => by
      rw [z, Nat.gcd_zero_left] at hg
      omega
    have hrw : rdW w = some (fnd w (valT a) (valT b)) := by
      unfold rdW
      rw [hr, hgg]
      dsimp only
      cases hs : sgn w with
      | false => simp
      | true => simp [ht]
    exact ⟨(rdW_wd hrw).1, hrw⟩
  · right
    have hr : rdB (bod w) = none := by
      unfold rdB
      rw [hp]
      dsimp only
      rw [if_neg (by simp [hg])]
    refine ⟨fun z => ?_, by unfold rdW; rw [hr]⟩
    have hle : valT b / Nat.gcd (valT a) (valT b) ≤ valT b := Nat.div_le_self _ _
    -- w bears a slash
    obtain ⟨x, hx⟩ : ∃ x, w = x ++ 47 :: b ∧ 47 ∉ x := by
      cases hs : sgn w with
      | false =>
        rw [bod_no hs] at e1
        exact ⟨a, e1, e2⟩
      | true =>
        refine ⟨45 :: a, ?_, by simp only [List.mem_cons, not_or]; exact ⟨by decide, e2⟩⟩
        rw [bod_sgn hs, e1]; rfl
    have hpw := part_app (b := b) hx.2
    rw [← hx.1, ← z] at hpw
    unfold wd fnd at hpw
    dsimp only at hpw
    split at hpw
    · rw [part_mem (int_slash _)] at hpw; cases hpw
    · rw [part_app (int_slash _)] at hpw
      have hb2 := (Prod.mk.inj (Option.some.inj hpw)).2
      rw [int_nat] at hb2
      have := congrArg valT hb2
      rw [val_nat] at this
      have h3 : Nat.gcd (valT a) (valT b) * valT b = valT b := by
        have h4 := Nat.mul_div_cancel' (Nat.gcd_dvd_right (valT a) (valT b))
        rw [this] at h4
        exact h4
      have h5 : Nat.gcd (valT a) (valT b) * valT b = 1 * valT b := by rw [h3, Nat.one_mul]
      exact hg (Nat.eq_of_mul_eq_mul_right (by omega) h5)
end TX

end
section
namespace C85
open PL K85
theorem T_ratio : K85.T[0]? = some ⟨2, 3, b_ratio⟩ := rfl
theorem T_ratio_text : K85.T[1]? = some ⟨1, 1, b_ratio_text⟩ := rfl
theorem T_is_figures : K85.T[2]? = some ⟨2, 3, b_is_figures⟩ := rfl
theorem T_ratio_of_word : K85.T[3]? = some ⟨1, 6, b_ratio_of_word⟩ := rfl
theorem T_read_ratio : K85.T[4]? = some ⟨1, 2, b_read_ratio⟩ := rfl
theorem T_row_text : K85.T[5]? = some ⟨1, 2, b_row_text⟩ := rfl
theorem T_read_row : K85.T[6]? = some ⟨1, 2, b_read_row⟩ := rfl
theorem T_entry_text : K85.T[7]? = some ⟨1, 1, b_entry_text⟩ := rfl
theorem T_log_text : K85.T[8]? = some ⟨1, 2, b_log_text⟩ := rfl
theorem T_lines_of : K85.T[9]? = some ⟨1, 7, b_lines_of⟩ := rfl
theorem T_read_entry : K85.T[10]? = some ⟨2, 2, b_read_entry⟩ := rfl
theorem T_read_log : K85.T[11]? = some ⟨1, 5, b_read_log⟩ := rfl
theorem T_law_mixed : K85.T[12]? = some ⟨2, 4, b_law_mixed⟩ := rfl
theorem T_law_numbers : K85.T[13]? = some ⟨2, 8, b_law_numbers⟩ := rfl
theorem T_law_take : K85.T[14]? = some ⟨2, 2, b_law_take⟩ := rfl
theorem T_law_common : K85.T[15]? = some ⟨2, 2, b_law_common⟩ := rfl
theorem T_law_lowest : K85.T[16]? = some ⟨2, 3, b_law_lowest⟩ := rfl
theorem T_law_same : K85.T[17]? = some ⟨2, 2, b_law_same⟩ := rfl
theorem T_law_refusal : K85.T[18]? = some ⟨1, 1, b_law_refusal⟩ := rfl
theorem T_law_figures : K85.T[19]? = some ⟨2, 3, b_law_figures⟩ := rfl
theorem T_law_number : K85.T[20]? = some ⟨1, 3, b_law_number⟩ := rfl
theorem T_law_word : K85.T[21]? = some ⟨1, 1, b_law_word⟩ := rfl
theorem T_law_read_word : K85.T[22]? = some ⟨2, 7, b_law_read_word⟩ := rfl
theorem T_law_told : K85.T[23]? = some ⟨2, 3, b_law_told⟩ := rfl
theorem T_law_figures_drawn : K85.T[24]? = some ⟨2, 4, b_law_figures_drawn⟩ := rfl
theorem T_law_bent : K85.T[25]? = some ⟨3, 6, b_law_bent⟩ := rfl
theorem T_law_ratio_drawn : K85.T[26]? = some ⟨1, 9, b_law_ratio_drawn⟩ := rfl
theorem T_law_ratio_odd : K85.T[27]? = some ⟨0, 1, b_law_ratio_odd⟩ := rfl
theorem T_law_ratio_right : K85.T[28]? = some ⟨1, 2, b_law_ratio_right⟩ := rfl
theorem T_law_kinds_drawn : K85.T[29]? = some ⟨2, 6, b_law_kinds_drawn⟩ := rfl
theorem T_law_row_due : K85.T[30]? = some ⟨1, 2, b_law_row_due⟩ := rfl
theorem T_law_row_right : K85.T[31]? = some ⟨2, 6, b_law_row_right⟩ := rfl
theorem T_law_entry_due : K85.T[32]? = some ⟨1, 1, b_law_entry_due⟩ := rfl
theorem T_law_log_due : K85.T[33]? = some ⟨1, 6, b_law_log_due⟩ := rfl
theorem T_law_log_words : K85.T[34]? = some ⟨1, 5, b_law_log_words⟩ := rfl
theorem T_law_log_bent : K85.T[35]? = some ⟨2, 6, b_law_log_bent⟩ := rfl
theorem T_law_logs_right : K85.T[36]? = some ⟨1, 7, b_law_logs_right⟩ := rfl
theorem T_law : K85.T[37]? = some ⟨1, 6, b_law⟩ := rfl
theorem T_h_law_refusal : K85.T[38]? = some ⟨1, 1, h_law_refusal⟩ := rfl
end C85

end
section
namespace C85
open PL K85 A
variable {L n : Nat} {Q : MV → List (Option MV) → Prop} {E : PV → Prop}
def rp (q : Int × Int) : PV := .tup false [.int q.1, .int q.2]
/-- what a quotient's parts may be -/
def Sm (x : Int) : Prop := x.natAbs.log2 < 4000
def Sn (x : Int) : Prop := x.natAbs.log2 < 9000
theorem Sm.mul {x y : Int} (h : Sm x) (g : Sm y) : Sn (x * y) := by
  unfold Sm at h g
  unfold Sn
  rw [Int.natAbs_mul]
  have := log2_mul (by omega) (by omega) h g
  omega
theorem Sm.m {x y : Int} (h : Sm x) (g : Sm y) : MulOk x y := by
  unfold Sm at h g; unfold MulOk; omega
theorem Sm.up {x : Int} (h : Sm x) : Sn x := by unfold Sm at h; unfold Sn; omega
theorem gI_sn {t b : Int} (hb : 0 < b) (sb : Sn b) : (gI t b).natAbs.log2 < 9000 := by
  refine log2_le (by omega) ?_ sb
  have h := low_r (t := t) (b := b)
  have h2 := congrArg Int.natAbs h
  rw [Int.natAbs_mul] at h2
  have := low_pos (t := t) hb
  rw [← h2]
  exact Nat.le_mul_of_pos_right _ (by omega)
theorem s_ratio {t b : Int} (hb : 0 < b) (sb : Sn b) (k : ∀ x y, Q (.p (rp (low t b))) [x, y]) : (callF T par L (n + 1) 0 [.p (.int t), .p (.int b)]).W Q E := by
  refine w_def T_ratio rfl ?_
  unfold b_ratio
  (simp only [↓w_var, ↓w_con, ↓w_glo, ↓w_bin, ↓w_neg, ↓w_cmp, ↓w_chn, ↓w_andv, ↓w_orv, ↓w_notv, ↓w_ifeE, ↓w_call, ↓w_blt, ↓w_isa, ↓w_met, ↓w_mut, ↓w_ix, ↓w_ix2, ↓w_slc, ↓w_tup, ↓w_lst, ↓w_dct, ↓w_comp, ↓w_atr, ↓w_req, ↓w_opdv, ↓w_opd', ↓w_ods0, ↓w_ods, ↓w_evs0, ↓w_evs, ↓w_tt, ↓w_tv, ↓w_tn, ↓w_ta, ↓w_to, ↓w_ival, ↓w_imv, ↓w_rng1, ↓w_rng2, ↓w_nil, ↓w_cons, ↓w_set, ↓w_unp, ↓w_par, ↓w_six, ↓w_six2, ↓w_exp, ↓w_ret, ↓w_rtv, ↓w_ret0, ↓w_ife, ↓w_fo, ↓w_pas, ↓w_cnt, ↓w_brk, ↓w_rai, ↓w_try, ↓w_forS, ↓w_compS, ↓w_dead, own, ilist, getK_some, brK_t, brK_f, rdK_p, rdK_l, rdK_d, intK_int, blK_bl, lstK_l, mvK_p, atrK_e, clnK_rt, clnK_nx, forK_nx, forK_ct, forK_bk, forK_rt, nxK_nx, nxK_rt, nxK_bk, nxK_ct, rtvK_p, rtvK_l, rtvK_d, defK_rt, defK_nx, at_0, at_s, putS_eq, Opd.get, gets, lend, unlend, frz_p, frz_own, frz_l, frz_d, frzL, frzL_own, unpL_own, pvs, optI, nonE, noBk, giveBack, restE, wipeE, noOwn, lockI, lockOf, putT, putSs, List.set_cons_zero, List.set_cons_succ, List.take_succ_cons, List.take_zero, List.length_cons, List.length_nil, List.length_map, List.contains_cons, List.contains_nil, List.all_nil, List.all_cons, List.map_cons, List.map_nil, List.replicate_succ, List.replicate_zero, List.cons_append, List.nil_append, Bool.or_false, Bool.false_or, Bool.not_true, Bool.not_false, Bool.and_true, Bool.true_and, Bool.or_true, Bool.true_or, Bool.false_and, Bool.and_false, decide_true, decide_false, if_true, if_false, true_and, and_true, Nat.reduceBEq, Nat.reduceAdd, Nat.reduceLT, Nat.reduceLeDiff, Nat.reduceSub, Bool.false_eq_true, reduceIte, reduceCtorEq, v_addi, g_adds, g_addt, g_addl, g_addf, g_addg, v_sub, g_mul, g_slt, g_slf, g_slo, g_fdiv, g_mod, g_pow, isData_int, isData_non, isData_bl, v_eqi, v_nei, v_lt, v_le, v_gt, v_ge, v_is, v_isl, v_isn, v_isnl, nonP_non, nonP_int, nonP_bl, nonP_str, nonP_tup, nonP_fls, v_lent, v_lent', v_lenf', v_lenl', v_lend', g_lens, iv_app, v_lenf, v_lenl, v_lend, v_lent, v_lent', v_lenf', v_lenl', v_lend', g_lens, iv_app, v_lenf, v_lenl, v_lend, v_abs, v_min2, v_max2, v_gcd, v_inti, v_tupt, v_tupf, v_tupl, v_truB, v_truI, v_truN, v_truL, v_ix0, v_ix1, v_ix2, v_ix3, ixFrz_p, ixFrz_d, ixFrz_t, ixFrz_o, g_app, v_pop, v_rev, seqP_t, seqP_f, seqP_s, reqK_p, g_split, g_part, g_join, g_str1, g_int1, g_smul, v_ins, v_notins, g_slst, isData_str, g_eqs, g_nes, v_all, g_zfill])
  refine brK_dec (fun h => absurd h (by omega)) (fun _ => ?_)
  refine brK_dec (fun h => absurd h (by omega)) (fun _ => ?_)
  have h1 := gI_pos (t := t) hb
  have h2 := gI_sn (t := t) hb sb
  exact ⟨⟨h1, h2⟩, ⟨h1, h2⟩, k _ _⟩

theorem sm_of {x : Int} (h : -(2 ^ 60) ≤ x) (h2 : x ≤ 2 ^ 60) : Sm x := by
  unfold Sm
  refine Nat.lt_of_lt_of_le ((log2_iff (k := 61) (by omega)).mpr ?_) (by omega)
  omega
theorem Sm.le {x y : Int} (h : Sm x) (g : y.natAbs ≤ x.natAbs) : Sm y := log2_le (by omega) g h

theorem map_get {α β : Type} {f : α → β} {l : List α} {i : Nat} {v : α} (h : l[i]? = some v) : (l.map f)[i]? = some (f v) := by rw [List.getElem?_map, h]; rfl

theorem appOk {n : Nat} (h : n ≤ 100000) : AppOk n := by unfold AppOk LIM; omega

/-- the fuel of the whiles is enough -/
def FuelOk (L : Nat) : Prop := ∀ x : Int, Sn x → x.natAbs < L
theorem abs_nat (a : Int) : (if a < 0 then -a else a) = ((a.natAbs : Nat) : Int) := by split <;> omega
theorem s_common {t b : Int} (hL : FuelOk L) (sb : Sn b) (k : ∀ x y, Q (.p (.int (gI t b))) [x, y]) : (callF T par L (n + 1) 15 [.p (.int t), .p (.int b)]).W Q E := by
  (refine PL.w_def T_law_common rfl ?_; unfold b_law_common; simp only [List.map_cons, List.map_nil, List.replicate_succ, List.replicate_zero, Nat.sub_self, Nat.reduceSub, List.append_nil, List.cons_append, List.nil_append, PL.lockOf, PL.own, PL.ilist, Nat.reduceAdd])
  (refine PL.w_seq fun P kn => ?_; try nofun)
  (refine kn _ ?_)
  (refine PL.w_seq fun P kn => ?_; try nofun)
  (refine kn _ ?_)
  rw [abs_nat, abs_nat]
  refine w_seq fun P kn => ?_
  rw [w_wh]
  refine W_while (fun m ε => ∃ x y : Nat, ε = [some (.p (.int x)), some (.p (.int y))] ∧ m = y ∧ Nat.gcd x y = Nat.gcd t.natAbs b.natAbs) (fun m ε hI => ?_) _ _ _ (hL b sb) ⟨_, _, rfl, rfl, rfl⟩
  obtain ⟨x, y, rfl, hm, hg⟩ := hI
  nofun
  refine ⟨fun h => ?_, fun h => ?_⟩
  · have h0 : y = 0 := by simpa using h
    subst h0
    (refine kn _ ?_)
    (refine PL.w_seq fun P kn => ?_; try nofun)
    have : gI t b = (x : Int) := by unfold gI; rw [← hg, Nat.gcd_zero_right]
    rw [← this]
    exact k _ _
  · have h0 : 0 < y := by simpa using h
    (refine PL.w_seq fun Pi km => ?_; try nofun)
    refine ⟨by omega, ?_⟩
    (refine km _ ?_)
    nofun
    refine ⟨x % y, by rw [hm]; exact Nat.mod_lt _ h0, y, x % y, ?_, rfl, ?_⟩
    · rw [Int.natCast_emod]
    · rw [← hg, Nat.gcd_comm x y, Nat.gcd_rec y x, Nat.gcd_comm]
theorem s_lowest {t b : Int} (hL : FuelOk L) (hb : 0 < b) (sb : Sn b) (k : ∀ x y, Q (.p (rp (low t b))) [x, y]) : (callF T par L (n + 2) 16 [.p (.int t), .p (.int b)]).W Q E := by
  (refine PL.w_def T_law_lowest rfl ?_; unfold b_law_lowest; simp only [List.map_cons, List.map_nil, List.replicate_succ, List.replicate_zero, Nat.sub_self, Nat.reduceSub, List.append_nil, List.cons_append, List.nil_append, PL.lockOf, PL.own, PL.ilist, Nat.reduceAdd])
  (refine PL.w_seq fun P kn => ?_; try nofun)
  refine s_common hL sb fun x y => ?_
  nofun
  (refine kn _ ?_)
  (refine PL.w_seq fun P kn => ?_; try nofun)
  refine brK_dec (fun h => absurd h (by omega)) (fun _ => ?_)
  (refine kn _ ?_)
  (refine PL.w_seq fun P kn => ?_; try nofun)
  have h1 := gI_pos (t := t) hb
  have h2 := gI_sn (t := t) hb sb
  exact ⟨⟨h1, h2⟩, ⟨h1, h2⟩, k _ _⟩

theorem s_take {p : List Int} {b : Int} (hb : 0 < b) (k : ∀ (r : Nat) (p' : List Int) (y : Option MV), (r : Int) < b → Q (.p (.int (r : Int))) [some (ilist p'), y]) : (callF T par L (n + 1) 14 [ilist p, .p (.int b)]).W Q E := by
  (refine PL.w_def T_law_take rfl ?_; unfold b_law_take; simp only [List.map_cons, List.map_nil, List.replicate_succ, List.replicate_zero, Nat.sub_self, Nat.reduceSub, List.append_nil, List.cons_append, List.nil_append, PL.lockOf, PL.own, PL.ilist, Nat.reduceAdd])
  rcases List.eq_nil_or_concat p with rfl | ⟨q, x, rfl⟩
  · (refine PL.w_seq fun P kn => ?_; try nofun)
    refine brK_dec (fun _ => ?_) (fun z => absurd rfl z)
    (refine PL.w_seq fun Pi km => ?_; try nofun)
    exact k 0 [] _ hb
  · rw [List.concat_eq_append, List.map_append, List.map_cons, List.map_nil]
    (refine PL.w_seq fun P kn => ?_; try nofun)
    refine brK_dec (fun z => absurd z (by simp; omega)) (fun _ => ?_)
    (refine kn _ ?_)
    (refine PL.w_seq fun P kn => ?_; try nofun)
    refine ⟨hb, ?_⟩
    have h1 := Int.emod_nonneg x (Int.ne_of_gt hb)
    have h2 := Int.emod_lt_of_pos x hb
    have := k (x % b).toNat q (some (.p (.int b))) (by omega)
    rw [Int.toNat_of_nonneg h1] at this
    exact this

theorem s_mixed {cell : Int} {place : Nat} (hc : cell.natAbs.log2 < 900000) (hp : place ≤ 1000) (k : ∀ (r : Int) x y, Q (.p (.int r)) [x, y]) : (callF T par L (n + 1) 12 [.p (.int cell), .p (.int (place : Nat))]).W Q E := by
  have sm : ∀ {x : Int}, -(2 ^ 60) ≤ x → x ≤ 2 ^ 60 → Sm x := fun h1 h2 => sm_of h1 h2
  (refine PL.w_def T_law_mixed rfl ?_; unfold b_law_mixed; simp only [List.map_cons, List.map_nil, List.replicate_succ, List.replicate_zero, Nat.sub_self, Nat.reduceSub, List.append_nil, List.cons_append, List.nil_append, PL.lockOf, PL.own, PL.ilist, Nat.reduceAdd])
  (refine PL.w_seq fun P kn => ?_; try nofun)
  have hcm : MulOk cell 48271 := by
    have : Sm 48271 := sm (by omega) (by omega)
    unfold Sm at this
    unfold MulOk
    omega
  refine ⟨hcm, (sm (by omega) (by omega)).m (sm (by omega) (by omega)), by omega, ?_⟩
  (refine kn _ ?_)
  (refine PL.w_seq fun P kn => ?_; try nofun)
  have h1 := Int.emod_nonneg (cell * 48271 + (place : Int) * 69621 + 12345) (show (2147483647 : Int) ≠ 0 by omega)
  have h2 := Int.emod_lt_of_pos (cell * 48271 + (place : Int) * 69621 + 12345) (show (0 : Int) < 2147483647 by omega)
  refine ⟨(sm (by omega) (by omega)).m (sm (by omega) (by omega)), (sm (by omega) (by omega)).m (sm (by omega) (by omega)), by omega, ?_⟩
  (refine kn _ ?_)
  (refine PL.w_seq fun P kn => ?_; try nofun)
  exact ⟨⟨by omega, by show Nat.log2 11 < 9000; decide⟩, by omega, k _ _ _⟩

theorem g_sls {l : List Int} {lo hi : Option Int} : slF (.p (.sls l)) lo hi = some (ilist (cutL l lo hi)) := by
  show some (MV.l ((cutL l lo hi).map fun i => .p (.int i))) = _
  rw [ilist, own, List.map_map]
  rfl
theorem six_own {l : List PV} {k : Nat} {v : PV} (h : k < l.length) : sixF (some (own l)) (.p (.int (k : Nat))) (.p v) = some (own (l.set k v)) := by
  show (match ixN (l.map MV.p).length (k : Int) with
      | some k => some (MV.l ((l.map MV.p).set k (.p v)))
      | none => none) = _
  rw [List.length_map, ixN_lit h]
  show some (MV.l ((l.map MV.p).set k (.p v))) = _
  rw [own, List.map_set]
def LeftOk (cells : List Int) (left : List Nat) (m : Nat) : Prop := left.length = cells.length ∧ ∀ (s : Nat) (c : Int) (l : Nat), cells[s]? = some c → left[s]? = some l → ∃ j, j ≤ m + 3 ∧ c.natAbs < (l + 1) * 10 ^ (6 * j)
theorem LeftOk.up {cells : List Int} {left : List Nat} {m : Nat} (h : LeftOk cells left m) : LeftOk cells left (m + 1) := ⟨h.1, fun s c l h1 h2 => by
  obtain ⟨j, h3, h4⟩ := h.2 s c l h1 h2
  exact ⟨j, by omega, h4⟩⟩
theorem LeftOk.div {cells : List Int} {left : List Nat} {m s l : Nat} (h : LeftOk cells left m) (hl : left[s]? = some l) : LeftOk cells (left.set s (l / 1000000)) (m + 1) := by
  refine ⟨by rw [List.length_set]; exact h.1, fun t c l' h1 h2 => ?_⟩
  by_cases e : t = s
  · subst e
    have hlt := (List.getElem?_eq_some_iff.mp hl).1
    rw [List.getElem?_set_self hlt] at h2
    cases h2
    obtain ⟨j, h3, h4⟩ := h.2 t c l h1 hl
    refine ⟨j + 1, by omega, Nat.lt_of_lt_of_le h4 ?_⟩
    rw [show 6 * (j + 1) = 6 * j + 6 by omega, Nat.pow_add, show (10 : Nat) ^ 6 = 1000000 by decide, Nat.mul_comm (10 ^ (6 * j)), ← Nat.mul_assoc]
    exact Nat.mul_le_mul_right _ (by omega)
  · rw [List.getElem?_set_ne (fun z => e z.symm)] at h2
    obtain ⟨j, h3, h4⟩ := h.2 t c l' h1 h2
    exact ⟨j, by omega, h4⟩
theorem LeftOk.zero {cells : List Int} {left : List Nat} {m s : Nat} {c : Int} (h : LeftOk cells left m) (hm : m ≤ 1000) (hc : cells[s]? = some c) (hl : left[s]? = some 0) : c.natAbs.log2 < 900000 := by
  obtain ⟨j, h3, h4⟩ := h.2 s c 0 hc hl
  have : c.natAbs.log2 < 4 * (6 * j) + 1 := by
    rw [log2_iff (by omega), Nat.pow_succ, Nat.pow_mul]
    have : 10 ^ (6 * j) ≤ (2 ^ 4) ^ (6 * j) := Nat.pow_le_pow_left (by decide) _
    have : 0 < (2 ^ 4) ^ (6 * j) := Nat.pow_pos (by decide)
    omega
  omega
theorem s_numbers {ns : List Int} {m : Nat} (hn : ns.length ≤ 63) (hm : m ≤ 1000) (k : ∀ (p : List Int) x y, Q (ilist p) [x, y]) : (callF T par L (n + 2) 13 [.p (.sls ns), .p (.int (m : Nat))]).W Q E := by
  (refine PL.w_def T_law_numbers rfl ?_; unfold b_law_numbers; simp only [List.map_cons, List.map_nil, List.replicate_succ, List.replicate_zero, Nat.sub_self, Nat.reduceSub, List.append_nil, List.cons_append, List.nil_append, PL.lockOf, PL.own, PL.ilist, Nat.reduceAdd])
  (refine PL.w_seq fun P kn => ?_; try nofun)
  rw [g_sls]
  generalize hcells : cutL ns none (some 63) = cells
  have hcl : cells.length ≤ 63 := by
    rw [← hcells, show (63 : Int) = ((63 : Nat) : Int) from rfl, cut_take, List.length_take]
    omega
  nofun
  (refine kn _ ?_)
  (refine PL.w_seq fun P kn => ?_; try nofun)
  (refine kn _ ?_)
  (refine PL.w_seq fun P kn => ?_; try nofun)
  rw [mvK_l (unpL_own _)]
  nofun
  refine W_forM PV.int cells (fun ys ε => ∃ (left : List Nat) (q : Option MV), LeftOk ys left 0 ∧ ε = [some (.p (.sls ns)), some (.p (.int (m : Nat))), none, some (own (left.map iv)), q, none, none, none]) ⟨[], none, ⟨rfl, fun s c l h => (nomatch h)⟩, rfl⟩ (fun ys c zs ε he hI => ?_) (fun ε hI => ?_)
  · obtain ⟨left, q, hl, rfl⟩ := hI
    have hyl : left.length ≤ 63 := by rw [hl.1]; rw [he, List.length_append] at hcl; omega
    nofun
    (refine PL.w_seq fun Pi km => ?_; try nofun)
    rw [abs_nat]
    have push : ∀ l : Nat, c.natAbs < (l + 1) * 10 ^ (6 * (if l = 0 then 3 else 0)) → LeftOk (ys ++ [c]) (left ++ [l]) 0 := fun l hlt => by
      refine ⟨by simp [hl.1], fun s c' l' h1 h2 => ?_⟩
      by_cases hs : s < ys.length
      · rw [List.getElem?_append_left hs] at h1
        rw [List.getElem?_append_left (by rw [hl.1]; exact hs)] at h2
        exact hl.2 s c' l' h1 h2
      · rw [List.getElem?_append_right (by omega)] at h1
        rw [List.getElem?_append_right (by rw [hl.1]; omega), hl.1] at h2
        cases hz : s - ys.length with
        | zero =>
          rw [hz] at h1 h2
          cases h1; cases h2
          exact ⟨if l = 0 then 3 else 0, by split <;> omega, hlt⟩
        | succ z => rw [hz] at h1; cases h1
    refine brK_dec (fun hbig => ?_) (fun hsm => ?_)
    · (refine PL.w_seq fun Pj kj => ?_; try nofun)
      rw [abs_nat]
      refine ⟨appOk (by omega), ?_⟩
      (refine kj _ ?_)
      nofun
      (refine km _ ?_)
      nofun
      refine ⟨left ++ [c.natAbs], some (.p (.int c)), push _ ?_, by simp [iv_app]⟩
      have : c.natAbs ≠ 0 := by omega
      rw [if_neg this]
      omega
    · (refine PL.w_seq fun Pj kj => ?_; try nofun)
      refine ⟨appOk (by omega), ?_⟩
      (refine kj _ ?_)
      nofun
      (refine km _ ?_)
      nofun
      refine ⟨left ++ [0], some (.p (.int c)), push _ ?_, by simp [iv_app]⟩
      rw [if_pos rfl]
      omega
  · obtain ⟨left, q, hl, rfl⟩ := hI
    nofun
    (refine kn _ ?_)
    (refine PL.w_seq fun P kn => ?_; try nofun)
    (refine kn _ ?_)
    (refine PL.w_seq fun P kn => ?_; try nofun)
    rw [Int.toNat_natCast]
    refine ⟨small_nat (by omega), ?_⟩
    refine W_rng (fun i ε => ∃ (left : List Nat) (found : List Int) (q : Option MV × Option MV × Option MV), LeftOk cells left i ∧ found.length = i ∧ ε = [some (.p (.sls ns)), some (.p (.int (m : Nat))), some (ilist cells), some (own (left.map iv)), q.1, some (ilist found), q.2.1, q.2.2]) ⟨left, [], (q, none, none), hl, rfl, rfl⟩ (fun i ε hi hI => ?_) (fun ε hI => ?_)
    · obtain ⟨left, found, ⟨q1, q2, q3⟩, hl, hf, rfl⟩ := hI
      nofun
      (refine PL.w_seq fun Pi km => ?_; try nofun)
      refine brK_dec (fun h0 => ?_) (fun h0 => ?_)
      · (refine PL.w_seq fun Pj kj => ?_; try nofun)
        refine s_mixed (cell := 0) (by show Nat.log2 0 < 900000; decide) (by omega) fun r _ _ => ?_
        nofun
        refine ⟨appOk (by omega), ?_⟩
        (refine kj _ ?_)
        nofun
        (refine km _ ?_)
        nofun
        exact ⟨left, found ++ [r], (q1, some (.p (.int (i : Nat))), q3), hl.up, by simp [hf], by simp⟩
      · have hpos : 0 < cells.length := by omega
        have hsp : i % cells.length < cells.length := Nat.mod_lt _ hpos
        obtain ⟨cv, g1⟩ : ∃ cv, cells[i % cells.length]? = some cv := ⟨_, List.getElem?_eq_getElem hsp⟩
        obtain ⟨lv, g2⟩ : ∃ lv, left[i % cells.length]? = some lv := ⟨_, List.getElem?_eq_getElem (show i % cells.length < left.length by rw [hl.1]; exact hsp)⟩
        (refine PL.w_seq fun Pj kj => ?_; try nofun)
        refine ⟨by omega, ?_⟩
        (refine kj _ ?_)
        rw [← Int.natCast_emod]
        refine w_seq fun Pk kk => ?_
        nofun
        rw [show ixF (own (left.map iv)) (MV.p (.int ((i % cells.length : Nat) : Int))) = some (MV.p (iv lv)) from v_ixo (map_get g2)]
        nofun
        refine brK_dec (fun hgt => ?_) (fun hle => ?_)
        · refine w_seq fun Pl kl => ?_
          nofun
          rw [show ixF (own (left.map iv)) (MV.p (.int ((i % cells.length : Nat) : Int))) = some (MV.p (iv lv)) from v_ixo (map_get g2)]
          nofun
          refine ⟨by omega, appOk (by omega), ?_⟩
          refine kl _ ?_
          refine w_seq fun Pm k3 => ?_
          nofun
          rw [show ixF (own (left.map iv)) (MV.p (.int ((i % cells.length : Nat) : Int))) = some (MV.p (iv lv)) from v_ixo (map_get g2)]
          nofun
          refine ⟨⟨by omega, by show Nat.log2 1000000 < 9000; decide⟩, ?_⟩
          rw [show ((lv : Nat) : Int) / 1000000 = ((lv / 1000000 : Nat) : Int) from (Int.natCast_ediv _ 1000000).symm]
          rw [show sixF (some (MV.l (List.map MV.p (left.map iv)))) (MV.p (.int ((i % cells.length : Nat) : Int))) (MV.p (.int ((lv / 1000000 : Nat) : Int))) = some (own ((left.map iv).set (i % cells.length) (iv (lv / 1000000)))) from six_own (by rw [List.length_map, hl.1]; exact hsp)]
          nofun
          refine k3 _ ?_
          nofun
          refine kk _ ?_
          nofun
          (refine km _ ?_)
          nofun
          refine ⟨left.set (i % cells.length) (lv / 1000000), found ++ [((lv : Nat) : Int) % 1000000], (q1, some (.p (.int (i : Nat))), some (.p (.int ((i % cells.length : Nat) : Int)))), hl.div g2, by simp [hf], ?_⟩
          rw [List.map_set]
          simp [iv_app]
        · have hz : lv = 0 := by omega
          refine w_seq fun Pl kl => ?_
          nofun
          rw [show ixF (MV.l (List.map MV.p (List.map PV.int cells))) (MV.p (.int ((i % cells.length : Nat) : Int))) = some (MV.p (.int cv)) from v_ixo (map_get g1)]
          nofun
          refine s_mixed (hl.zero (by omega) g1 (by rw [g2, hz])) (by omega) fun r _ _ => ?_
          nofun
          refine ⟨appOk (by omega), ?_⟩
          refine kl _ ?_
          nofun
          refine kk _ ?_
          nofun
          (refine km _ ?_)
          nofun
          exact ⟨left, found ++ [r], (q1, some (.p (.int (i : Nat))), some (.p (.int ((i % cells.length : Nat) : Int)))), hl.up, by simp [hf], by simp⟩
    · obtain ⟨left, found, ⟨q1, q2, q3⟩, hl, hf, rfl⟩ := hI
      nofun
      (refine kn _ ?_)
      (refine PL.w_seq fun P kn => ?_; try nofun)
      (refine kn _ ?_)
      (refine PL.w_seq fun P kn => ?_; try nofun)
      have := k found.reverse (some (.p (.sls ns))) (some (.p (.int (m : Nat))))
      simp only [ilist, own, List.map_reverse] at this
      exact this

end C85

end
section
namespace C85
open PL K85 A TX
variable {L n : Nat} {Q : MV → List (Option MV) → Prop} {E : PV → Prop}
def figs : Txt := [48, 49, 50, 51, 52, 53, 54, 55, 56, 57]
theorem figs_has (c : Nat) : figs.contains c = isDig c := by
  unfold isDig figs
  rw [Bool.eq_iff_iff]
  simp
  omega
theorem figs_or (c : Nat) : (c == 48 || (c == 49 || (c == 50 || (c == 51 || (c == 52 || (c == 53 || (c == 54 || (c == 55 || (c == 56 || c == 57))))))))) = isDig c := by
  unfold isDig
  rw [Bool.eq_iff_iff]
  simp
  omega
theorem lenOk {n : Nat} (h : n ≤ 1000000) : LenOk n := by unfold LenOk LIM; omega
def chs (s : Txt) : List PV := s.map fun c => .str [c]
def figM (s : Txt) (m : Nat) : Bool := decide (s.length ≤ m) && figB s
theorem figM_long {s : Txt} {m : Nat} (h : m < s.length) : figM s m = false := by
  unfold figM
  rw [decide_eq_false (by omega)]; rfl
theorem figM_nil {m : Nat} : figM [] m = false := by simp [figM, figB]
theorem figM_dig {s : Txt} {m : Nat} (h : s.all isDig = false) : figM s m = false := by simp [figM, figB, h]
theorem figM_at {s : Txt} {m c : Nat} (h1 : s.length ≤ m) (h2 : s.all isDig = true) (h0 : s[0]? = some c) : figM s m = (s == [48] || !(c == 48)) := by
  cases s with
  | nil => cases h0
  | cons x r =>
    cases h0
    simp [figM, figB, h1, h2]
    exact fun _ => h1
theorem map_all (s : Txt) (f : Nat → Bool) : (s.map f).all id = s.all f := by
  rw [List.all_map]; rfl
theorem fm_bl (s : Txt) (f : Nat → Bool) : s.filterMap (fun c => some (MV.p (PV.bl (f c)))) = ((s.map f).map PV.bl).map MV.p := by
  rw [List.map_map, List.map_map]
  induction s with
  | nil => rfl
  | cons x r ih => rw [List.filterMap_cons, ih]; rfl
theorem sq_beq (s t : Txt) : decide (s = t) = (s == t) := by
  rw [Bool.eq_iff_iff]; simp
theorem s_is_figures {s : Txt} {m : Nat} (hl : s.length ≤ 1000) (ha : asc s = true) (k : ∀ a b, Q (.p (.bl (figM s m))) [a, b]) : (callF T par L (n + 1) 2 [.p (.str s), .p (.int (m : Nat))]).W Q E := by
  (refine PL.w_def T_is_figures rfl ?_; unfold b_is_figures; simp only [List.map_cons, List.map_nil, List.replicate_succ, List.replicate_zero, Nat.sub_self, Nat.reduceSub, List.append_nil, List.cons_append, List.nil_append, PL.lockOf, PL.own, PL.ilist, Nat.reduceAdd])
  (refine PL.w_seq fun P kn => ?_; try nofun)
  have hno : figM s m = false → Q (.p (.bl false)) [some (.p (.str s)), some (.p (.int m))] := fun h => by
    have := k (some (.p (.str s))) (some (.p (.int m)))
    rw [h] at this; exact this
  refine ⟨lenOk (by omega), brK_dec (fun h1 => brK_decN (fun h2 => ?_) (fun h2 => ?_)) (fun h1 => ?_)⟩
  · (refine PL.w_seq fun Pi km => ?_; try nofun)
    exact hno (figM_long (by omega))
  · (refine kn _ ?_)
    (refine PL.w_seq fun P kn => ?_; try nofun)
    refine ⟨by unfold LIM; omega, ?_⟩
    refine W_compM (fun c => PV.str [c]) s (fun c => some (.p (.bl (isDig c)))) (fun c _ => ?_) ?_
    · nofun
      rw [figs_or]
    · rw [fm_bl]
      nofun
      rw [map_all]
      cases hd : s.all isDig with
      | false =>
        nofun
        (refine PL.w_seq fun Pi km => ?_; try nofun)
        exact hno (figM_dig hd)
      | true =>
        nofun
        (refine kn _ ?_)
        (refine PL.w_seq fun P kn => ?_; try nofun)
        obtain ⟨c, hc⟩ : ∃ c, s[0]? = some c := ⟨_, List.getElem?_eq_getElem (by omega)⟩
        refine ⟨⟨ha, rfl⟩, ?_⟩
        have hk := k (some (.p (.str s))) (some (.p (.int m)))
        rw [figM_at (by omega) hd hc] at hk
        rw [show ixF (.p (.str s)) (.p (.int 0)) = _ from v_ixs hc (by unfold LIM; omega)]
        nofun
        refine brK_dec (fun h3 => ?_) (fun h3 => ?_)
        · rw [show (s == [48]) = true by simpa using h3] at hk
          exact hk
        · rw [show (s == [48]) = false by simpa using h3, Bool.false_or] at hk
          refine ⟨⟨?_, rfl⟩, ?_⟩
          · have hm : c ∈ s := List.mem_of_getElem? hc
            have := List.all_eq_true.mp ha c hm
            unfold asc
            rw [List.all_cons, this]; rfl
          · rw [show decide ([c] = [48]) = (c == 48) by rw [Bool.eq_iff_iff]; simp]
            exact hk
  · (refine PL.w_seq fun Pi km => ?_; try nofun)
    have : s = [] := List.eq_nil_of_length_eq_zero (by omega)
    subst this
    exact hno figM_nil
theorem s_law_figures {s : Txt} {m : Nat} (hl : s.length ≤ 1000) (ha : asc s = true) (k : ∀ a b, Q (.p (.bl (figM s m))) [a, b]) : (callF T par L (n + 1) 19 [.p (.str s), .p (.int (m : Nat))]).W Q E := by
  (refine PL.w_def T_law_figures rfl ?_; unfold b_law_figures; simp only [List.map_cons, List.map_nil, List.replicate_succ, List.replicate_zero, Nat.sub_self, Nat.reduceSub, List.append_nil, List.cons_append, List.nil_append, PL.lockOf, PL.own, PL.ilist, Nat.reduceAdd])
  (refine PL.w_seq fun P kn => ?_; try nofun)
  have hno : figM s m = false → Q (.p (.bl false)) [some (.p (.str s)), some (.p (.int m))] := fun h => by
    have := k (some (.p (.str s))) (some (.p (.int m)))
    rw [h] at this; exact this
  refine ⟨lenOk (by omega), brK_dec (fun h1 => ?_) (fun h1 => ⟨lenOk (by omega), brK_dec (fun h2 => ?_) (fun h2 => ?_)⟩)⟩
  · (refine PL.w_seq fun Pi km => ?_; try nofun)
    have : s = [] := List.eq_nil_of_length_eq_zero (by omega)
    subst this
    exact hno figM_nil
  · (refine PL.w_seq fun Pi km => ?_; try nofun)
    exact hno (figM_long (by omega))
  · (refine kn _ ?_)
    (refine PL.w_seq fun P kn => ?_; try nofun)
    obtain ⟨c, hc⟩ : ∃ c, s[0]? = some c := ⟨_, List.getElem?_eq_getElem (by omega)⟩
    have fin : (1 < s.length → c ≠ 48) → (evSs ⟨callF T par L n, L, [], par⟩ (.cons (.ret (.blt .all1 (.cons (.comp [2] (.nm 2) (.mv 0) .tt (.cmp .isIn (.var 2) (.con (.str [48, 49, 50, 51, 52, 53, 54, 55, 56, 57])))) .nil))) .nil) [some (.p (.str s)), some (.p (.int m)), none]).W (defK 2 Q) fun e _ => E e := fun h3 => by
      (refine PL.w_seq fun P kn => ?_; try nofun)
      refine ⟨by unfold LIM; omega, ?_⟩
      refine W_compM (fun c => PV.str [c]) s (fun c => some (.p (.bl (isDig c)))) (fun c _ => ?_) ?_
      · nofun
        rw [figs_or]
      · rw [fm_bl]
        nofun
        rw [map_all]
        cases hd : s.all isDig with
        | false => exact hno (figM_dig hd)
        | true =>
          have hk := k (some (.p (.str s))) (some (.p (.int m)))
          rw [figM_at (by omega) hd hc] at hk
          have e : (s == [48] || !(c == 48)) = true := by
            by_cases hs : 1 < s.length
            · have := h3 hs
              simp [this]
            · cases s with
              | nil => cases hc
              | cons x r =>
                cases hc
                have : r = [] := List.eq_nil_of_length_eq_zero (by simpa using hs)
                subst this
                by_cases z : c = 48 <;> simp [z]
          rw [e] at hk
          exact hk
    refine ⟨lenOk (by omega), brK_dec (fun h3 => ?_) (fun h3 => ?_)⟩
    · rw [show ixF (.p (.str s)) (.p (.int 0)) = _ from v_ixs hc (by unfold LIM; omega)]
      nofun
      refine ⟨⟨?_, rfl⟩, ?_⟩
      · have hm : c ∈ s := List.mem_of_getElem? hc
        have := List.all_eq_true.mp ha c hm
        unfold asc
        rw [List.all_cons, this]; rfl
      · refine brK_dec (fun h4 => ?_) (fun h4 => ?_)
        · (refine PL.w_seq fun Pi km => ?_; try nofun)
          have h4 : c = 48 := by simpa using h4
          refine hno ?_
          cases hd : s.all isDig with
          | false => exact figM_dig hd
          | true =>
            rw [figM_at (by omega) hd hc, h4]
            have : s ≠ [48] := fun z => by rw [z] at h3; simp at h3
            simp [this]
        · (refine kn _ ?_)
          exact fin fun _ z => h4 (by rw [z])
    · (refine kn _ ?_)
      exact fin fun z => absurd (by omega) h3
theorem figs_idx {c : Nat} (h : isDig c = true) : idxC c figs = some (c - 48) := by
  have := dig_of h
  have : c = 48 ∨ c = 49 ∨ c = 50 ∨ c = 51 ∨ c = 52 ∨ c = 53 ∨ c = 54 ∨ c = 55 ∨ c = 56 ∨ c = 57 := by omega
  rcases this with rfl | rfl | rfl | rfl | rfl | rfl | rfl | rfl | rfl | rfl <;> rfl
theorem val_log {s : Txt} (h : s.all isDig = true) (hl : s.length ≤ 400) : (valT s).log2 < 1500 := by
  rw [log2_iff (by omega)]
  have h1 := val_lt h
  have h2 : 10 ^ s.length ≤ 10 ^ 400 := Nat.pow_le_pow_right (by omega) hl
  have h3 : (10 : Nat) ^ 400 < 2 ^ 1500 := by decide +kernel
  omega
theorem s_law_number {s : Txt} (hl : s.length ≤ 400) (hd : s.all isDig = true) (k : ∀ a, Q (.p (.int (valT s : Nat))) [a]) : (callF T par L (n + 1) 20 [.p (.str s)]).W Q E := by
  (refine PL.w_def T_law_number rfl ?_; unfold b_law_number; simp only [List.map_cons, List.map_nil, List.replicate_succ, List.replicate_zero, Nat.sub_self, Nat.reduceSub, List.append_nil, List.cons_append, List.nil_append, PL.lockOf, PL.own, PL.ilist, Nat.reduceAdd])
  (refine PL.w_seq fun P kn => ?_; try nofun)
  (refine kn _ ?_)
  (refine PL.w_seq fun P kn => ?_; try nofun)
  refine W_forM (fun c => PV.str [c]) s (fun ys ε => ∃ q, ε = [some (.p (.str s)), some (.p (.int (valT ys : Nat))), q]) ⟨none, rfl⟩ (fun ys c zs ε e hI => ?_) (fun ε hI => ?_)
  · obtain ⟨q, rfl⟩ := hI
    have hc : isDig c = true := List.all_eq_true.mp hd c (by rw [e]; simp)
    have hy : ys.all isDig = true := by rw [e, List.all_append, Bool.and_eq_true] at hd; exact hd.1
    have hyl : ys.length ≤ 400 := by rw [e, List.length_append] at hl; omega
    nofun
    (refine PL.w_seq fun Pi km => ?_; try nofun)
    rw [show metF .index (.p (.str [48, 49, 50, 51, 52, 53, 54, 55, 56, 57])) [.p (.str [c])] = _ from v_idx (figs_idx hc)]
    nofun
    refine ⟨?_, ?_⟩
    · have := val_log hy hyl
      unfold MulOk
      rw [Int.natAbs_natCast]
      have : Nat.log2 (10 : Int).natAbs = 3 := by decide
      omega
    · (refine km _ ?_)
      nofun
      refine ⟨some (.p (.str [c])), ?_⟩
      rw [val_snoc, Int.natCast_add, Int.natCast_mul]; rfl
  · obtain ⟨q, rfl⟩ := hI
    nofun
    (refine kn _ ?_)
    (refine PL.w_seq fun P kn => ?_; try nofun)
    exact k _
end C85

end
section
namespace C85
open PL K85 A TX
variable {L n : Nat} {Q : MV → List (Option MV) → Prop} {E : PV → Prop}
theorem int_len {i : Int} (h : i.natAbs.log2 < 1920) : (intTxt i).length ≤ 601 := by
  rw [log2_iff (by omega)] at h
  have h2 : (2 : Nat) ^ 1920 ≤ 10 ^ 600 := by decide +kernel
  have := nat_len (n := i.natAbs) (k := 600) (by omega) (by omega)
  unfold intTxt
  split
  · rw [List.length_cons]; omega
  · omega
theorem wd_len {q : Int × Int} (h1 : q.1.natAbs.log2 < 1920) (h2 : q.2.natAbs.log2 < 1920) : (wd q).length ≤ 1300 := by
  have := int_len h1
  have := int_len h2
  unfold wd
  split
  · omega
  · rw [List.length_append, List.length_cons]; omega
theorem s_ratio_text {q : Int × Int} {w : Bool} (h1 : q.1.natAbs.log2 < 1920) (h2 : q.2.natAbs.log2 < 1920) (k : ∀ a, Q (.p (.str (wd q))) [a]) : (callF T par L (n + 1) 1 [.p (.tup w [.int q.1, .int q.2])]).W Q E := by
  (refine PL.w_def T_ratio_text rfl ?_; unfold b_ratio_text; simp only [List.map_cons, List.map_nil, List.replicate_succ, List.replicate_zero, Nat.sub_self, Nat.reduceSub, List.append_nil, List.cons_append, List.nil_append, PL.lockOf, PL.own, PL.ilist, Nat.reduceAdd])
  have i1 := int_len h1
  have i2 := int_len h2
  (refine PL.w_seq fun P kn => ?_; try nofun)
  refine brK_dec (fun h => ?_) (fun h => ?_)
  · (refine PL.w_seq fun Pi km => ?_; try nofun)
    refine ⟨h1, ?_⟩
    unfold wd at k
    rw [if_pos h] at k
    exact k _
  · (refine kn _ ?_)
    (refine PL.w_seq fun P kn => ?_; try nofun)
    refine ⟨h1, lenOk (by omega), h2, lenOk (by simp; omega), ?_⟩
    unfold wd at k
    rw [if_neg h] at k
    rw [List.append_assoc]
    exact k _
theorem s_law_word {q : Int × Int} {w : Bool} (h1 : q.1.natAbs.log2 < 1920) (h2 : q.2.natAbs.log2 < 1920) (k : ∀ a, Q (.p (.str (wd q))) [a]) : (callF T par L (n + 1) 21 [.p (.tup w [.int q.1, .int q.2])]).W Q E := by
  (refine PL.w_def T_law_word rfl ?_; unfold b_law_word; simp only [List.map_cons, List.map_nil, List.replicate_succ, List.replicate_zero, Nat.sub_self, Nat.reduceSub, List.append_nil, List.cons_append, List.nil_append, PL.lockOf, PL.own, PL.ilist, Nat.reduceAdd])
  have i1 := int_len h1
  have i2 := int_len h2
  (refine PL.w_seq fun P kn => ?_; try nofun)
  refine brK_dec (fun h => ?_) (fun h => ?_)
  · (refine PL.w_seq fun Pi km => ?_; try nofun)
    refine ⟨h1, ?_⟩
    unfold wd at k
    rw [if_pos h] at k
    exact k _
  · (refine kn _ ?_)
    (refine PL.w_seq fun P kn => ?_; try nofun)
    refine ⟨h1, lenOk (by omega), h2, lenOk (by simp; omega), ?_⟩
    unfold wd at k
    rw [if_neg h] at k
    rw [List.append_assoc]
    exact k _
theorem cut_1 (w : Txt) : cutL w none (some 1) = w.take 1 := cut_take w 1
theorem cut_t (w : Txt) : cutL w (some 1) none = w.drop 1 := cut_drop w 1
theorem sgn_take (w : Txt) : decide (w.take 1 = [45]) = sgn w := by
  unfold sgn
  cases w with
  | nil => rfl
  | cons c r => rw [Bool.eq_iff_iff]; simp
theorem bod_drop {w : Txt} (h : sgn w = true) : w.drop 1 = bod w := by
  unfold bod
  rw [h]
  simp
theorem bod_sub (w : Txt) : ∀ c ∈ bod w, c ∈ w := fun c hc => by
  unfold bod at hc
  split at hc
  · exact List.mem_of_mem_tail hc
  · exact hc
theorem bod_len (w : Txt) : (bod w).length ≤ w.length := by
  unfold bod
  split
  · rw [List.length_tail]; omega
  · omega
theorem asc_of {s t : Txt} (h : asc t = true) (hs : ∀ c ∈ s, c ∈ t) : asc s = true :=
  List.all_eq_true.mpr fun c hc => List.all_eq_true.mp h c (hs c hc)
theorem asc_take {s : Txt} (h : asc s = true) (m : Nat) : asc (s.take m) = true := asc_of h fun _ hc => List.mem_of_mem_take hc
theorem asc_wd (q : Int × Int) : asc (wd q) = true := by
  have hn : ∀ m : Nat, ∀ c ∈ natTxt m, c < 1114112 := fun m c hc => by
    have := dig_of (List.all_eq_true.mp (nat_dig m) c hc)
    omega
  have hi : ∀ i : Int, ∀ c ∈ intTxt i, c < 1114112 := fun i c hc => by
    unfold intTxt at hc
    split at hc
    · rcases List.mem_cons.mp hc with h | h
      · omega
      · exact hn _ c h
    · exact hn _ c hc
  refine List.all_eq_true.mpr fun c hc => decide_eq_true ?_
  unfold wd at hc
  split at hc
  · exact hi _ c hc
  · rcases List.mem_append.mp hc with h | h
    · exact hi _ c h
    · rcases List.mem_cons.mp h with h | h
      · omega
      · exact hi _ c h
theorem low_nat (t b : Nat) : low (t : Int) (b : Int) = (((t / Nat.gcd t b : Nat) : Int), ((b / Nat.gcd t b : Nat) : Int)) := by
  unfold low gI
  rw [Int.natAbs_natCast, Int.natAbs_natCast, Int.natCast_ediv, Int.natCast_ediv]
theorem val_logp {s : Txt} (h : s.all isDig = true) (hl : s.length ≤ 400) : (((valT s : Nat) : Int)).natAbs.log2 < 1500 := by
  rw [Int.natAbs_natCast]; exact val_log h hl
theorem digOk {s : Txt} (h : figB s = true) (hl : s.length ≤ 400) : DigOk s := by
  obtain ⟨h1, h2, _⟩ := fig_parts h
  unfold DigOk
  rw [h2, decide_eq_true (by omega)]
  simpa using h1
theorem fnd_log {w : Txt} {t b : Nat} (ht : t.log2 < 1500) (hb : b.log2 < 1500) : (fnd w t b).1.natAbs.log2 < 1500 ∧ (fnd w t b).2.natAbs.log2 < 1500 := by
  have h1 : (t / Nat.gcd t b).log2 < 1500 := log2_le (by omega) (Nat.div_le_self _ _) ht
  have h2 : (b / Nat.gcd t b).log2 < 1500 := log2_le (by omega) (Nat.div_le_self _ _) hb
  unfold fnd
  refine ⟨?_, by dsimp only; rw [Int.natAbs_natCast]; exact h2⟩
  dsimp only
  split
  · rw [Int.natAbs_neg, Int.natAbs_natCast]; exact h1
  · rw [Int.natAbs_natCast]; exact h1
def optq : Option (Int × Int) → PV
  | none => .non
  | some q => rp q
theorem fig_M {s : Txt} {m : Nat} (h : s.length ≤ m) : figM s m = figB s := by unfold figM; rw [decide_eq_true h]; rfl
theorem rd_nofig {w : Txt} (hp : partC 47 (bod w) = none) (hf : figB (bod w) = false) : rdW w = none := by
  unfold rdW rdB
  rw [hp]
  dsimp only
  rw [hf]; rfl
theorem rd_nofig2 {w a b : Txt} (hp : partC 47 (bod w) = some (a, b)) (hf : (figB a && figB b && decide (2 ≤ valT b)) = false) : rdW w = none := by
  unfold rdW rdB
  rw [hp]
  dsimp only
  rw [hf]; rfl
theorem val_one {b : Txt} (hf : figB b = true) : (b = [49] ↔ valT b = 1) ∧ (b = [48] ↔ valT b = 0) := by
  refine ⟨⟨fun h => by rw [h]; rfl, fun h => ?_⟩, ⟨fun h => by rw [h]; rfl, fun h => ?_⟩⟩
  · rw [← nat_val hf, h]; rfl
  · rw [← nat_val hf, h]; rfl
/-- the end of the program's reader: the fraction found is written and looked at -/
theorem rw_end {w : Txt} {t b : Nat} {o1 o2 o3 o4 : Option MV} (hw : asc w = true) (hwl : w.length ≤ 130) (ht : t.log2 < 1500) (hbl : b.log2 < 1500)
    (he : (wd (fnd w t b) = w ∧ rdW w = some (fnd w t b)) ∨ (wd (fnd w t b) ≠ w ∧ rdW w = none)) (hQ : ∀ a, Q (.p (optq (rdW w))) [a]) :
    (evSs ⟨callF T par L (n + 1), L, [], par⟩ (.cons (.ife (.tv (.cmp .eq (.slc (.var 0) (.con .non) (.con (.int 1))) (.con (.str [45]))))
 (.cons (.set 5 (.tup (.cons (.bin .sub (.con (.int 0)) (.ix (.var 5) (.con (.int 0)))) (.cons (.ix (.var 5) (.con (.int 1))) .nil))))
 .nil)
 .nil)
 (.cons (.ife (.tv (.cmp .ne (.call 1 (.cons (.var 5) .nil)) (.var 0)))
 (.cons (.ret (.con .non))
 .nil)
 .nil)
 (.cons (.rtv 5)
 .nil))) [some (.p (.str w)), o1, o2, o3, o4, some (.p (rp (low t b)))]).W (defK 1 Q) fun e _ => E e := by
  (refine PL.w_seq fun P kn => ?_; try nofun)
  rw [cut_1, sgn_take]
  have fin : P [some (.p (.str w)), o1, o2, o3, o4, some (.p (rp (fnd w t b)))] := by
    (refine kn _ ?_)
    (refine PL.w_seq fun P kn => ?_; try nofun)
    obtain ⟨g1, g2⟩ := fnd_log (w := w) ht hbl
    refine s_ratio_text (by omega) (by omega) fun _ => ?_
    nofun
    refine ⟨⟨asc_wd _, hw⟩, ?_⟩
    rcases he with ⟨e1, e2⟩ | ⟨e1, e2⟩
    · rw [decide_eq_true e1]
      nofun
      (refine kn _ ?_)
      (refine PL.w_seq fun P kn => ?_; try nofun)
      rw [e2] at hQ
      exact hQ _
    · rw [decide_eq_false e1]
      nofun
      (refine PL.w_seq fun Pi km => ?_; try nofun)
      rw [e2] at hQ
      exact hQ _
  refine ⟨lenOk (by omega), ⟨asc_take hw 1, rfl⟩, ?_⟩
  unfold fnd at fin
  rw [low_nat]
  cases hs : sgn w with
  | false =>
    rw [hs] at fin
    nofun
    exact fin
  | true =>
    rw [hs] at fin
    nofun
    (refine PL.w_seq fun Pi km => ?_; try nofun)
    (refine km _ ?_)
    nofun
    rw [Int.zero_sub]
    exact fin
theorem s_ratio_of_word {w : Txt} (hw : asc w = true) (hwl : w.length ≤ 1000) (k : ∀ a, Q (.p (optq (if 130 < w.length then none else rdW w))) [a]) : (callF T par L (n + 2) 3 [.p (.str w)]).W Q E := by
  (refine PL.w_def T_ratio_of_word rfl ?_; unfold b_ratio_of_word; simp only [List.map_cons, List.map_nil, List.replicate_succ, List.replicate_zero, Nat.sub_self, Nat.reduceSub, List.append_nil, List.cons_append, List.nil_append, PL.lockOf, PL.own, PL.ilist, Nat.reduceAdd])
  (refine PL.w_seq fun P kn => ?_; try nofun)
  refine ⟨lenOk (by omega), brK_dec (fun h => ?_) (fun h => ?_)⟩
  · (refine PL.w_seq fun Pi km => ?_; try nofun)
    rw [if_pos (by omega)] at k
    exact k _
  rw [if_neg (by omega)] at k
  have hwl : w.length ≤ 130 := by omega
  have hab : asc (bod w) = true := asc_of hw (bod_sub w)
  have hbl := bod_len w
  (refine kn _ ?_)
  (refine PL.w_seq fun P kn => ?_; try nofun)
  (refine kn _ ?_)
  (refine PL.w_seq fun P kn => ?_; try nofun)
  rw [cut_1, sgn_take]
  have fin : P [some (.p (.str w)), some (.p (.str (bod w))), none, none, none, none] := by
    (refine kn _ ?_)
    (refine PL.w_seq fun P kn => ?_; try nofun)
    refine ⟨lenOk (by omega), ?_⟩
    unfold partV
    cases hp : partC 47 (bod w) with
    | none =>
      nofun
      (refine kn _ ?_)
      (refine PL.w_seq fun P kn => ?_; try nofun)
      refine s_is_figures (m := 130) (by omega) hab fun _ _ => ?_
      rw [fig_M (by omega)]
      cases hf : figB (bod w) with
      | false =>
        nofun
        (refine PL.w_seq fun Pi km => ?_; try nofun)
        rw [rd_nofig hp hf] at k
        exact k _
      | true =>
        nofun
        (refine kn _ ?_)
        (refine PL.w_seq fun P kn => ?_; try nofun)
        refine ⟨⟨rfl, rfl⟩, ?_⟩
        (refine PL.w_seq fun Pi km => ?_; try nofun)
        (refine km _ ?_)
        nofun
        (refine kn _ ?_)
        (refine PL.w_seq fun P kn => ?_; try nofun)
        refine ⟨digOk hf (by omega), by unfold DigOk; rfl, ?_⟩
        have hd := (fig_parts hf).2.1
        have hv := val_log hd (by omega)
        refine s_ratio (b := ((valT [49] : Nat) : Int)) (by decide) (by show Nat.log2 1 < 9000; decide) fun _ _ => ?_
        nofun
        (refine kn _ ?_)
        exact rw_end (t := valT (bod w)) (b := 1) hw hwl hv (by decide) (fnd_one hp hf) k
    | some q =>
      obtain ⟨a, b⟩ := q
      obtain ⟨e1, e2, e3⟩ := part_some hp
      have hla : a.length + b.length + 1 ≤ 130 := by
        have := congrArg List.length e1
        rw [List.length_append, List.length_cons] at this
        omega
      have haa : asc a = true := asc_of hab fun c hc => by rw [e1]; exact List.mem_append_left _ hc
      have hbb : asc b = true := asc_of hab fun c hc => by rw [e1]; exact List.mem_append_right _ (List.mem_cons_of_mem _ hc)
      nofun
      (refine kn _ ?_)
      (refine PL.w_seq fun P kn => ?_; try nofun)
      refine s_is_figures (m := 130) (by omega) haa fun _ _ => ?_
      rw [fig_M (by omega)]
      cases hf : figB a with
      | false =>
        nofun
        (refine PL.w_seq fun Pi km => ?_; try nofun)
        rw [rd_nofig2 hp (by rw [hf]; rfl)] at k
        exact k _
      | true =>
        nofun
        (refine kn _ ?_)
        (refine PL.w_seq fun P kn => ?_; try nofun)
        refine ⟨⟨rfl, rfl⟩, ?_⟩
        (refine PL.w_seq fun Pi km => ?_; try nofun)
        have hbad : rdW w = none → (evSs ⟨callF T par L (n + 1), L, [], par⟩ (.cons (.ret (.con .non)) .nil) [some (.p (.str w)), some (.p (.str (bod w))), some (.p (.str a)), some (.p (.str [47])), some (.p (.str b)), none]).W (fun f ε1 => nxK f ε1 (Pi ε1) (fun f ε1 => nxK f ε1 (P ε1) (defK 1 Q))) fun e _ => E e := fun h => by
          rw [h] at k
          (refine PL.w_seq fun Pj kj => ?_; try nofun)
          exact k _
        refine ⟨⟨hbb, rfl⟩, brK_dec (fun h1 => ?_) (fun h1 => ?_)⟩
        · refine hbad (rd_nofig2 hp ?_)
          rw [h1]
          simp [valT]
        · refine s_is_figures (m := 130) (by omega) hbb fun _ _ => ?_
          rw [fig_M (by omega)]
          cases hg : figB b with
          | false =>
            nofun
            exact hbad (rd_nofig2 hp (by rw [hg]; simp))
          | true =>
            nofun
            obtain ⟨v1, v2⟩ := val_one hg
            refine ⟨⟨hbb, rfl⟩, brK_dec (fun h2 => ?_) (fun h2 => ?_)⟩
            · refine hbad (rd_nofig2 hp ?_)
              rw [h2]
              simp [valT]
            · (refine km _ ?_)
              nofun
              (refine kn _ ?_)
              (refine PL.w_seq fun P kn => ?_; try nofun)
              have h4 : 2 ≤ valT b := by
                have z1 : valT b ≠ 1 := fun z => h1 (v1.mpr z)
                have z0 : valT b ≠ 0 := fun z => h2 (v2.mpr z)
                omega
              have w1 := val_log (fig_parts hf).2.1 (by omega)
              have w2 := val_log (fig_parts hg).2.1 (by omega)
              refine ⟨digOk hf (by omega), digOk hg (by omega), ?_⟩
              refine s_ratio (b := ((valT b : Nat) : Int)) (by omega) (by unfold Sn; rw [Int.natAbs_natCast]; omega) fun _ _ => ?_
              nofun
              (refine kn _ ?_)
              exact rw_end (t := valT a) (b := valT b) hw hwl w1 w2 (fnd_two hp hf hg h4) k
  refine ⟨lenOk (by omega), ⟨asc_take hw 1, rfl⟩, ?_⟩
  cases hs : sgn w with
  | false =>
    rw [bod_no hs] at fin
    nofun
    exact fin
  | true =>
    nofun
    (refine PL.w_seq fun Pi km => ?_; try nofun)
    rw [cut_t, bod_drop hs]
    refine ⟨lenOk (by omega), ?_⟩
    (refine km _ ?_)
    nofun
    exact fin
end C85

end
section
namespace C85
open PL K85 A TX
variable {L n : Nat} {Q : MV → List (Option MV) → Prop} {E : PV → Prop}
theorem split_ne {c : Nat} (s : Txt) : splitC c s ≠ [] := by
  cases s with
  | nil => simp [splitC]
  | cons x r =>
    unfold splitC
    split
    · simp
    · split <;> simp
theorem split_len {c : Nat} (s : Txt) : (splitC c s).length ≤ s.length + 1 := by
  induction s with
  | nil => exact Nat.le_refl _
  | cons x r ih =>
    unfold splitC
    by_cases h : x = c
    · rw [if_pos h, List.length_cons, List.length_cons]; omega
    · rw [if_neg h]
      cases hr : splitC c r with
      | nil => simp
      | cons w ws => rw [hr] at ih; simp at ih ⊢; omega
theorem split_mem {c : Nat} {s p : Txt} (h : p ∈ splitC c s) : p.length ≤ s.length ∧ ∀ x ∈ p, x ∈ s := by
  induction s generalizing p with
  | nil =>
    have : p = [] := by simpa [splitC] using h
    subst this
    exact ⟨Nat.le_refl _, fun _ z => nomatch z⟩
  | cons x r ih =>
    unfold splitC at h
    by_cases hx : x = c
    · rw [if_pos hx] at h
      rcases List.mem_cons.mp h with rfl | h
      · exact ⟨Nat.zero_le _, fun _ z => nomatch z⟩
      · obtain ⟨h1, h2⟩ := ih h
        exact ⟨by rw [List.length_cons]; omega, fun y hy => List.mem_cons_of_mem _ (h2 y hy)⟩
    · rw [if_neg hx] at h
      cases hr : splitC c r with
      | nil =>
        rw [hr] at h
        have : p = [x] := by simpa using h
        subst this
        exact ⟨by simp, fun y hy => by simp at hy; subst hy; simp⟩
      | cons w ws =>
        rw [hr] at h
        rcases List.mem_cons.mp h with rfl | h
        · obtain ⟨h1, h2⟩ := ih (p := w) (by rw [hr]; simp)
          exact ⟨by simp; omega, fun y hy => by
            rcases List.mem_cons.mp hy with rfl | hy
            · simp
            · exact List.mem_cons_of_mem _ (h2 y hy)⟩
        · obtain ⟨h1, h2⟩ := ih (p := p) (by rw [hr]; exact List.mem_cons_of_mem _ h)
          exact ⟨by rw [List.length_cons]; omega, fun y hy => List.mem_cons_of_mem _ (h2 y hy)⟩
theorem fm_blT {α : Type} (s : List α) (f : α → Bool) : s.filterMap (fun c => some (MV.p (PV.bl (f c)))) = ((s.map f).map PV.bl).map MV.p := by
  rw [List.map_map, List.map_map]
  induction s with
  | nil => rfl
  | cons x r ih => rw [List.filterMap_cons, ih]; rfl
/-- the end of the own reader: the sign -/
theorem rd_end {w : Txt} {t b : Nat} {o1 o2 o3 o6 : Option MV} (hw : asc w = true) (hwl : w.length ≤ 399) (ht : t.log2 < 1500) (hr : rdB (bod w) = some (t, b)) (hQ : ∀ a b, Q (.p (optq (rdW w))) [a, b]) :
    (evSs ⟨callF T par L (n + 1), L, [], par⟩ (.cons (.ife (.tv (.cmp .eq (.slc (.var 0) (.con .non) (.con (.int 1))) (.con (.str [45]))))
 (.cons (.ife (.tv (.cmp .eq (.var 4) (.con (.int 0))))
 (.cons (.ret (.con .non))
 .nil)
 .nil)
 (.cons (.set 4 (.bin .sub (.con (.int 0)) (.var 4)))
 .nil))
 .nil)
 (.cons (.ret (.tup (.cons (.var 4) (.cons (.var 5) .nil))))
 .nil)) [some (.p (.str w)), o1, o2, o3, some (.p (.int (t : Nat))), some (.p (.int (b : Nat))), o6]).W (defK 2 Q) fun e _ => E e := by
  (refine PL.w_seq fun P kn => ?_; try nofun)
  rw [cut_1, sgn_take]
  refine ⟨lenOk (by omega), ⟨asc_take hw 1, rfl⟩, ?_⟩
  have he : rdW w = if sgn w then (if t = 0 then none else some (-(t : Int), (b : Int))) else some ((t : Int), (b : Int)) := by
    unfold rdW
    rw [hr]
  rw [he] at hQ
  cases hs : sgn w with
  | false =>
    rw [hs] at hQ
    nofun
    (refine kn _ ?_)
    (refine PL.w_seq fun P kn => ?_; try nofun)
    exact hQ _ _
  | true =>
    rw [hs] at hQ
    nofun
    (refine PL.w_seq fun Pi km => ?_; try nofun)
    refine brK_dec (fun h => ?_) (fun h => ?_)
    · (refine PL.w_seq fun Pj kj => ?_; try nofun)
      rw [if_pos rfl, if_pos (by omega)] at hQ
      exact hQ _ _
    · (refine km _ ?_)
      (refine PL.w_seq fun Pj kj => ?_; try nofun)
      (refine kj _ ?_)
      nofun
      (refine kn _ ?_)
      (refine PL.w_seq fun P kn => ?_; try nofun)
      rw [if_pos rfl, if_neg (by omega)] at hQ
      rw [Int.zero_sub]
      exact hQ _ _
theorem v_all1 {a : Bool} : bltF .all1 [.l [.p (.bl a)]] = some (.p (.bl a)) := by cases a <;> rfl
theorem v_all2 {a b : Bool} : bltF .all1 [.l [.p (.bl a), .p (.bl b)]] = some (.p (.bl (a && b))) := by cases a <;> cases b <;> rfl
theorem ixFrz_1 {ε : Env} {o : Opd} {a : PV} {j : MV} : ixFrz ε o (.l [.p a]) j = ε := ixFrz_o (l := [a])
theorem ixFrz_2 {ε : Env} {o : Opd} {a b : PV} {j : MV} : ixFrz ε o (.l [.p a, .p b]) j = ε := ixFrz_o (l := [a, b])
theorem gcd_int (t b : Nat) : gI (t : Int) (b : Int) = ((Nat.gcd t b : Nat) : Int) := by
  unfold gI
  rw [Int.natAbs_natCast, Int.natAbs_natCast]
theorem s_law_read_word {w : Txt} (hL : FuelOk L) (hw : asc w = true) (hwl : w.length ≤ 399) (k : ∀ a b, Q (.p (optq (rdW w))) [a, b]) : (callF T par L (n + 2) 22 [.p (.str w), .p (.int 400)]).W Q E := by
  (refine PL.w_def T_law_read_word rfl ?_; unfold b_law_read_word; simp only [List.map_cons, List.map_nil, List.replicate_succ, List.replicate_zero, Nat.sub_self, Nat.reduceSub, List.append_nil, List.cons_append, List.nil_append, PL.lockOf, PL.own, PL.ilist, Nat.reduceAdd])
  have hab : asc (bod w) = true := asc_of hw (bod_sub w)
  have hbl := bod_len w
  (refine PL.w_seq fun P kn => ?_; try nofun)
  refine ⟨lenOk (by omega), brK_dec (fun h => absurd h (by omega)) (fun h => ?_)⟩
  (refine kn _ ?_)
  (refine PL.w_seq fun P kn => ?_; try nofun)
  (refine kn _ ?_)
  (refine PL.w_seq fun P kn => ?_; try nofun)
  rw [cut_1, sgn_take]
  have fin : P [some (.p (.str w)), some (.p (.int 400)), some (.p (.str (bod w))), none, none, none, none] := by
    (refine kn _ ?_)
    (refine PL.w_seq fun P kn => ?_; try nofun)
    refine ⟨lenOk (by omega), ?_⟩
    (refine kn _ ?_)
    (refine PL.w_seq fun P kn => ?_; try nofun)
    have hsl := split_len (c := 47) (bod w)
    have hfig : ∀ (x : Txt), (∀ c ∈ x, c ∈ bod w) → x.length ≤ 400 → figM x 400 = figB x := fun x _ h => fig_M h
    cases hp : partC 47 (bod w) with
    | none =>
      rw [(part_none hp).2]
      refine brK_dec (fun h2 => by simp at h2) (fun _ => ?_)
      rw [mvK_l (unpL_own _)]
      nofun
      refine ⟨by unfold LIM; omega, ?_⟩
      refine W_compM PV.str [bod w] (fun p => some (.p (.bl (figB p)))) (fun p hp => ?_) ?_
      · obtain rfl : p = bod w := by simpa using hp
        nofun
        refine s_law_figures (m := 400) (by omega) hab fun _ _ => ?_
        rw [fig_M (by omega)]
        nofun
      · rw [fm_blT]
        nofun
        rw [v_all1]
        nofun
        cases hf : figB (bod w) with
        | false =>
          nofun
          (refine PL.w_seq fun Pi km => ?_; try nofun)
          rw [rd_nofig hp hf] at k
          exact k _ _
        | true =>
          nofun
          (refine kn _ ?_)
          (refine PL.w_seq fun P kn => ?_; try nofun)
          have hv := val_log (fig_parts hf).2.1 (by omega)
          rw [show ixF (.l [.p (.str (bod w))]) (.p (.int 0)) = some (.p (.str (bod w))) from v_ixo (l := [.str (bod w)]) (k := 0) rfl]
          simp only [ixFrz_1]
          nofun
          refine s_law_number (by omega) (fig_parts hf).2.1 fun _ => ?_
          nofun
          (refine kn _ ?_)
          (refine PL.w_seq fun P kn => ?_; try nofun)
          (refine kn _ ?_)
          (refine PL.w_seq fun P kn => ?_; try nofun)
          refine brK_dec (fun h => absurd h (by decide)) (fun _ => ?_)
          (refine kn _ ?_)
          exact rd_end hw hwl hv (by unfold rdB; rw [hp]; dsimp only; rw [if_pos hf]) k
    | some q =>
      obtain ⟨a, b⟩ := q
      obtain ⟨e1, e2, e3⟩ := part_some hp
      have hla : a.length + b.length + 1 ≤ 399 := by
        have := congrArg List.length e1
        rw [List.length_append, List.length_cons] at this
        omega
      have haa : asc a = true := asc_of hab fun c hc => by rw [e1]; exact List.mem_append_left _ hc
      have hbb : asc b = true := asc_of hab fun c hc => by rw [e1]; exact List.mem_append_right _ (List.mem_cons_of_mem _ hc)
      rw [e3]
      cases hq : partC 47 b with
      | none =>
        rw [(part_none hq).2]
        refine brK_dec (fun h2 => by simp at h2) (fun _ => ?_)
        rw [mvK_l (unpL_own _)]
        nofun
        refine ⟨by unfold LIM; simp, ?_⟩
        refine W_compM PV.str [a, b] (fun p => some (.p (.bl (figB p)))) (fun p hp => ?_) ?_
        · have hp : p = a ∨ p = b := by simpa using hp
          have h1 : p.length ≤ 400 := by rcases hp with rfl | rfl <;> omega
          have h2 : asc p = true := by rcases hp with rfl | rfl <;> assumption
          nofun
          refine s_law_figures (m := 400) (by omega) h2 fun _ _ => ?_
          rw [fig_M (by omega)]
          nofun
        · rw [fm_blT]
          nofun
          rw [v_all2]
          nofun
          cases hf : figB a && figB b with
          | false =>
            nofun
            (refine PL.w_seq fun Pi km => ?_; try nofun)
            rw [rd_nofig2 hp (by rw [hf]; rfl)] at k
            exact k _ _
          | true =>
            rw [Bool.and_eq_true] at hf
            obtain ⟨hf, hg⟩ := hf
            nofun
            (refine kn _ ?_)
            (refine PL.w_seq fun P kn => ?_; try nofun)
            have hv := val_log (fig_parts hf).2.1 (by omega)
            have hv2 := val_log (fig_parts hg).2.1 (by omega)
            rw [show ixF (.l [.p (.str a), .p (.str b)]) (.p (.int 0)) = some (.p (.str a)) from v_ixo (l := [.str a, .str b]) (k := 0) rfl]
            simp only [ixFrz_2]
            nofun
            refine s_law_number (by omega) (fig_parts hf).2.1 fun _ => ?_
            nofun
            (refine kn _ ?_)
            (refine PL.w_seq fun P kn => ?_; try nofun)
            (refine kn _ ?_)
            (refine PL.w_seq fun P kn => ?_; try nofun)
            refine brK_dec (fun _ => ?_) (fun h => absurd rfl h)
            (refine PL.w_seq fun Pi km => ?_; try nofun)
            rw [show ixF (.l [.p (.str a), .p (.str b)]) (.p (.int 1)) = some (.p (.str b)) from v_ixo (l := [.str a, .str b]) (k := 1) rfl]
            simp only [ixFrz_2]
            nofun
            refine s_law_number (by omega) (fig_parts hg).2.1 fun _ => ?_
            nofun
            (refine km _ ?_)
            (refine PL.w_seq fun Pj kj => ?_; try nofun)
            refine brK_dec (fun h2 => ?_) (fun h2 => ?_)
            · refine w_seq fun P4 k4 => ?_
              nofun
              rw [rd_nofig2 hp (by rw [decide_eq_false (show ¬ 2 ≤ valT b by omega)]; simp)] at k
              exact k _ _
            · refine s_common hL (by unfold Sn; rw [Int.natAbs_natCast]; omega) fun _ _ => ?_
              rw [gcd_int]
              nofun
              refine brK_decN (fun h3 => ?_) (fun h3 => ?_)
              · refine w_seq fun P4 k4 => ?_
                nofun
                have : rdW w = none := by
                  unfold rdW rdB
                  rw [hp]
                  dsimp only
                  rw [if_neg (by simp [hf, hg]; omega)]
                rw [this] at k
                exact k _ _
              · (refine kj _ ?_)
                nofun
                (refine kn _ ?_)
                exact rd_end hw hwl hv (by unfold rdB; rw [hp]; dsimp only; rw [if_pos (by simp [hf, hg]; omega)]) k
      | some q =>
        obtain ⟨x, y⟩ := q
        obtain ⟨e4, _, e5⟩ := part_some hq
        rw [e5]
        refine brK_dec (fun _ => ?_) (fun h2 => absurd ?_ h2)
        · (refine PL.w_seq fun Pi km => ?_; try nofun)
          have hb : b.all isDig = false := by
            rw [e4, List.all_append, List.all_cons]
            simp [isDig]
          rw [rd_nofig2 hp (by simp [figB, hb])] at k
          exact k _ _
        · cases hs : splitC 47 y with
          | nil => exact absurd hs (split_ne _)
          | cons _ _ => simp; omega
  refine ⟨lenOk (by omega), ⟨asc_take hw 1, rfl⟩, ?_⟩
  cases hs : sgn w with
  | false =>
    rw [bod_no hs] at fin
    nofun
    exact fin
  | true =>
    nofun
    (refine PL.w_seq fun Pi km => ?_; try nofun)
    rw [cut_t, bod_drop hs]
    refine ⟨lenOk (by omega), ?_⟩
    (refine km _ ?_)
    nofun
    exact fin
end C85

end
section
namespace C85
open PL K85 A TX
variable {L n : Nat} {Q : MV → List (Option MV) → Prop} {E : PV → Prop}
def txPlace : Txt := [112, 108, 97, 99, 101]
def txWhat : Txt := [119, 104, 97, 116]
def txValue : Txt := [118, 97, 108, 117, 101]
def txBT : Txt := [66, 97, 100, 84, 101, 120, 116]
def txBV : Txt := [66, 97, 100, 86, 97, 108, 117, 101]
def txLine : Txt := [76, 105, 110, 101, 69, 114, 114, 111, 114]
/-- BadText(p), BadValue("log") -/
def btV (p : Nat) : PV := .exc txBT txPlace (.int (p : Nat))
def bvV (s : Txt) : PV := .exc txBV txWhat (.str s)
theorem bt_arg {p : Nat} (h : p.log2 < 1000) : excArg txPlace [MV.p (.int (p : Nat))] = some (.int (p : Nat)) := by
  unfold excArg
  exact if_pos ⟨by decide, by decide, by decide, by rw [Int.natAbs_natCast]; exact h⟩
theorem bt_small {p : Nat} (h : p ≤ 100000) : p.log2 < 1000 := by
  refine Nat.lt_of_lt_of_le ((log2_iff (k := 17) (by omega)).mpr ?_) (by omega)
  omega
def rdP (w : Txt) : Option (Int × Int) := if 130 < w.length then none else rdW w
theorem s_read_ratio {w : Txt} (hw : asc w = true) (hwl : w.length ≤ 1000) (k : ∀ q, rdP w = some q → ∀ a, Q (.p (rp q)) [a]) (ke : rdP w = none → E (btV 0)) : (callF T par L (n + 3) 4 [.p (.str w)]).W Q E := by
  (refine PL.w_def T_read_ratio rfl ?_; unfold b_read_ratio; simp only [List.map_cons, List.map_nil, List.replicate_succ, List.replicate_zero, Nat.sub_self, Nat.reduceSub, List.append_nil, List.cons_append, List.nil_append, PL.lockOf, PL.own, PL.ilist, Nat.reduceAdd])
  (refine PL.w_seq fun P kn => ?_; try nofun)
  refine s_ratio_of_word hw hwl fun _ => ?_
  nofun
  (refine kn _ ?_)
  (refine PL.w_seq fun P kn => ?_; try nofun)
  show brK (isNonP (optq (rdP w))) _ (P [some (.p (.str w)), some (.p (optq (rdP w)))])
  cases hr : rdP w with
  | none =>
    show brK true _ _
    nofun
    (refine PL.w_seq fun Pi km => ?_; try nofun)
    rw [show excArg [112, 108, 97, 99, 101] [MV.p (.int 0)] = _ from bt_arg (p := 0) (by decide)]
    nofun
    exact ke hr
  | some q =>
    show brK false _ _
    nofun
    (refine kn _ ?_)
    (refine PL.w_seq fun P kn => ?_; try nofun)
    exact k q hr _
/-! ### the same -/
mutual
theorem eqv_refl : ∀ {v : PV}, okData v = true → eqv v v = true
  | .non, _ => rfl
  | .bl a, _ => by simp [eqv]
  | .int a, _ => by simp [eqv]
  | .str a, _ => by simp [eqv]
  | .tup _ l, h => eqvL_refl (show okDataL l = true from h)
  | .fls l, h => eqvL_refl (show okDataL l = true from h)
  | .fdc _ _ _, h => by cases h
  | .exc _ _ _, h => by cases h
  | .sls _, h => by cases h
theorem eqvL_refl : ∀ {l : List PV}, okDataL l = true → eqvL l l = true
  | [], _ => rfl
  | x :: r, h => by
    have h : (okData x && okDataL r) = true := h
    rw [Bool.and_eq_true] at h
    show (eqv x x && eqvL r r) = true
    rw [eqv_refl h.1, eqvL_refl h.2]; rfl
end
mutual
theorem same_refl : ∀ {v : PV}, okData v = true → same v v = true
  | .non, _ => rfl
  | .bl a, _ => by simp [same]
  | .int a, _ => by simp [same]
  | .str a, _ => by simp [same]
  | .tup _ l, h => sameL_refl (show okDataL l = true from h)
  | .fls l, h => sameL_refl (show okDataL l = true from h)
  | .fdc _ _ _, h => by cases h
  | .exc _ _ _, h => by cases h
  | .sls _, h => by cases h
theorem sameL_refl : ∀ {l : List PV}, okDataL l = true → sameL l l = true
  | [], _ => rfl
  | x :: r, h => by
    have h : (okData x && okDataL r) = true := h
    rw [Bool.and_eq_true] at h
    show (same x x && sameL r r) = true
    rw [same_refl h.1, sameL_refl h.2]; rfl
end
/-- data that repr shows -/
def Good (v : PV) : Prop := okData v = true ∧ shw v = true ∧ dep v ≤ 40 ∧ cst v ≤ LIM
theorem s_same {u : PV} (g : Good u) (k : ∀ a b, Q (.p (.bl true)) [a, b]) : (callF T par L (n + 1) 17 [.p u, .p u]).W Q E := by
  obtain ⟨g1, g2, g3, g4⟩ := g
  have hd : isData u = true := by unfold isData; rw [g1, decide_eq_true (by omega)]; rfl
  (refine PL.w_def T_law_same rfl ?_; unfold b_law_same; simp only [List.map_cons, List.map_nil, List.replicate_succ, List.replicate_zero, Nat.sub_self, Nat.reduceSub, List.append_nil, List.cons_append, List.nil_append, PL.lockOf, PL.own, PL.ilist, Nat.reduceAdd])
  (refine PL.w_seq fun P kn => ?_; try nofun)
  rw [show cmpF .eq (.p u) (.p u) = some (eqv u u) by
    show (if isData u && isData u then some (eqv u u) else none) = _
    rw [hd]; rfl]
  rw [eqv_refl g1]
  nofun
  refine ⟨?_, k _ _⟩
  rw [hd, same_refl g1, g2, decide_eq_true g3, decide_eq_true g4]; rfl
/-! ### what is told of an error -/
def refV : PV → PV
  | .exc _ f v => .tup false [.str f, v]
  | _ => .non
theorem s_hrefT {p : Nat} (k : ∀ a, Q (.p (refV (btV p))) [a]) : (callF T par L (n + 1) 38 [.p (btV p)]).W Q E := by
  have i1 : isasF par (.p (btV p)) [.own [86, 97, 108, 117, 101, 69, 114, 114, 111, 114]] = some true := show some (isSub par 8 txBT [86, 97, 108, 117, 101, 69, 114, 114, 111, 114] || false) = some true by decide
  have i2 : isasF par (.p (btV p)) [.own [78, 111, 87, 104, 111, 108, 101], .own [84, 111, 111, 77, 97, 110, 121], .own [85, 110, 98, 97, 108, 97, 110, 99, 101, 100]] = some false := show some (isSub par 8 txBT [78, 111, 87, 104, 111, 108, 101] || (isSub par 8 txBT [84, 111, 111, 77, 97, 110, 121] || (isSub par 8 txBT [85, 110, 98, 97, 108, 97, 110, 99, 101, 100] || false))) = some false by decide
  have i3 : isasF par (.p (btV p)) [.own [66, 97, 100, 84, 101, 120, 116]] = some true := show some (isSub par 8 txBT [66, 97, 100, 84, 101, 120, 116] || false) = some true by decide
  have i4 : isasF par (.p (btV p)) [.own [66, 97, 100, 86, 97, 108, 117, 101]] = some false := show some (isSub par 8 txBT [66, 97, 100, 86, 97, 108, 117, 101] || false) = some false by decide
  (refine PL.w_def T_h_law_refusal rfl ?_; unfold h_law_refusal; simp only [List.map_cons, List.map_nil, List.replicate_succ, List.replicate_zero, Nat.sub_self, Nat.reduceSub, List.append_nil, List.cons_append, List.nil_append, PL.lockOf, PL.own, PL.ilist, Nat.reduceAdd])
  (refine PL.w_seq fun P kn => ?_; try nofun)
  rw [i1]
  nofun
  rw [i2]
  nofun
  (refine kn _ ?_)
  (refine PL.w_seq fun P kn => ?_; try nofun)
  rw [i3]
  nofun
  rw [i4]
  nofun
  (refine PL.w_seq fun Pi km => ?_; try nofun)
  rw [show btV p = .exc txBT txPlace (.int (p : Nat)) from rfl]
  nofun
  refine ⟨rfl, k _⟩
theorem s_hrefV {s : Txt} (k : ∀ a, Q (.p (refV (bvV s))) [a]) : (callF T par L (n + 1) 38 [.p (bvV s)]).W Q E := by
  have i1 : isasF par (.p (bvV s)) [.own [86, 97, 108, 117, 101, 69, 114, 114, 111, 114]] = some true := show some (isSub par 8 txBV [86, 97, 108, 117, 101, 69, 114, 114, 111, 114] || false) = some true by decide
  have i2 : isasF par (.p (bvV s)) [.own [78, 111, 87, 104, 111, 108, 101], .own [84, 111, 111, 77, 97, 110, 121], .own [85, 110, 98, 97, 108, 97, 110, 99, 101, 100]] = some false := show some (isSub par 8 txBV [78, 111, 87, 104, 111, 108, 101] || (isSub par 8 txBV [84, 111, 111, 77, 97, 110, 121] || (isSub par 8 txBV [85, 110, 98, 97, 108, 97, 110, 99, 101, 100] || false))) = some false by decide
  have i3 : isasF par (.p (bvV s)) [.own [66, 97, 100, 84, 101, 120, 116]] = some false := show some (isSub par 8 txBV [66, 97, 100, 84, 101, 120, 116] || false) = some false by decide
  have i4 : isasF par (.p (bvV s)) [.own [66, 97, 100, 86, 97, 108, 117, 101]] = some true := show some (isSub par 8 txBV [66, 97, 100, 86, 97, 108, 117, 101] || false) = some true by decide
  (refine PL.w_def T_h_law_refusal rfl ?_; unfold h_law_refusal; simp only [List.map_cons, List.map_nil, List.replicate_succ, List.replicate_zero, Nat.sub_self, Nat.reduceSub, List.append_nil, List.cons_append, List.nil_append, PL.lockOf, PL.own, PL.ilist, Nat.reduceAdd])
  (refine PL.w_seq fun P kn => ?_; try nofun)
  rw [i1]
  nofun
  rw [i2]
  nofun
  (refine kn _ ?_)
  (refine PL.w_seq fun P kn => ?_; try nofun)
  rw [i3]
  nofun
  (refine kn _ ?_)
  (refine PL.w_seq fun P kn => ?_; try nofun)
  rw [i4]
  nofun
  rw [i3]
  nofun
  (refine PL.w_seq fun Pi km => ?_; try nofun)
  rw [show bvV s = .exc txBV txWhat (.str s) from rfl]
  nofun
  refine ⟨rfl, k _⟩
end C85

end
section
namespace C85
open PL K85 A TX
variable {L n : Nat} {Q : MV → List (Option MV) → Prop} {E : PV → Prop}
def Ref (e : PV) : Prop := (∃ p, e = btV p) ∨ ∃ s, e = bvV s
theorem told_exc {e : PV} (he : Ref e) {Q3 : Flow → Env → Prop} {E3 : PV → Env → Prop} {a b c : Option MV} (k : ∀ ε', ε'.length = 3 → Q3 (.rt (.p (refV e))) ε') :
    excK par [] txLine (some 2) (fun ε2 Q => (evSs ⟨callF T par L (n + 1), L, [], par⟩ (.cons (.ret (.call 38 (.cons (.var 2) .nil))) .nil) ε2).W Q fun _ _ => False) Q3 E3 e [a, b, c] := by
  rcases he with ⟨p, rfl⟩ | ⟨s, rfl⟩
  · refine ⟨fun _ => ?_, fun h => absurd h (by decide)⟩
    nofun
    (refine PL.w_seq fun P kn => ?_; try nofun)
    refine s_hrefT fun _ => ?_
    nofun
    refine ⟨rfl, k _ ?_⟩
    rfl
  · refine ⟨fun _ => ?_, fun h => absurd h (by decide)⟩
    nofun
    (refine PL.w_seq fun P kn => ?_; try nofun)
    refine s_hrefV fun _ => ?_
    nofun
    refine ⟨rfl, k _ ?_⟩
    rfl
theorem take2 {ε : Env} (h : ε.length = 3) : ∃ a b, ε.take 2 = [a, b] := by
  match ε, h with
  | [a, b, c], _ => exact ⟨a, b, rfl⟩
def valV (v : PV) : PV := .tup false [.str txValue, v]
def told0 (w : Txt) : PV := match rdP w with
  | some q => valV (rp q)
  | none => refV (btV 0)
theorem s_told0 {w : Txt} (hw : asc w = true) (hwl : w.length ≤ 1000) (k : ∀ a b, Q (.p (told0 w)) [a, b]) : (callF T par L (n + 4) 23 [.p (.int 0), .p (.str w)]).W Q E := by
  (refine PL.w_def T_law_told rfl ?_; unfold b_law_told; simp only [List.map_cons, List.map_nil, List.replicate_succ, List.replicate_zero, Nat.sub_self, Nat.reduceSub, List.append_nil, List.cons_append, List.nil_append, PL.lockOf, PL.own, PL.ilist, Nat.reduceAdd])
  unfold told0 at k
  (refine PL.w_seq fun P kn => ?_; try nofun)
  (refine PL.w_seq fun Pi km => ?_; try nofun)
  (refine PL.w_seq fun Pj kj => ?_; try nofun)
  refine s_read_ratio hw hwl (fun q hq _ => ?_) fun hn => ?_
  · nofun
    rw [hq] at k
    exact k _ _
  · refine told_exc (.inl ⟨0, rfl⟩) fun ε' he => ?_
    nofun
    rw [hn] at k
    obtain ⟨a, b, e⟩ := take2 he
    rw [e]
    exact k _ _
theorem good_str {s : Txt} (h : asc s = true) (hl : s.length ≤ 1000000) : Good (.str s) := by
  refine ⟨h, rfl, by show 0 ≤ 40; omega, ?_⟩
  show 10 * s.length + 2 ≤ LIM
  unfold LIM
  omega
theorem good_rp {q : Int × Int} (h1 : q.1.natAbs.log2 < 1500) (h2 : q.2.natAbs.log2 < 1500) : Good (valV (rp q)) := by
  refine ⟨rfl, ?_, Nat.le_of_ble_eq_true rfl, by simp [cst, cstL, valV, rp, refV, btV, txValue, txPlace, LIM]⟩
  show (true && (((decide (q.1.natAbs.log2 < 1920)) && (decide (q.2.natAbs.log2 < 1920) && true)) && true)) = true
  rw [decide_eq_true (by omega), decide_eq_true (by omega)]; rfl
theorem good_place {p : Nat} (h : p.log2 < 1000) : Good (refV (btV p)) := by
  refine ⟨rfl, ?_, Nat.le_of_ble_eq_true rfl, by simp [cst, cstL, valV, rp, refV, btV, txValue, txPlace, LIM]⟩
  show (true && ((decide ((p : Int).natAbs.log2 < 1920)) && true)) = true
  rw [Int.natAbs_natCast, decide_eq_true (by omega)]; rfl
theorem rdW_log {w : Txt} {q : Int × Int} (h : rdW w = some q) (hl : w.length ≤ 399) : q.1.natAbs.log2 < 1500 ∧ q.2.natAbs.log2 < 1500 := by
  have hbl := bod_len w
  have key : ∀ t b, rdB (bod w) = some (t, b) → t.log2 < 1500 ∧ b.log2 < 1500 := fun t b hb => by
    unfold rdB at hb
    cases hp : partC 47 (bod w) with
    | none =>
      rw [hp] at hb
      dsimp only at hb
      split at hb
      · rename_i hf
        cases hb
        exact ⟨val_log (fig_parts hf).2.1 (by omega), by decide⟩
      · cases hb
    | some r =>
      obtain ⟨x, y⟩ := r
      rw [hp] at hb
      dsimp only at hb
      split at hb
      · rename_i hf
        simp only [Bool.and_eq_true] at hf
        cases hb
        obtain ⟨e1, _, _⟩ := part_some hp
        have := congrArg List.length e1
        rw [List.length_append, List.length_cons] at this
        exact ⟨val_log (fig_parts hf.1.1.1).2.1 (by omega), val_log (fig_parts hf.1.1.2).2.1 (by omega)⟩
      · cases hb
  unfold rdW at h
  cases hb : rdB (bod w) with
  | none => rw [hb] at h; cases h
  | some p =>
    obtain ⟨t, b⟩ := p
    rw [hb] at h
    obtain ⟨g1, g2⟩ := key t b hb
    have h : (if sgn w then (if t = 0 then none else some (-(t : Int), (b : Int))) else some ((t : Int), (b : Int))) = some q := h
    split at h
    · split at h
      · cases h
      · cases h
        exact ⟨by show (-(t : Int)).natAbs.log2 < 1500; rw [Int.natAbs_neg, Int.natAbs_natCast]; exact g1, by show (b : Int).natAbs.log2 < 1500; rw [Int.natAbs_natCast]; exact g2⟩
    · cases h
      exact ⟨by show (t : Int).natAbs.log2 < 1500; rw [Int.natAbs_natCast]; exact g1, by show (b : Int).natAbs.log2 < 1500; rw [Int.natAbs_natCast]; exact g2⟩
/-- a word of a ratio is read as is due -/
theorem s_ratio_right {w : Txt} (hL : FuelOk L) (hw : asc w = true) (hwl : w.length ≤ 399) (k : ∀ a, Q (.p (.bl true)) [a]) : (callF T par L (n + 5) 28 [.p (.str w)]).W Q E := by
  (refine PL.w_def T_law_ratio_right rfl ?_; unfold b_law_ratio_right; simp only [List.map_cons, List.map_nil, List.replicate_succ, List.replicate_zero, Nat.sub_self, Nat.reduceSub, List.append_nil, List.cons_append, List.nil_append, PL.lockOf, PL.own, PL.ilist, Nat.reduceAdd])
  (refine PL.w_seq fun P kn => ?_; try nofun)
  refine s_law_read_word hL hw hwl fun _ _ => ?_
  nofun
  (refine kn _ ?_)
  (refine PL.w_seq fun P kn => ?_; try nofun)
  cases hr : rdW w with
  | none =>
    show brK false _ _
    nofun
    (refine kn _ ?_)
    (refine PL.w_seq fun P kn => ?_; try nofun)
    show brK true _ _
    nofun
    (refine PL.w_seq fun Pi km => ?_; try nofun)
    refine s_told0 hw (by omega) fun _ _ => ?_
    have e : told0 w = refV (btV 0) := by
      unfold told0 rdP
      rw [hr]; simp
    rw [e]
    nofun
    refine s_same (good_place (by decide)) fun _ _ => ?_
    nofun
    exact k _
  | some q =>
    show brK true _ _
    obtain ⟨g1, g2⟩ := rdW_log hr hwl
    nofun
    refine s_ratio_text (by omega) (by omega) fun _ => ?_
    nofun
    rw [(rdW_wd hr).1]
    refine s_same (good_str hw (by omega)) fun _ _ => ?_
    nofun
    (refine kn _ ?_)
    (refine PL.w_seq fun P kn => ?_; try nofun)
    show brK false _ _
    nofun
    refine ⟨lenOk (by omega), brK_dec (fun h => ?_) (fun h => ?_)⟩
    · (refine PL.w_seq fun Pi km => ?_; try nofun)
      refine s_told0 hw (by omega) fun _ _ => ?_
      have e : told0 w = refV (btV 0) := by
        unfold told0 rdP
        rw [if_pos (by omega)]
      rw [e]
      nofun
      refine s_same (good_place (by decide)) fun _ _ => ?_
      nofun
      exact k _
    · (refine kn _ ?_)
      (refine PL.w_seq fun P kn => ?_; try nofun)
      refine s_told0 hw (by omega) fun _ _ => ?_
      have e : told0 w = valV (rp q) := by
        unfold told0 rdP
        rw [if_neg (by omega), hr]
      rw [e]
      nofun
      refine s_same (good_rp g1 g2) fun _ _ => ?_
      nofun
      exact k _
end C85

end
section
namespace C85
open PL K85 A TX
variable {L n : Nat} {Q : MV → List (Option MV) → Prop} {E : PV → Prop}
theorem asc_app {s t : Txt} (h : asc s = true) (g : asc t = true) : asc (s ++ t) = true := by
  unfold asc at h g ⊢
  rw [List.all_append, h, g]; rfl
theorem asc_drop {s : Txt} (h : asc s = true) (m : Nat) : asc (s.drop m) = true := asc_of h fun _ hc => List.mem_of_mem_drop hc
theorem asc_one {s : Txt} {i c : Nat} (h : asc s = true) (hc : s[i]? = some c) : asc [c] = true := asc_of h fun x hx => by
  have : x = c := by simpa using hx
  rw [this]; exact List.mem_of_getElem? hc
/-- a text bent at a place -/
theorem s_bent {p : List Int} {t sg : Txt} (ht : asc t = true) (hs : asc sg = true) (htl : t.length ≤ 10000) (hsl : sg.length ≤ 1000) (h0 : 0 < sg.length) (k : ∀ (t' : Txt) (p' : List Int) a b, asc t' = true → t'.length ≤ t.length + 1 → Q (.p (.str t')) [some (ilist p'), a, b]) :
    (callF T par L (n + 2) 25 [ilist p, .p (.str t), .p (.str sg)]).W Q E := by
  (refine PL.w_def T_law_bent rfl ?_; unfold b_law_bent; simp only [List.map_cons, List.map_nil, List.replicate_succ, List.replicate_zero, Nat.sub_self, Nat.reduceSub, List.append_nil, List.cons_append, List.nil_append, PL.lockOf, PL.own, PL.ilist, Nat.reduceAdd])
  (refine PL.w_seq fun P kn => ?_; try nofun)
  refine ⟨lenOk (by omega), s_take (p := p) (b := (sg.length : Int)) (by omega) fun r p1 _ hr => ?_⟩
  obtain ⟨c, hc⟩ : ∃ c, sg[r]? = some c := ⟨_, List.getElem?_eq_getElem (by omega)⟩
  have hc1 := asc_one hs hc
  nofun
  rw [show ixF (.p (.str sg)) (.p (.int (r : Nat))) = _ from v_ixs hc (by unfold LIM; omega)]
  nofun
  (refine kn _ ?_)
  (refine PL.w_seq fun P kn => ?_; try nofun)
  refine ⟨lenOk (by omega), s_take (p := p1) (b := (t.length : Int) + 1) (by omega) fun q p2 _ hq => ?_⟩
  nofun
  (refine kn _ ?_)
  (refine PL.w_seq fun P kn => ?_; try nofun)
  refine s_take (p := p2) (b := 3) (by omega) fun z p3 _ hz => ?_
  nofun
  (refine kn _ ?_)
  (refine PL.w_seq fun P kn => ?_; try nofun)
  have hq : q ≤ t.length := by omega
  have h1 := asc_take ht q
  have h2 := asc_drop ht q
  have h3 := asc_drop ht (q + 1)
  refine brK_dec (fun _ => ?_) (fun _ => ?_)
  · (refine PL.w_seq fun Pi km => ?_; try nofun)
    rw [cut_take, cut_drop]
    refine ⟨lenOk (by omega), lenOk (by simp; omega), lenOk (by omega), lenOk (by simp; omega), k _ _ _ _ (asc_app (asc_app h1 hc1) h2) (by simp; omega)⟩
  · (refine kn _ ?_)
    (refine PL.w_seq fun P kn => ?_; try nofun)
    refine brK_dec (fun _ => ?_) (fun _ => ?_)
    · (refine PL.w_seq fun Pi km => ?_; try nofun)
      rw [cut_take, cut_drop1]
      refine ⟨lenOk (by omega), lenOk (by simp; omega), lenOk (by omega), lenOk (by simp; omega), k _ _ _ _ (asc_app (asc_app h1 hc1) h3) (by simp; omega)⟩
    · (refine kn _ ?_)
      (refine PL.w_seq fun P kn => ?_; try nofun)
      rw [cut_take, cut_drop1]
      refine ⟨lenOk (by omega), lenOk (by omega), lenOk (by simp; omega), k _ _ _ _ (asc_app h1 h3) (by simp; omega)⟩
theorem zfill_dig {s : Txt} {m : Nat} (h : s.all isDig = true) : (zfill s m).all isDig = true := by
  unfold zfill
  rw [List.all_append, h, Bool.and_true]
  exact List.all_eq_true.mpr fun c hc => by rw [(List.mem_replicate.mp hc).2]; rfl
theorem zfill_len {s : Txt} {m : Nat} (h : s.length ≤ m) : (zfill s m).length = m := by
  unfold zfill
  rw [List.length_append, List.length_replicate]; omega
theorem dig_asc {s : Txt} (h : s.all isDig = true) : asc s = true := List.all_eq_true.mpr fun c hc => by
  have := dig_of (List.all_eq_true.mp h c hc)
  simp; omega
theorem dig_take {s : Txt} (h : s.all isDig = true) (m : Nat) : (s.take m).all isDig = true := List.all_eq_true.mpr fun c hc => List.all_eq_true.mp h c (List.mem_of_mem_take hc)
/-- so many figures, the first one not zero -/
theorem s_figures_drawn {p : List Int} {m : Nat} (h0 : 0 < m) (hm : m ≤ 400) (k : ∀ (s : Txt) (p' : List Int) a, s.all isDig = true → s.length = m → 0 < valT s → Q (.p (.str s)) [some (ilist p'), a]) : (callF T par L (n + 2) 24 [ilist p, .p (.int (m : Nat))]).W Q E := by
  (refine PL.w_def T_law_figures_drawn rfl ?_; unfold b_law_figures_drawn; simp only [List.map_cons, List.map_nil, List.replicate_succ, List.replicate_zero, Nat.sub_self, Nat.reduceSub, List.append_nil, List.cons_append, List.nil_append, PL.lockOf, PL.own, PL.ilist, Nat.reduceAdd])
  (refine PL.w_seq fun P kn => ?_; try nofun)
  refine s_take (p := p) (b := 9) (by omega) fun r p1 _ hr => ?_
  have hc : ([49, 50, 51, 52, 53, 54, 55, 56, 57] : Txt)[r]? = some (49 + r) := by
    have : r < 9 := by omega
    match r, this with
    | 0, _ => rfl
    | 1, _ => rfl
    | 2, _ => rfl
    | 3, _ => rfl
    | 4, _ => rfl
    | 5, _ => rfl
    | 6, _ => rfl
    | 7, _ => rfl
    | 8, _ => rfl
  nofun
  rw [show ixF (.p (.str [49, 50, 51, 52, 53, 54, 55, 56, 57])) (.p (.int (r : Nat))) = _ from v_ixs hc (by decide)]
  nofun
  (refine kn _ ?_)
  (refine PL.w_seq fun P kn => ?_; try nofun)
  have hdiv : ((m : Int) + 5) / 6 = (((m + 5) / 6 : Nat) : Int) := by omega
  rw [hdiv, Int.toNat_natCast]
  refine ⟨⟨by omega, by decide⟩, small_nat (by omega), ?_⟩
  refine W_rng (fun i ε => ∃ (s : Txt) (p' : List Int) (q : Option MV), s.all isDig = true ∧ s.length = 6 * i + 1 ∧ s.head? = some (49 + r) ∧ ε = [some (ilist p'), some (.p (.int (m : Nat))), some (.p (.str s)), q]) ⟨[49 + r], p1, none, by simp [isDig]; omega, rfl, rfl, rfl⟩ (fun i ε hi hI => ?_) (fun ε hI => ?_)
  · obtain ⟨s, p', q, h1, h2, h3, rfl⟩ := hI
    nofun
    (refine PL.w_seq fun Pi km => ?_; try nofun)
    refine s_take (p := p') (b := 1000000) (by omega) fun x p2 _ hx => ?_
    have hx : x < 10 ^ 6 := by omega
    have hxl := nat_len (by omega) hx
    nofun
    rw [int_nat]
    refine ⟨by unfold StrOk; rw [Int.natAbs_natCast, log2_iff (by omega)]; exact Nat.lt_of_lt_of_le hx (by decide +kernel), ?_, ?_⟩
    · rw [nat_dig]; rfl
    · have hz := zfill_len (m := 6) hxl
      refine ⟨lenOk ?_, ?_⟩
      · show s.length + (zfill (natTxt x) 6).length ≤ _
        omega
      · (refine km _ ?_)
        nofun
        refine ⟨s ++ zfill (natTxt x) 6, p2, some (.p (.int (i : Nat))), ?_, ?_, ?_, rfl⟩
        · rw [List.all_append, h1, zfill_dig (nat_dig x)]; rfl
        · rw [List.length_append]; omega
        · rw [List.head?_append, h3]; rfl
  · obtain ⟨s, p', q, h1, h2, h3, rfl⟩ := hI
    nofun
    (refine kn _ ?_)
    (refine PL.w_seq fun P kn => ?_; try nofun)
    rw [cut_take]
    have hl : (s.take m).length = m := by rw [List.length_take]; omega
    refine ⟨lenOk (by omega), k _ _ _ (dig_take h1 m) hl (val_pos (dig_take h1 m) (fun z => by rw [z] at hl; simp at hl; omega) ?_)⟩
    cases s with
    | nil => simp at h2
    | cons c rr =>
      cases m with
      | zero => omega
      | succ m =>
        simp at h3 ⊢
        omega
end C85

end
section
namespace C85
open PL K85 A TX
variable {L n : Nat} {Q : MV → List (Option MV) → Prop} {E : PV → Prop}
theorem int_lenk {i : Int} {m : Nat} (hm : 0 < m) (h : i.natAbs < 10 ^ m) : (intTxt i).length ≤ m + 1 := by
  have := nat_len hm h
  unfold intTxt
  split
  · rw [List.length_cons]; omega
  · omega
theorem wd_lenk {q : Int × Int} {m : Nat} (hm : 0 < m) (h1 : q.1.natAbs < 10 ^ m) (h2 : q.2.natAbs < 10 ^ m) : (wd q).length ≤ 2 * m + 3 := by
  have := int_lenk hm h1
  have := int_lenk hm h2
  unfold wd
  split
  · omega
  · rw [List.length_append, List.length_cons]; omega
theorem pow_log {x : Nat} (h : x < 10 ^ 91) : x.log2 < 1500 := by
  rw [log2_iff (by omega)]
  have h3 : (10 : Nat) ^ 91 < 2 ^ 1500 := by decide +kernel
  omega
theorem asc_int (i : Int) : asc (intTxt i) = true := by
  have := asc_wd (i, 1)
  unfold wd at this
  simpa using this
theorem six_val {s : Txt} {m k : Nat} (h : s.all isDig = true) (hl : s.length = m) (hk : m ≤ k) : valT s < 10 ^ k := by
  have h1 := val_lt h
  have h2 : 10 ^ s.length ≤ 10 ^ k := Nat.pow_le_pow_right (by omega) (by omega)
  omega
theorem s_ratio_drawn {p : List Int} (hL : FuelOk L) (k : ∀ (t : Txt) (p' : List Int), asc t = true → t.length ≤ 200 → Q (.p (.str t)) [some (ilist p')]) : (callF T par L (n + 5) 26 [ilist p]).W Q E := by
  (refine PL.w_def T_law_ratio_drawn rfl ?_; unfold b_law_ratio_drawn; simp only [List.map_cons, List.map_nil, List.replicate_succ, List.replicate_zero, Nat.sub_self, Nat.reduceSub, List.append_nil, List.cons_append, List.nil_append, PL.lockOf, PL.own, PL.ilist, Nat.reduceAdd])
  (refine PL.w_seq fun P kn => ?_; try nofun)
  refine s_take (p := p) (b := 2) (by omega) fun r0 p0 _ hr0 => ?_
  nofun
  have main : ∀ sg : Txt, asc sg = true → sg.length ≤ 1 → ∀ (ε : Env), ε = [some (ilist p0), some (.p (.str sg)), none, none, none, none, none, none, none] → P ε := fun sg hsg hsl ε hε => by
    subst hε
    (refine kn _ ?_)
    (refine PL.w_seq fun P kn => ?_; try nofun)
    refine s_take (p := p0) (b := 6) (by omega) fun r1 p1 _ hr1 => ?_
    nofun
    (refine kn _ ?_)
    (refine PL.w_seq fun P kn => ?_; try nofun)
    refine s_take (p := p1) (b := 3) (by omega) fun r2 p2 _ hr2 => ?_
    nofun
    refine ⟨lenOk (by omega), ?_⟩
    have hm : ∃ many : Nat, 129 + (r2 : Int) - (sg.length : Int) = (many : Int) ∧ 128 ≤ many ∧ many ≤ 131 := ⟨129 + r2 - sg.length, by omega, by omega, by omega⟩
    obtain ⟨many, hm, hm1, hm2⟩ := hm
    rw [hm]
    (refine kn _ ?_)
    (refine PL.w_seq fun P kn => ?_; try nofun)
    refine brK_dec (fun _ => ?_) (fun _ => ?_)
    · (refine PL.w_seq fun Pi km => ?_; try nofun)
      refine s_take (p := p2) (b := (many : Int)) (by omega) fun x p3 _ hx => ?_
      nofun
      refine s_figures_drawn (p := p3) (m := 1 + x) (by omega) (by omega) fun s p4 _ g1 g2 _ => ?_
      nofun
      refine ⟨lenOk (by omega), k _ _ (asc_app hsg (dig_asc g1)) (by rw [List.length_append]; omega)⟩
    (refine kn _ ?_)
    (refine PL.w_seq fun P kn => ?_; try nofun)
    refine brK_dec (fun _ => ?_) (fun _ => ?_)
    · (refine PL.w_seq fun Pi km => ?_; try nofun)
      refine s_figures_drawn (p := p2) (m := many) (by omega) (by omega) fun s p4 _ g1 g2 _ => ?_
      nofun
      refine ⟨lenOk (by omega), k _ _ (asc_app hsg (dig_asc g1)) (by rw [List.length_append]; omega)⟩
    (refine kn _ ?_)
    (refine PL.w_seq fun P kn => ?_; try nofun)
    refine brK_dec (fun _ => ?_) (fun _ => ?_)
    · (refine PL.w_seq fun Pi km => ?_; try nofun)
      refine s_take (p := p2) (b := (many : Int) - 3) (by omega) fun x p3 _ hx => ?_
      nofun
      (refine km _ ?_)
      (refine PL.w_seq fun Pi km => ?_; try nofun)
      refine s_figures_drawn (p := p3) (m := 1 + x) (by omega) (by omega) fun s p4 _ g1 g2 _ => ?_
      nofun
      (refine km _ ?_)
      (refine PL.w_seq fun Pi km => ?_; try nofun)
      rw [show (1 + (x : Int) - 1) = (x : Int) by omega, cut_take]
      refine ⟨lenOk (by omega), lenOk (by simp; omega), s_take (p := p4) (b := 4) (by omega) fun y p5 _ hy => ?_⟩
      obtain ⟨c, hc, hc2⟩ : ∃ c, ([49, 51, 55, 57] : Txt)[y]? = some c ∧ asc [c] = true := by
        have : y < 4 := by omega
        match y, this with
        | 0, _ => exact ⟨_, rfl, rfl⟩
        | 1, _ => exact ⟨_, rfl, rfl⟩
        | 2, _ => exact ⟨_, rfl, rfl⟩
        | 3, _ => exact ⟨_, rfl, rfl⟩
      rw [show ixF (.p (.str [49, 51, 55, 57])) (.p (.int (y : Nat))) = _ from v_ixs hc (by decide)]
      nofun
      have hrl : (List.replicate ((many : Int) - 2 - (1 + (x : Int))).toNat [48]).flatten.length = many - 3 - x := by
        rw [List.length_flatten]
        simp
        omega
      have hra : asc (List.replicate ((many : Int) - 2 - (1 + (x : Int))).toNat [48]).flatten = true := by
        refine List.all_eq_true.mpr fun c hc => ?_
        obtain ⟨l, h1, h2⟩ := List.mem_flatten.mp hc
        rw [(List.mem_replicate.mp h1).2] at h2
        have : c = 48 := by simpa using h2
        rw [this]; rfl
      refine ⟨lenOk (by simp; omega), lenOk (by simp; omega), ⟨by simp; unfold LIM; omega, by omega, by omega⟩, lenOk (by rw [hrl]; simp; omega), k _ _ ?_ ?_⟩
      · exact asc_app (asc_app (asc_app (asc_app hsg (asc_take (dig_asc g1) x)) hc2) rfl) hra
      · rw [List.length_append, hrl]; simp; omega
    (refine kn _ ?_)
    (refine PL.w_seq fun P kn => ?_; try nofun)
    refine brK_dec (fun _ => ?_) (fun _ => ?_)
    · (refine PL.w_seq fun Pi km => ?_; try nofun)
      refine s_take (p := p2) (b := 65) (by omega) fun x p3 _ hx => ?_
      nofun
      refine s_figures_drawn (p := p3) (m := 1 + x) (by omega) (by omega) fun s p4 _ g1 g2 _ => ?_
      nofun
      refine s_law_number (by omega) g1 fun _ => ?_
      nofun
      (refine km _ ?_)
      (refine PL.w_seq fun Pi km => ?_; try nofun)
      have hv := six_val (k := 90) g1 g2 (by omega)
      have l1 : (valT s : Int).natAbs < 10 ^ 91 := by rw [Int.natAbs_natCast]; exact Nat.lt_of_lt_of_le hv (Nat.pow_le_pow_right (by omega) (by omega))
      have l2 : ((valT s : Int) + 1).natAbs < 10 ^ 91 := by
        have : (10 : Nat) ^ 91 = 10 * 10 ^ 90 := by rw [Nat.pow_succ]
        omega
      have i1 := int_lenk (by omega) l1
      have i2 := int_lenk (by omega) l2
      have o1 := pow_log l1
      have o2 := pow_log l2
      refine ⟨by unfold StrOk; omega, lenOk (by omega), lenOk (by simp; omega), by unfold StrOk; omega, lenOk (by simp; omega), k _ _ ?_ ?_⟩
      · exact asc_app (asc_app (asc_app hsg (asc_int _)) rfl) (asc_int _)
      · simp; omega
    (refine kn _ ?_)
    (refine PL.w_seq fun P kn => ?_; try nofun)
    refine brK_dec (fun _ => ?_) (fun _ => ?_)
    · (refine PL.w_seq fun Pi km => ?_; try nofun)
      refine s_take (p := p2) (b := 90) (by omega) fun x p3 _ hx => ?_
      nofun
      refine s_figures_drawn (p := p3) (m := 1 + x) (by omega) (by omega) fun s p4 _ g1 g2 _ => ?_
      nofun
      refine s_law_number (by omega) g1 fun _ => ?_
      nofun
      (refine km _ ?_)
      (refine PL.w_seq fun Pi km => ?_; try nofun)
      refine s_take (p := p4) (b := 90) (by omega) fun x2 p5 _ hx2 => ?_
      nofun
      refine s_figures_drawn (p := p5) (m := 1 + x2) (by omega) (by omega) fun s2 p6 _ g3 g4 g5 => ?_
      nofun
      refine s_law_number (by omega) g3 fun _ => ?_
      nofun
      (refine km _ ?_)
      (refine PL.w_seq fun Pi km => ?_; try nofun)
      have hv := six_val (k := 91) g1 g2 (by omega)
      have hv2 := six_val (k := 91) g3 g4 (by omega)
      have o2 := pow_log hv2
      refine s_lowest hL (by omega) (by unfold Sn; rw [Int.natAbs_natCast]; omega) fun _ _ => ?_
      have m1 : (low (valT s : Int) (valT s2 : Int)).1.natAbs < 10 ^ 91 := by
        have := low_le_l (t := (valT s : Int)) (b := (valT s2 : Int)) (by omega)
        rw [Int.natAbs_natCast] at this
        omega
      have m2 : (low (valT s : Int) (valT s2 : Int)).2.natAbs < 10 ^ 91 := by
        have := low_le_r (t := (valT s : Int)) (b := (valT s2 : Int)) (by omega)
        rw [Int.natAbs_natCast] at this
        omega
      have q1 := pow_log m1
      have q2 := pow_log m2
      have q3 := wd_lenk (by omega) m1 m2
      nofun
      refine s_law_word (by omega) (by omega) fun _ => ?_
      nofun
      refine ⟨lenOk (by omega), k _ _ (asc_app hsg (asc_wd _)) (by rw [List.length_append]; omega)⟩
    (refine kn _ ?_)
    (refine PL.w_seq fun P kn => ?_; try nofun)
    refine s_take (p := p2) (b := 41) (by omega) fun x p3 _ hx => ?_
    nofun
    refine s_take (p := p3) (b := 12) (by omega) fun x2 p4 _ hx2 => ?_
    nofun
    have m1 : (low ((x : Int) - 20) (1 + (x2 : Int))).1.natAbs < 10 ^ 2 := by
      have := low_le_l (t := (x : Int) - 20) (b := 1 + (x2 : Int)) (by omega)
      omega
    have m2 : (low ((x : Int) - 20) (1 + (x2 : Int))).2.natAbs < 10 ^ 2 := by
      have := low_le_r (t := (x : Int) - 20) (b := 1 + (x2 : Int)) (by omega)
      omega
    have q1 := pow_log (Nat.lt_of_lt_of_le m1 (Nat.pow_le_pow_right (by omega) (by omega)))
    have q2 := pow_log (Nat.lt_of_lt_of_le m2 (Nat.pow_le_pow_right (by omega) (by omega)))
    have q3 := wd_lenk (by omega) m1 m2
    refine s_lowest hL (by omega) (Sm.up (sm_of (by omega) (by omega))) fun _ _ => ?_
    nofun
    refine s_law_word (by omega) (by omega) fun _ => ?_
    nofun
    exact k _ _ (asc_wd _) (by omega)
  have : r0 < 2 := by omega
  match r0, this with
  | 0, _ =>
    rw [show ixF (.l [.p (.str []), .p (.str [45])]) (.p (.int ((0 : Nat) : Int))) = some (.p (.str [])) from v_ixo (l := [.str [], .str [45]]) (k := 0) rfl]
    nofun
    exact main [] rfl (by decide) _ rfl
  | 1, _ =>
    rw [show ixF (.l [.p (.str []), .p (.str [45])]) (.p (.int ((1 : Nat) : Int))) = some (.p (.str [45])) from v_ixo (l := [.str [], .str [45]]) (k := 1) rfl]
    nofun
    exact main [45] rfl (by decide) _ rfl
end C85

end
section
namespace C85
open PL K85 A TX
variable {L n : Nat} {Q : MV → List (Option MV) → Prop} {E : PV → Prop}
theorem v_extU {xs ys : List MV} {l : List PV} (h : unpL ys = some l) (hl : xs.length + l.length ≤ LIM) : mutF .extend xs [.l ys] = some (.p .non, xs ++ l.map MV.p) := by
  show (match unpL ys with
    | some l => if xs.length + l.length ≤ LIM then some (MV.p .non, xs ++ l.map MV.p) else none
    | none => none) = _
  rw [h]
  dsimp only
  rw [if_pos hl]
def odds : List Txt := [[], [45], [47], [49, 47], [47, 50], [45, 48], [48, 47, 49], [48, 47, 51], [48, 48], [48, 49], [45, 48, 49], [50, 47, 52], [49, 48, 47, 52], [45, 51, 47, 54], [51, 47, 51], [49, 47, 49], [49, 47, 48], [48, 47, 48], [45, 47, 50], [45, 45, 49], [49, 47, 45, 50], [45, 49, 47, 45, 50], [43, 49], [49, 46, 53], [32, 49], [49, 32], [49, 10], [10, 49], [49, 47, 50, 47, 51], [49, 95, 48], [49, 47, 48, 50], [49, 32, 47, 50], [78, 111, 110, 101], [97], [49, 101, 49], [48, 120, 49], [48], [45, 49], [49, 47, 50], [45, 49, 48, 47, 51]]
theorem odds_ok : ∀ w ∈ odds, asc w = true ∧ w.length ≤ 20 := by decide
theorem s_ratio_odd (k : Q (own (odds.map PV.str)) []) : (callF T par L (n + 1) 27 []).W Q E := by
  (refine PL.w_def T_law_ratio_odd rfl ?_; unfold b_law_ratio_odd; simp only [List.map_cons, List.map_nil, List.replicate_succ, List.replicate_zero, Nat.sub_self, Nat.reduceSub, List.append_nil, List.cons_append, List.nil_append, PL.lockOf, PL.own, PL.ilist, Nat.reduceAdd])
  (refine PL.w_seq fun P kn => ?_; try nofun)
  (refine kn _ ?_)
  (refine PL.w_seq fun P kn => ?_; try nofun)
  rw [v_extU rfl (by decide)]
  nofun
  (refine kn _ ?_)
  (refine PL.w_seq fun P kn => ?_; try nofun)
  rw [v_extU rfl (by decide)]
  nofun
  (refine kn _ ?_)
  (refine PL.w_seq fun P kn => ?_; try nofun)
  exact k
/-! ### rows -/
def isL (c : Nat) : Bool := decide (97 ≤ c) && decide (c ≤ 101)
theorem isL_or (c : Nat) : (c == 97 || (c == 98 || (c == 99 || (c == 100 || c == 101)))) = isL c := by
  unfold isL
  rw [Bool.eq_iff_iff]
  simp
  omega
theorem isL_of {c : Nat} (h : isL c = true) : 97 ≤ c ∧ c ≤ 101 := by
  unfold isL at h
  simpa using h
def abc : Txt := [97, 98, 99, 100, 101]
theorem abc_idx {c : Nat} (h : isL c = true) : idxC c abc = some (c - 97) := by
  have := isL_of h
  have : c = 97 ∨ c = 98 ∨ c = 99 ∨ c = 100 ∨ c = 101 := by omega
  rcases this with rfl | rfl | rfl | rfl | rfl <;> rfl
theorem abc_get {k : Nat} (h : k < 5) : abc[k]? = some (97 + k) := by
  match k, h with
  | 0, _ => rfl
  | 1, _ => rfl
  | 2, _ => rfl
  | 3, _ => rfl
  | 4, _ => rfl
def rowV (r : List Nat) : PV := .tup false (r.map iv)
def rowW (r : List Nat) : Txt := if r = [] then [45] else r.map (97 + ·)
theorem join_one (r : List Nat) : joinT [] (r.map fun k => [97 + k]) = r.map (97 + ·) := by
  induction r with
  | nil => rfl
  | cons x r ih =>
    cases r with
    | nil => rfl
    | cons y r =>
      show [97 + x] ++ [] ++ joinT [] ((y :: r).map fun k => [97 + k]) = _
      rw [ih]; rfl
theorem fm_gen {α : Type} (s : List α) (f : α → PV) : s.filterMap (fun c => some (MV.p (f c))) = (s.map f).map MV.p := by
  rw [List.map_map]
  induction s with
  | nil => rfl
  | cons x r ih => rw [List.filterMap_cons, ih]; rfl
theorem sum_ones (r : List Nat) : (List.map (fun k => [97 + k]) r |>.map List.length).sum = r.length := by
  induction r with
  | nil => rfl
  | cons x r ih => simp only [List.map_cons, List.sum_cons, List.length_cons, ih, List.length_nil]; omega
theorem joinOk1 {r : List Nat} (h : r.length ≤ 1000) : JoinOk [] (r.map fun k => [97 + k]) := by
  unfold JoinOk
  rw [sum_ones, List.length_map]
  show _ + _ * 0 ≤ _
  unfold LIM
  omega
theorem s_row_text {r : List Nat} (hr : ∀ k ∈ r, k < 5) (hl : r.length ≤ 1000) (k : ∀ a, Q (.p (.str (rowW r))) [a]) : (callF T par L (n + 1) 5 [.p (rowV r)]).W Q E := by
  (refine PL.w_def T_row_text rfl ?_; unfold b_row_text; simp only [List.map_cons, List.map_nil, List.replicate_succ, List.replicate_zero, Nat.sub_self, Nat.reduceSub, List.append_nil, List.cons_append, List.nil_append, PL.lockOf, PL.own, PL.ilist, Nat.reduceAdd])
  unfold rowV
  (refine PL.w_seq fun P kn => ?_; try nofun)
  refine brK_dec (fun h => ?_) (fun h => ?_)
  · (refine PL.w_seq fun Pi km => ?_; try nofun)
    unfold rowW at k
    rw [if_pos (List.eq_nil_of_length_eq_zero (by omega))] at k
    exact k _
  · (refine kn _ ?_)
    (refine PL.w_seq fun P kn => ?_; try nofun)
    refine ⟨by unfold LIM; omega, ?_⟩
    refine W_compM iv r (fun k => some (.p (.str [97 + k]))) (fun k hk => ?_) ?_
    · nofun
      rw [show ixF (.p (.str [97, 98, 99, 100, 101])) (.p (.int (k : Nat))) = _ from v_ixs (abc_get (hr k hk)) (by decide)]
      nofun
    · rw [fm_gen]
      nofun
      rw [show r.map (fun c => PV.str [97 + c]) = (r.map fun k => [97 + k]).map PV.str by rw [List.map_map]; rfl]
      nofun
      rw [join_one]
      unfold rowW at k
      rw [if_neg fun z => h (by rw [z]; rfl)] at k
      exact ⟨joinOk1 hl, k _⟩
/-- the row of a word -/
def rdR (s : Txt) : Option (List Nat) := if s = [45] then some [] else if decide (1 ≤ s.length) && decide (s.length ≤ 40) && s.all isL then some (s.map (· - 97)) else none
def told1 (s : Txt) : PV := match rdR s with
  | some r => valV (rowV r)
  | none => refV (btV 0)
theorem rdR_dash : rdR [45] = some [] := rfl
theorem rdR_no {s : Txt} (h0 : s ≠ [45]) (h : (decide (1 ≤ s.length) && decide (s.length ≤ 40) && s.all isL) = false) : rdR s = none := by
  unfold rdR
  rw [if_neg h0, if_neg (by rw [h]; simp)]
theorem rdR_so {s : Txt} (h0 : s ≠ [45]) (h : (decide (1 ≤ s.length) && decide (s.length ≤ 40) && s.all isL) = true) : rdR s = some (s.map (· - 97)) := by
  unfold rdR
  rw [if_neg h0, if_pos h]
theorem s_read_row {s : Txt} (hs : asc s = true) (hl : s.length ≤ 1000) (k : ∀ r, rdR s = some r → ∀ a, Q (.p (rowV r)) [a]) (ke : rdR s = none → E (btV 0)) : (callF T par L (n + 1) 6 [.p (.str s)]).W Q E := by
  (refine PL.w_def T_read_row rfl ?_; unfold b_read_row; simp only [List.map_cons, List.map_nil, List.replicate_succ, List.replicate_zero, Nat.sub_self, Nat.reduceSub, List.append_nil, List.cons_append, List.nil_append, PL.lockOf, PL.own, PL.ilist, Nat.reduceAdd])
  (refine PL.w_seq fun P kn => ?_; try nofun)
  have bad : (decide (1 ≤ s.length) && decide (s.length ≤ 40) && s.all isL) = false → s ≠ [45] → E (btV 0) := fun h h0 => ke (rdR_no h0 h)
  refine ⟨⟨hs, rfl⟩, brK_dec (fun h => ?_) (fun h => ?_)⟩
  · (refine PL.w_seq fun Pi km => ?_; try nofun)
    subst h
    exact k [] rfl _
  (refine kn _ ?_)
  (refine PL.w_seq fun P kn => ?_; try nofun)
  have rai : E (btV 0) → getK (excArg [112, 108, 97, 99, 101] [MV.p (.int 0)]) fun v => E (.exc [66, 97, 100, 84, 101, 120, 116] [112, 108, 97, 99, 101] v) := fun z => by
    rw [show excArg [112, 108, 97, 99, 101] [MV.p (.int 0)] = _ from bt_arg (p := 0) (by decide)]
    nofun
    exact z
  refine ⟨lenOk (by omega), brK_dec (fun h1 => brK_decN (fun h2 => ?_) (fun h2 => ?_)) (fun h1 => ?_)⟩
  · (refine PL.w_seq fun Pi km => ?_; try nofun)
    exact rai (bad (by rw [decide_eq_false (show ¬ s.length ≤ 40 by omega)]; simp) h)
  · refine ⟨by unfold LIM; omega, ?_⟩
    refine W_compM (fun c => PV.str [c]) s (fun c => some (.p (.bl (isL c)))) (fun c _ => ?_) ?_
    · nofun
      rw [isL_or]
    · rw [fm_bl]
      nofun
      rw [map_all]
      cases hd : s.all isL with
      | false =>
        nofun
        (refine PL.w_seq fun Pi km => ?_; try nofun)
        exact rai (bad (by rw [hd]; simp) h)
      | true =>
        nofun
        (refine kn _ ?_)
        (refine PL.w_seq fun P kn => ?_; try nofun)
        refine ⟨by unfold LIM; omega, ?_⟩
        refine W_compM (fun c => PV.str [c]) s (fun c => some (.p (iv (c - 97)))) (fun c hc => ?_) ?_
        · nofun
          rw [show metF .index (.p (.str [97, 98, 99, 100, 101])) [.p (.str [c])] = _ from v_idx (abc_idx (List.all_eq_true.mp hd c hc))]
          nofun
        · rw [fm_gen]
          nofun
          have := k _ (rdR_so h (by rw [hd, decide_eq_true (show 1 ≤ s.length by omega), decide_eq_true (show s.length ≤ 40 by omega)]; rfl)) (some (.p (.str s)))
          unfold rowV at this
          rw [List.map_map] at this
          exact this
  · (refine PL.w_seq fun Pi km => ?_; try nofun)
    exact rai (bad (by rw [decide_eq_false (show ¬ 1 ≤ s.length by omega)]; simp) h)
theorem s_told1 {w : Txt} (hw : asc w = true) (hwl : w.length ≤ 1000) (k : ∀ a b, Q (.p (told1 w)) [a, b]) : (callF T par L (n + 4) 23 [.p (.int 1), .p (.str w)]).W Q E := by
  (refine PL.w_def T_law_told rfl ?_; unfold b_law_told; simp only [List.map_cons, List.map_nil, List.replicate_succ, List.replicate_zero, Nat.sub_self, Nat.reduceSub, List.append_nil, List.cons_append, List.nil_append, PL.lockOf, PL.own, PL.ilist, Nat.reduceAdd])
  unfold told1 at k
  (refine PL.w_seq fun P kn => ?_; try nofun)
  (refine PL.w_seq fun Pi km => ?_; try nofun)
  refine brK_dec (fun h => absurd h (by decide)) (fun _ => ?_)
  (refine km _ ?_)
  (refine PL.w_seq fun Pi km => ?_; try nofun)
  (refine PL.w_seq fun Pj kj => ?_; try nofun)
  refine s_read_row hw hwl (fun q hq _ => ?_) fun hn => ?_
  · nofun
    rw [hq] at k
    exact k _ _
  · refine told_exc (.inl ⟨0, rfl⟩) fun ε' he => ?_
    nofun
    rw [hn] at k
    obtain ⟨a, b, e⟩ := take2 he
    rw [e]
    exact k _ _
theorem s_row_due {s : Txt} (hs : asc s = true) (hl : s.length ≤ 1000) (k : ∀ a, Q (.p (told1 s)) [a]) : (callF T par L (n + 1) 30 [.p (.str s)]).W Q E := by
  (refine PL.w_def T_law_row_due rfl ?_; unfold b_law_row_due; simp only [List.map_cons, List.map_nil, List.replicate_succ, List.replicate_zero, Nat.sub_self, Nat.reduceSub, List.append_nil, List.cons_append, List.nil_append, PL.lockOf, PL.own, PL.ilist, Nat.reduceAdd])
  unfold told1 at k
  (refine PL.w_seq fun P kn => ?_; try nofun)
  refine ⟨⟨hs, rfl⟩, brK_dec (fun h => ?_) (fun h => ?_)⟩
  · (refine PL.w_seq fun Pi km => ?_; try nofun)
    subst h
    exact k _
  (refine kn _ ?_)
  (refine PL.w_seq fun P kn => ?_; try nofun)
  have bad : (decide (1 ≤ s.length) && decide (s.length ≤ 40) && s.all isL) = false → ∀ a, Q (.p (refV (btV 0))) [a] := fun h0 => by
    rw [rdR_no h h0] at k
    exact k
  refine ⟨lenOk (by omega), brK_dec (fun h1 => ?_) (fun h1 => ⟨lenOk (by omega), brK_dec (fun h2 => ?_) (fun h2 => ?_)⟩)⟩
  · (refine PL.w_seq fun Pi km => ?_; try nofun)
    exact bad (by rw [decide_eq_false (show ¬ 1 ≤ s.length by omega)]; simp) _
  · (refine PL.w_seq fun Pi km => ?_; try nofun)
    exact bad (by rw [decide_eq_false (show ¬ s.length ≤ 40 by omega)]; simp) _
  · refine ⟨by unfold LIM; omega, ?_⟩
    refine W_compM (fun c => PV.str [c]) s (fun c => some (.p (.bl (isL c)))) (fun c _ => ?_) ?_
    · nofun
      rw [isL_or]
    · rw [fm_bl]
      nofun
      rw [map_all]
      cases hd : s.all isL with
      | false =>
        nofun
        (refine PL.w_seq fun Pi km => ?_; try nofun)
        exact bad (by rw [hd]; simp) _
      | true =>
        nofun
        (refine kn _ ?_)
        (refine PL.w_seq fun P kn => ?_; try nofun)
        refine ⟨by unfold LIM; omega, ?_⟩
        refine W_compM (fun c => PV.str [c]) s (fun c => some (.p (iv (c - 97)))) (fun c hc => ?_) ?_
        · nofun
          rw [show metF .index (.p (.str [97, 98, 99, 100, 101])) [.p (.str [c])] = _ from v_idx (abc_idx (List.all_eq_true.mp hd c hc))]
          nofun
        · rw [fm_gen]
          nofun
          have k' : ∀ a, Q (.p (valV (rowV (s.map (· - 97))))) [a] := by
            rw [rdR_so h (by rw [hd, decide_eq_true (show 1 ≤ s.length by omega), decide_eq_true (show s.length ≤ 40 by omega)]; rfl)] at k
            exact k
          unfold rowV at k'
          rw [List.map_map] at k'
          exact k' _
/-- a row of so many members -/
theorem s_kinds_drawn {p : List Int} {m : Nat} (hm : m ≤ 100) (k : ∀ (r : List Nat) (p' : List Int) a, (∀ x ∈ r, x < 5) → r.length = m → Q (.p (rowV r)) [some (ilist p'), a]) : (callF T par L (n + 2) 29 [ilist p, .p (.int (m : Nat))]).W Q E := by
  (refine PL.w_def T_law_kinds_drawn rfl ?_; unfold b_law_kinds_drawn; simp only [List.map_cons, List.map_nil, List.replicate_succ, List.replicate_zero, Nat.sub_self, Nat.reduceSub, List.append_nil, List.cons_append, List.nil_append, PL.lockOf, PL.own, PL.ilist, Nat.reduceAdd])
  (refine PL.w_seq fun P kn => ?_; try nofun)
  (refine kn _ ?_)
  (refine PL.w_seq fun P kn => ?_; try nofun)
  have hdiv : ((m : Int) + 6) / 7 = (((m + 6) / 7 : Nat) : Int) := by omega
  rw [hdiv, Int.toNat_natCast]
  refine ⟨⟨by omega, by decide⟩, small_nat (by omega), ?_⟩
  refine W_rng (fun i ε => ∃ (r : List Nat) (p' : List Int) (q1 q2 q3 : Option MV), (∀ x ∈ r, x < 5) ∧ r.length = 7 * i ∧ ε = [some (ilist p'), some (.p (.int (m : Nat))), some (own (r.map iv)), q1, q2, q3]) ⟨[], p, none, none, none, fun _ z => (nomatch z), rfl, rfl⟩ (fun i ε hi hI => ?_) (fun ε hI => ?_)
  · obtain ⟨r, p', q1, q2, q3, h1, h2, rfl⟩ := hI
    nofun
    (refine PL.w_seq fun Pi km => ?_; try nofun)
    refine s_take (p := p') (b := 78125) (by omega) fun x p2 _ hx => ?_
    nofun
    (refine km _ ?_)
    (refine PL.w_seq fun Pi km => ?_; try nofun)
    refine ⟨rfl, ?_⟩
    refine W_rng (n := 7) (fun j ε => ∃ (r : List Nat) (x : Nat) (q : Option MV), (∀ x ∈ r, x < 5) ∧ r.length = 7 * i + j ∧ ε = [some (ilist p2), some (.p (.int (m : Nat))), some (own (r.map iv)), some (.p (.int (i : Nat))), some (.p (.int (x : Nat))), q]) ⟨r, x, q3, h1, h2, rfl⟩ (fun j ε hj hJ => ?_) (fun ε hJ => ?_)
    · obtain ⟨r, x, q, h1, h2, rfl⟩ := hJ
      nofun
      (refine PL.w_seq fun Pj kj => ?_; try nofun)
      refine ⟨by omega, appOk (by omega), ?_⟩
      (refine kj _ ?_)
      (refine PL.w_seq fun Pj kj => ?_; try nofun)
      refine ⟨⟨by omega, by decide⟩, ?_⟩
      (refine kj _ ?_)
      nofun
      refine ⟨r ++ [x % 5], x / 5, some (.p (.int (j : Nat))), fun y hy => ?_, by simp; omega, ?_⟩
      · rcases List.mem_append.mp hy with hy | hy
        · exact h1 y hy
        · have : y = x % 5 := by simpa using hy
          omega
      · simp [iv_app]
    · obtain ⟨r, x, q, h1, h2, rfl⟩ := hJ
      nofun
      (refine km _ ?_)
      nofun
      exact ⟨r, p2, _, _, _, h1, by omega, rfl⟩
  · obtain ⟨r, p', q1, q2, q3, h1, h2, rfl⟩ := hI
    nofun
    (refine kn _ ?_)
    (refine PL.w_seq fun P kn => ?_; try nofun)
    rw [cut_take, ← List.map_take]
    exact k (r.take m) p' _ (fun x hx => h1 x (List.mem_of_mem_take hx)) (by rw [List.length_take]; omega)
end C85

end
section
namespace C85
open PL K85 A TX
variable {L n : Nat} {Q : MV → List (Option MV) → Prop} {E : PV → Prop}
theorem ivs_good : ∀ (r : List Nat), (∀ x ∈ r, x < 1000000) → okDataL (r.map iv) = true ∧ shwL (r.map iv) = true ∧ depL (r.map iv) = 0 ∧ cstL (r.map iv) = 1923 * r.length
  | [], _ => ⟨rfl, rfl, rfl, rfl⟩
  | x :: r, h => by
    obtain ⟨h1, h2, h3, h4⟩ := ivs_good r fun y hy => h y (List.mem_cons_of_mem _ hy)
    have hx := h x List.mem_cons_self
    have hlog : (x : Int).natAbs.log2 < 1920 := by
      rw [Int.natAbs_natCast, log2_iff (by omega)]
      exact Nat.lt_of_lt_of_le (show x < 2 ^ 20 by omega) (Nat.pow_le_pow_right (by omega) (by omega))
    refine ⟨?_, ?_, ?_, ?_⟩
    · show (true && okDataL (r.map iv)) = true
      rw [h1]; rfl
    · show (decide ((x : Int).natAbs.log2 < 1920) && shwL (r.map iv)) = true
      rw [h2, decide_eq_true hlog]; rfl
    · show max 0 (depL (r.map iv)) = 0
      rw [h3]; rfl
    · show 1921 + 2 + cstL (r.map iv) = _
      rw [h4, List.length_cons]; omega
theorem good_row {r : List Nat} (h : ∀ x ∈ r, x < 1000000) (hl : r.length ≤ 1000) : Good (valV (rowV r)) := by
  obtain ⟨h1, h2, h3, h4⟩ := ivs_good r h
  refine ⟨?_, ?_, ?_, ?_⟩
  · show (true && (okDataL (r.map iv) && true)) = true
    rw [h1]; rfl
  · show (true && (shwL (r.map iv) && true)) = true
    rw [h2]; rfl
  · show max 0 (max (depL (r.map iv) + 1) 0) + 1 ≤ 40
    rw [h3]; decide
  · show (10 * 5 + 2 + 2 + (cstL (r.map iv) + 3 + 2 + 0)) + 3 ≤ LIM
    rw [h4]
    unfold LIM
    omega
theorem good_told1 {s : Txt} (hs : asc s = true) : Good (told1 s) := by
  unfold told1
  cases h : rdR s with
  | none => exact good_place (by decide)
  | some r =>
    unfold rdR at h
    split at h
    · cases h
      exact good_row (fun _ z => nomatch z) (by simp)
    · split at h
      · rename_i hc
        cases h
        simp only [Bool.and_eq_true, decide_eq_true_eq] at hc
        refine good_row (fun x hx => ?_) (by rw [List.length_map]; omega)
        obtain ⟨c, h1, rfl⟩ := List.mem_map.mp hx
        have := isL_of (List.all_eq_true.mp hc.2 c h1)
        omega
      · cases h
theorem asc_rowW {r : List Nat} (h : ∀ x ∈ r, x < 5) : asc (rowW r) = true := by
  unfold rowW
  split
  · rfl
  · refine List.all_eq_true.mpr fun c hc => ?_
    obtain ⟨x, h1, rfl⟩ := List.mem_map.mp hc
    have := h x h1
    simp; omega
theorem rowW_len (r : List Nat) : (rowW r).length ≤ r.length + 1 := by
  unfold rowW
  split
  · simp
  · rw [List.length_map]; omega
def rowSg : Txt := [97, 98, 99, 100, 101, 102, 65, 69, 45, 32, 48, 10]
/-- texts told as is due -/
theorem row_loop {p : List Int} {o1 o2 : Option MV} (ts : List Txt) (ht : ∀ t ∈ ts, asc t = true ∧ t.length ≤ 1000) {QF : Flow → Env → Prop} {o3 : Option MV}
    (k : ∀ o, QF .nx [some (ilist p), o1, o2, o3, o, none]) : (forL (forS ⟨callF T par L (n + 4), L, [0], par⟩ (.nm 4) (.mv 3) (.cons (.ife (.tn (.tv (.call 17 (.cons (.call 23 (.cons (.con (.int 1)) (.cons (.var 4) .nil))) (.cons (.call 30 (.cons (.var 4) .nil)) .nil)))))
 (.cons (.ret (.con (.bl false)))
 .nil)
 .nil)
 .nil)) (ts.map PV.str) [some (ilist p), o1, o2, o3, none, none]).W QF fun e _ => E e := by
  refine W_forM PV.str ts (fun ys ε => ∃ o, ε = [some (ilist p), o1, o2, o3, o, none]) ⟨none, rfl⟩ (fun ys t zs ε e hI => ?_) (fun ε hI => ?_)
  · obtain ⟨o, rfl⟩ := hI
    obtain ⟨h1, h2⟩ := ht t (by rw [e]; simp)
    nofun
    (refine PL.w_seq fun Pi km => ?_; try nofun)
    refine s_told1 h1 h2 fun _ _ => ?_
    nofun
    refine s_row_due h1 h2 fun _ => ?_
    nofun
    refine s_same (good_told1 h1) fun _ _ => ?_
    nofun
    (refine km _ ?_)
    nofun
    exact ⟨_, rfl⟩
  · obtain ⟨o, rfl⟩ := hI
    exact k o
theorem s_row_right {p : List Int} {r : List Nat} (hr : ∀ x ∈ r, x < 5) (hl : r.length ≤ 100) (k : ∀ (p' : List Int) a, Q (.p (.bl true)) [some (ilist p'), a]) : (callF T par L (n + 5) 31 [ilist p, .p (rowV r)]).W Q E := by
  (refine PL.w_def T_law_row_right rfl ?_; unfold b_law_row_right; simp only [List.map_cons, List.map_nil, List.replicate_succ, List.replicate_zero, Nat.sub_self, Nat.reduceSub, List.append_nil, List.cons_append, List.nil_append, PL.lockOf, PL.own, PL.ilist, Nat.reduceAdd])
  have hw := asc_rowW hr
  have hwl := rowW_len r
  have hw2 : asc (rowW r ++ [10]) = true := asc_app hw rfl
  unfold rowV
  (refine PL.w_seq fun P kn => ?_; try nofun)
  (refine kn _ ?_)
  (refine PL.w_seq fun P kn => ?_; try nofun)
  have main : P [some (ilist p), some (.p (.tup false (r.map iv))), some (.p (.str (rowW r))), none, none, none] := by
    (refine kn _ ?_)
    (refine PL.w_seq fun P kn => ?_; try nofun)
    have next : P [some (ilist p), some (.p (.tup false (r.map iv))), some (.p (.str (rowW r))), none, none, none] := by
      (refine kn _ ?_)
      (refine PL.w_seq fun P kn => ?_; try nofun)
      refine ⟨lenOk (by omega), s_bent (p := p) (sg := rowSg) hw (by decide) (by omega) (by decide) (by decide) fun t1 p1 _ _ a1 l1 => ?_⟩
      nofun
      refine s_bent (p := p1) (sg := rowSg) hw (by decide) (by omega) (by decide) (by decide) fun t2 p2 _ _ a2 l2 => ?_
      nofun
      (refine kn _ ?_)
      (refine PL.w_seq fun P kn => ?_; try nofun)
      rw [v_extU rfl (by simp; decide)]
      nofun
      (refine kn _ ?_)
      (refine PL.w_seq fun P kn => ?_; try nofun)
      rw [mvK_l rfl]
      nofun
      refine row_loop [rowW r, rowW r ++ [10], t1, t2, [], [45, 45], [102], [65], [97, 32, 98], [97, 45], [45, 97], [32, 97], [48], [97, 44, 98], [101], [45], rowW r] ?_ fun o => ?_
      · intro t ht
        simp only [List.mem_cons, List.not_mem_nil, or_false] at ht
        rcases ht with rfl | rfl | rfl | rfl | rfl | rfl | rfl | rfl | rfl | rfl | rfl | rfl | rfl | rfl | rfl | rfl | rfl <;> first | exact ⟨hw, by omega⟩ | exact ⟨hw2, by simp; omega⟩ | exact ⟨a1, by omega⟩ | exact ⟨a2, by omega⟩ | exact ⟨rfl, by decide⟩
      · nofun
        (refine kn _ ?_)
        (refine PL.w_seq fun P kn => ?_; try nofun)
        exact k _ _
    refine brK_dec (fun h => ?_) (fun h => ?_)
    · refine s_row_text hr (by omega) fun _ => ?_
      nofun
      refine s_same (good_str hw (by omega)) fun _ _ => ?_
      nofun
      exact next
    · exact next
  refine brK_dec (fun h => ?_) (fun h => ?_)
  · (refine PL.w_seq fun Pi km => ?_; try nofun)
    refine ⟨by unfold LIM; omega, ?_⟩
    refine W_compM iv r (fun k => some (.p (.str [97 + k]))) (fun k hk => ?_) ?_
    · nofun
      rw [show ixF (.p (.str [97, 98, 99, 100, 101])) (.p (.int (k : Nat))) = _ from v_ixs (abc_get (hr k hk)) (by decide)]
      nofun
    · rw [fm_gen]
      nofun
      rw [show r.map (fun c => PV.str [97 + c]) = (r.map fun k => [97 + k]).map PV.str by rw [List.map_map]; rfl]
      nofun
      rw [join_one]
      refine ⟨joinOk1 (by omega), ?_⟩
      (refine km _ ?_)
      nofun
      have e : r.map (97 + ·) = rowW r := by
        unfold rowW
        rw [if_neg fun z => by rw [z] at h; simp at h]
      rw [e]
      exact main
  · have e : r = [] := List.eq_nil_of_length_eq_zero (by omega)
    subst e
    exact main
end C85

end
section
namespace C85
open PL K85 A TX
variable {L n : Nat} {Q : MV → List (Option MV) → Prop} {E : PV → Prop}
def off : List Txt → Nat
  | [] => 0
  | w :: ws => w.length + 1 + off ws
def wordsV : List Txt → Nat → List PV
  | [], _ => []
  | w :: ws, i => .tup false [.str w, iv i] :: wordsV ws (i + w.length + 1)
def lineV (l : Txt) (s : Nat) : PV := .tup false [iv s, .fls (wordsV (splitC 32 l) s), iv (s + l.length)]
def linesV : List Txt → Nat → List PV
  | [], _ => []
  | l :: ls, s => lineV l s :: linesV ls (s + l.length + 1)
theorem off_app (a b : List Txt) : off (a ++ b) = off a + off b := by
  induction a with
  | nil => simp [off]
  | cons x r ih => simp only [List.cons_append, off, ih]; omega
theorem words_app (a b : List Txt) (i : Nat) : wordsV (a ++ b) i = wordsV a i ++ wordsV b (i + off a) := by
  induction a generalizing i with
  | nil => simp [wordsV, off]
  | cons x r ih =>
    simp only [List.cons_append, wordsV, off, ih]
    rw [show i + x.length + 1 + off r = i + (x.length + 1 + off r) by omega]
theorem lines_app (a b : List Txt) (i : Nat) : linesV (a ++ b) i = linesV a i ++ linesV b (i + off a) := by
  induction a generalizing i with
  | nil => simp [linesV, off]
  | cons x r ih =>
    simp only [List.cons_append, linesV, off, ih]
    rw [show i + x.length + 1 + off r = i + (x.length + 1 + off r) by omega]
theorem words_len (a : List Txt) (i : Nat) : (wordsV a i).length = a.length := by
  induction a generalizing i with
  | nil => rfl
  | cons x r ih => simp only [wordsV, List.length_cons, ih]
theorem lines_len (a : List Txt) (i : Nat) : (linesV a i).length = a.length := by
  induction a generalizing i with
  | nil => rfl
  | cons x r ih => simp only [linesV, List.length_cons, ih]
theorem off_split (c : Nat) (s : Txt) : off (splitC c s) = s.length + 1 := by
  induction s with
  | nil => rfl
  | cons x r ih =>
    unfold splitC
    by_cases h : x = c
    · rw [if_pos h]
      show 0 + 1 + off (splitC c r) = _
      rw [ih, List.length_cons]; omega
    · rw [if_neg h]
      cases hr : splitC c r with
      | nil => exact absurd hr (split_ne _)
      | cons w ws =>
        rw [hr] at ih
        simp only [off, List.length_cons] at ih ⊢
        omega
theorem off_le {a b : List Txt} : off a ≤ off (a ++ b) := by rw [off_app]; omega
theorem s_lines_of {t : Txt} (hl : t.length ≤ 20000) (k : ∀ a, Q (own (linesV (splitC 10 t) 0)) [a]) : (callF T par L (n + 1) 9 [.p (.str t)]).W Q E := by
  (refine PL.w_def T_lines_of rfl ?_; unfold b_lines_of; simp only [List.map_cons, List.map_nil, List.replicate_succ, List.replicate_zero, Nat.sub_self, Nat.reduceSub, List.append_nil, List.cons_append, List.nil_append, PL.lockOf, PL.own, PL.ilist, Nat.reduceAdd])
  have h10 := split_len (c := 10) t
  have o10 := off_split 10 t
  (refine PL.w_seq fun P kn => ?_; try nofun)
  (refine kn _ ?_)
  (refine PL.w_seq fun P kn => ?_; try nofun)
  (refine kn _ ?_)
  (refine PL.w_seq fun P kn => ?_; try nofun)
  refine ⟨lenOk (by omega), ?_⟩
  refine W_forM PV.str (splitC 10 t) (fun ys ε => ∃ q1 q2 q3 q4, ε = [some (.p (.str t)), some (own (linesV ys 0)), some (.p (iv (off ys))), q1, q2, q3, q4]) ⟨none, none, none, none, rfl⟩ (fun ys l zs ε he hI => ?_) (fun ε hI => ?_)
  · obtain ⟨q1, q2, q3, q4, rfl⟩ := hI
    have hlm := split_mem (c := 10) (s := t) (p := l) (by rw [he]; simp)
    have hys : ys.length + zs.length + 1 ≤ 20001 := by
      have := congrArg List.length he
      rw [List.length_append, List.length_cons] at this
      omega
    have h32 := split_len (c := 32) l
    nofun
    (refine PL.w_seq fun Pi km => ?_; try nofun)
    (refine km _ ?_)
    (refine PL.w_seq fun Pi km => ?_; try nofun)
    (refine km _ ?_)
    (refine PL.w_seq fun Pi km => ?_; try nofun)
    refine ⟨lenOk (by omega), ?_⟩
    refine W_forM PV.str (splitC 32 l) (fun us ε => ∃ q, ε = [some (.p (.str t)), some (own (linesV ys 0)), some (.p (iv (off ys))), some (.p (.str l)), some (own (wordsV us (off ys))), some (.p (iv (off ys + off us))), q]) ⟨q4, rfl⟩ (fun us w vs ε he2 hI => ?_) (fun ε hI => ?_)
    · obtain ⟨q, rfl⟩ := hI
      have hwm := split_mem (c := 32) (s := l) (p := w) (by rw [he2]; simp)
      have hus : us.length + vs.length + 1 ≤ 20001 := by
        have := congrArg List.length he2
        rw [List.length_append, List.length_cons] at this
        omega
      nofun
      (refine PL.w_seq fun Pj kj => ?_; try nofun)
      refine ⟨appOk (by rw [words_len]; omega), ?_⟩
      (refine kj _ ?_)
      (refine PL.w_seq fun Pj kj => ?_; try nofun)
      refine ⟨lenOk (by omega), ?_⟩
      (refine kj _ ?_)
      nofun
      refine ⟨some (.p (.str w)), ?_⟩
      rw [words_app, off_app]
      simp [wordsV, off, iv_app]
      omega
    · obtain ⟨q, rfl⟩ := hI
      nofun
      (refine km _ ?_)
      (refine PL.w_seq fun Pi km => ?_; try nofun)
      refine ⟨lenOk (by omega), appOk (by rw [lines_len]; omega), ?_⟩
      (refine km _ ?_)
      (refine PL.w_seq fun Pi km => ?_; try nofun)
      refine ⟨lenOk (by omega), ?_⟩
      (refine km _ ?_)
      nofun
      refine ⟨some (.p (.str l)), some (.p (.fls (wordsV (splitC 32 l) (off ys)))), some (.p (iv (off ys + off (splitC 32 l)))), q, ?_⟩
      rw [lines_app, off_app]
      simp [linesV, lineV, off, iv_app]
      omega
  · obtain ⟨q1, q2, q3, q4, rfl⟩ := hI
    nofun
    (refine kn _ ?_)
    (refine PL.w_seq fun P kn => ?_; try nofun)
    exact k _
/-! ### entries -/
def txCome : Txt := [99, 111, 109, 101]
def txLeave : Txt := [108, 101, 97, 118, 101]
abbrev Ent := Bool × Nat
def entV (e : Ent) : PV := .tup false [.str (if e.1 then txCome else txLeave), iv e.2]
def comeB (w : Txt) : Bool := match w with
  | [a, b] => a == 43 && isL b
  | _ => false
def entOf (w : Txt) : Option Ent := match w with
  | [43, b] => if isL b then some (true, b - 97) else none
  | 45 :: r => if figM r 3 then some (false, valT r) else none
  | _ => none
theorem comeB_two {a b : Nat} : comeB [a, b] = (a == 43 && isL b) := rfl
theorem ent_come {b : Nat} (h : isL b = true) : entOf [43, b] = some (true, b - 97) := by
  unfold entOf
  simp [h]
theorem ent_leave {r : Txt} (h : figM r 3 = true) : entOf (45 :: r) = some (false, valT r) := by
  unfold entOf
  simp [h]
theorem ent_none {w : Txt} (h1 : comeB w = false) (h2 : sgn w = false ∨ figM w.tail 3 = false) : entOf w = none := by
  unfold entOf
  split
  · rename_i b
    rw [comeB_two] at h1
    simp at h1
    simp [h1]
  · rename_i r
    rcases h2 with h2 | h2
    · simp [sgn] at h2
    · simp at h2
      simp [h2]
  · rfl
theorem v_ixs0 {a : Nat} {s : Txt} (hl : s.length ≤ 100000) : ixF (.p (.str (a :: s))) (.p (.int 0)) = some (.p (.str [a])) := v_ixs (s := a :: s) (k := 0) rfl (by rw [List.length_cons]; unfold LIM; omega)
theorem v_ixs1 {a b : Nat} {s : Txt} (hl : s.length ≤ 100000) : ixF (.p (.str (a :: b :: s))) (.p (.int 1)) = some (.p (.str [b])) := v_ixs (s := a :: b :: s) (k := 1) rfl (by rw [List.length_cons, List.length_cons]; unfold LIM; omega)
theorem one_eq (a b : Nat) : decide (([a] : Txt) = [b]) = (a == b) := by rw [Bool.eq_iff_iff]; simp
theorem asc_two {a : Nat} {s : Txt} (h : asc (a :: s) = true) : asc [a] = true := asc_one (i := 0) h rfl
theorem drop1 (w : Txt) : w.drop 1 = w.tail := by cases w <;> rfl
theorem val_int {r : Txt} (h : figM r 3 = true) : r.length ≤ 3 ∧ figB r = true ∧ r.all isDig = true := by
  unfold figM at h
  rw [Bool.and_eq_true, decide_eq_true_eq] at h
  exact ⟨h.1, h.2, (fig_parts h.2).2.1⟩
theorem come_cases (w : Txt) : (∃ a b, w = [a, b]) ∨ (w.length ≠ 2 ∧ comeB w = false) := by
  match w with
  | [] => exact .inr ⟨by simp, rfl⟩
  | [a] => exact .inr ⟨by simp, rfl⟩
  | [a, b] => exact .inl ⟨a, b, rfl⟩
  | a :: b :: c :: r => exact .inr ⟨by simp, rfl⟩
def optE : Option Ent → PV
  | none => .non
  | some e => entV e
theorem leave_eq {w : Txt} (hs : sgn w = true) (hf : figM w.tail 3 = true) : entOf w = some (false, valT w.tail) := by
  have hb : w = 45 :: w.tail := by
    have := bod_sgn hs
    unfold bod at this
    rw [hs] at this
    exact this
  exact (congrArg entOf hb).trans (ent_leave hf)
theorem come_eq {a b : Nat} (h : comeB [a, b] = true) : a = 43 ∧ isL b = true ∧ entOf [a, b] = some (true, b - 97) := by
  rw [comeB_two, Bool.and_eq_true, beq_iff_eq] at h
  obtain ⟨rfl, h⟩ := h
  exact ⟨rfl, h, ent_come h⟩
theorem s_entry_due {w : Txt} (hw : asc w = true) (hl : w.length ≤ 1000) (k : ∀ a, Q (.p (optE (entOf w))) [a]) : (callF T par L (n + 2) 32 [.p (.str w)]).W Q E := by
  (refine PL.w_def T_law_entry_due rfl ?_; unfold b_law_entry_due; simp only [List.map_cons, List.map_nil, List.replicate_succ, List.replicate_zero, Nat.sub_self, Nat.reduceSub, List.append_nil, List.cons_append, List.nil_append, PL.lockOf, PL.own, PL.ilist, Nat.reduceAdd])
  have tl : w.tail.length ≤ w.length := by rw [List.length_tail]; omega
  have ta : asc w.tail = true := asc_of hw fun c hc => List.mem_of_mem_tail hc
  (refine PL.w_seq fun P kn => ?_; try nofun)
  have next : comeB w = false → P [some (.p (.str w))] := fun hc => by
    (refine kn _ ?_)
    (refine PL.w_seq fun P kn => ?_; try nofun)
    rw [cut_1, sgn_take]
    refine ⟨lenOk (by omega), ⟨asc_take hw 1, rfl⟩, ?_⟩
    cases hs : sgn w with
    | false =>
      nofun
      (refine kn _ ?_)
      (refine PL.w_seq fun P kn => ?_; try nofun)
      rw [ent_none hc (.inl hs)] at k
      exact k _
    | true =>
      nofun
      rw [cut_t, drop1]
      refine ⟨lenOk (by omega), ?_⟩
      refine s_law_figures (m := 3) (by omega) ta fun _ _ => ?_
      nofun
      cases hf : figM w.tail 3 with
      | false =>
        nofun
        (refine kn _ ?_)
        (refine PL.w_seq fun P kn => ?_; try nofun)
        rw [ent_none hc (.inr hf)] at k
        exact k _
      | true =>
        obtain ⟨g1, g2, g3⟩ := val_int hf
        nofun
        (refine PL.w_seq fun Pi km => ?_; try nofun)
        rw [cut_t, drop1]
        refine ⟨lenOk (by omega), s_law_number (by omega) g3 fun _ => ?_⟩
        nofun
        rw [leave_eq hs hf] at k
        exact k _
  refine ⟨lenOk (by omega), brK_dec (fun h => ?_) (fun h => ?_)⟩
  · rcases come_cases w with ⟨a, b, rfl⟩ | ⟨h2, _⟩
    · rw [v_ixs0 (by simp)]
      nofun
      rw [one_eq]
      refine ⟨⟨asc_two hw, rfl⟩, ?_⟩
      cases h1 : a == 43 with
      | false =>
        nofun
        exact next (by rw [comeB_two, h1]; rfl)
      | true =>
        nofun
        rw [v_ixs1 (by decide)]
        nofun
        rw [isL_or]
        cases h2 : isL b with
        | false =>
          nofun
          exact next (by rw [comeB_two, h2]; simp)
        | true =>
          nofun
          (refine PL.w_seq fun Pi km => ?_; try nofun)
          rw [v_ixs1 (by decide)]
          nofun
          rw [show metF .index (.p (.str [97, 98, 99, 100, 101])) [.p (.str [b])] = _ from v_idx (abc_idx h2)]
          nofun
          rw [(come_eq (a := a) (b := b) (by rw [comeB_two, h1, h2]; rfl)).2.2] at k
          exact k _
    · exact absurd (by omega) h2
  · rcases come_cases w with ⟨a, b, rfl⟩ | ⟨_, h2⟩
    · exact absurd rfl h
    · exact next h2
theorem s_read_entry {w : Txt} {i : Nat} (hw : asc w = true) (hl : w.length ≤ 1000) (hi : i.log2 < 1000) (k : ∀ e, entOf w = some e → ∀ a b, Q (.p (entV e)) [a, b]) (ke : entOf w = none → E (btV i)) : (callF T par L (n + 2) 10 [.p (.str w), .p (.int (i : Nat))]).W Q E := by
  (refine PL.w_def T_read_entry rfl ?_; unfold b_read_entry; simp only [List.map_cons, List.map_nil, List.replicate_succ, List.replicate_zero, Nat.sub_self, Nat.reduceSub, List.append_nil, List.cons_append, List.nil_append, PL.lockOf, PL.own, PL.ilist, Nat.reduceAdd])
  have tl : w.tail.length ≤ w.length := by rw [List.length_tail]; omega
  have ta : asc w.tail = true := asc_of hw fun c hc => List.mem_of_mem_tail hc
  (refine PL.w_seq fun P kn => ?_; try nofun)
  have next : comeB w = false → P [some (.p (.str w)), some (.p (.int (i : Nat)))] := fun hc => by
    (refine kn _ ?_)
    (refine PL.w_seq fun P kn => ?_; try nofun)
    rw [cut_1, sgn_take]
    refine ⟨lenOk (by omega), ⟨asc_take hw 1, rfl⟩, ?_⟩
    cases hs : sgn w with
    | false =>
      nofun
      (refine kn _ ?_)
      (refine PL.w_seq fun P kn => ?_; try nofun)
      rw [show excArg [112, 108, 97, 99, 101] [MV.p (.int (i : Nat))] = _ from bt_arg hi]
      nofun
      exact ke (ent_none hc (.inl hs))
    | true =>
      nofun
      rw [cut_t, drop1]
      refine ⟨lenOk (by omega), ?_⟩
      refine s_is_figures (m := 3) (by omega) ta fun _ _ => ?_
      nofun
      cases hf : figM w.tail 3 with
      | false =>
        nofun
        (refine kn _ ?_)
        (refine PL.w_seq fun P kn => ?_; try nofun)
        rw [show excArg [112, 108, 97, 99, 101] [MV.p (.int (i : Nat))] = _ from bt_arg hi]
        nofun
        exact ke (ent_none hc (.inr hf))
      | true =>
        obtain ⟨g1, g2, g3⟩ := val_int hf
        nofun
        (refine PL.w_seq fun Pi km => ?_; try nofun)
        rw [cut_t, drop1]
        refine ⟨lenOk (by omega), digOk g2 (by omega), ?_⟩
        exact k _ (leave_eq hs hf) _ _
  refine ⟨lenOk (by omega), brK_dec (fun h => ?_) (fun h => ?_)⟩
  · rcases come_cases w with ⟨a, b, rfl⟩ | ⟨h2, _⟩
    · rw [v_ixs0 (by simp)]
      nofun
      rw [one_eq]
      refine ⟨⟨asc_two hw, rfl⟩, ?_⟩
      cases h1 : a == 43 with
      | false =>
        nofun
        exact next (by rw [comeB_two, h1]; rfl)
      | true =>
        nofun
        rw [v_ixs1 (by decide)]
        nofun
        rw [isL_or]
        cases h2 : isL b with
        | false =>
          nofun
          exact next (by rw [comeB_two, h2]; simp)
        | true =>
          nofun
          (refine PL.w_seq fun Pi km => ?_; try nofun)
          rw [v_ixs1 (by decide)]
          nofun
          rw [show metF .index (.p (.str [97, 98, 99, 100, 101])) [.p (.str [b])] = _ from v_idx (abc_idx h2)]
          nofun
          exact k _ (come_eq (a := a) (b := b) (by rw [comeB_two, h1, h2]; rfl)).2.2 _ _
    · exact absurd (by omega) h2
  · rcases come_cases w with ⟨a, b, rfl⟩ | ⟨_, h2⟩
    · exact absurd rfl h
    · exact next h2
end C85

end
section
namespace C85
open PL K85 A TX
variable {L n : Nat} {Q : MV → List (Option MV) → Prop} {E : PV → Prop}
def pW : List Txt → Nat → Sum Nat (List Ent)
  | [], _ => .inr []
  | w :: ws, i => match entOf w with
    | none => .inl i
    | some e => match pW ws (i + w.length + 1) with
      | .inl p => .inl p
      | .inr es => .inr (e :: es)
def entsOf : List Txt → Option (List Ent)
  | [] => some []
  | w :: ws => match entOf w, entsOf ws with
    | some e, some es => some (e :: es)
    | _, _ => none
theorem ents_snoc {us : List Txt} {es : List Ent} {w : Txt} {e : Ent} (h : entsOf us = some es) (hw : entOf w = some e) : entsOf (us ++ [w]) = some (es ++ [e]) := by
  induction us generalizing es with
  | nil => cases h; simp [entsOf, hw]
  | cons x r ih =>
    unfold entsOf at h
    cases hx : entOf x with
    | none => rw [hx] at h; cases h
    | some f =>
      cases hr : entsOf r with
      | none => rw [hx, hr] at h; cases h
      | some fs =>
        rw [hx, hr] at h
        cases h
        show (match entOf x, entsOf (r ++ [w]) with
          | some e, some es => some (e :: es)
          | _, _ => none) = _
        rw [hx, ih hr]; rfl
theorem pW_app {us vs : List Txt} {es : List Ent} {i : Nat} (h : entsOf us = some es) : pW (us ++ vs) i = match pW vs (i + off us) with
    | .inl p => .inl p
    | .inr es' => .inr (es ++ es') := by
  induction us generalizing es i with
  | nil =>
    cases h
    show pW vs i = _
    rw [show i + off [] = i from rfl]
    cases pW vs i <;> rfl
  | cons x r ih =>
    unfold entsOf at h
    cases hx : entOf x with
    | none => rw [hx] at h; cases h
    | some f =>
      cases hr : entsOf r with
      | none => rw [hx, hr] at h; cases h
      | some fs =>
        rw [hx, hr] at h
        cases h
        show (match entOf x with
          | none => Sum.inl i
          | some e => match pW (r ++ vs) (i + x.length + 1) with
            | .inl p => .inl p
            | .inr es => .inr (e :: es)) = _
        rw [hx]
        dsimp only
        rw [ih hr, show i + x.length + 1 + off r = i + off (x :: r) by simp only [off]; omega]
        cases pW vs (i + off (x :: r)) <;> rfl
theorem pW_bad {us vs : List Txt} {w : Txt} {es : List Ent} (h : entsOf us = some es) (hw : entOf w = none) : pW (us ++ w :: vs) 0 = .inl (off us) := by
  rw [pW_app h]
  have : pW (w :: vs) (0 + off us) = .inl (off us) := by
    unfold pW
    rw [hw, Nat.zero_add]
  rw [this]
theorem pW_end {us : List Txt} {es : List Ent} (h : entsOf us = some es) : pW us 0 = .inr es := by
  have := pW_app (vs := []) (i := 0) h
  rw [List.append_nil] at this
  rw [this]
  show Sum.inr (es ++ []) = _
  rw [List.append_nil]
def txLog : Txt := [108, 111, 103]
def logR (t : Txt) : Sum PV (List Ent) := if t = [46] then .inr [] else match splitC 10 t with
  | [] => .inr []
  | l :: ls => match pW (splitC 32 l) 0 with
    | .inl p => .inl (btV p)
    | .inr es => if ls ≠ [] then .inl (btV l.length) else if 16 < es.length then .inl (bvV txLog) else .inr es
def logV (es : List Ent) : PV := .tup false (es.map entV)
theorem ents_len {us : List Txt} {es : List Ent} (h : entsOf us = some es) : es.length = us.length := by
  induction us generalizing es with
  | nil => cases h; rfl
  | cons x r ih =>
    unfold entsOf at h
    cases hx : entOf x with
    | none => rw [hx] at h; cases h
    | some f =>
      cases hr : entsOf r with
      | none => rw [hx, hr] at h; cases h
      | some fs =>
        rw [hx, hr] at h
        cases h
        rw [List.length_cons, List.length_cons, ih hr]
theorem bv_arg {s : Txt} (h : s.length ≤ 1000) : excArg txWhat [MV.p (.str s)] = some (.str s) := by
  unfold excArg
  exact if_pos ⟨rfl, h⟩
theorem s_read_log {t : Txt} (ht : asc t = true) (hl : t.length ≤ 1000) (k : ∀ es, logR t = .inr es → ∀ a, Q (.p (logV es)) [a]) (ke : ∀ e, logR t = .inl e → E e) : (callF T par L (n + 3) 11 [.p (.str t)]).W Q E := by
  (refine PL.w_def T_read_log rfl ?_; unfold b_read_log; simp only [List.map_cons, List.map_nil, List.replicate_succ, List.replicate_zero, Nat.sub_self, Nat.reduceSub, List.append_nil, List.cons_append, List.nil_append, PL.lockOf, PL.own, PL.ilist, Nat.reduceAdd])
  (refine PL.w_seq fun P kn => ?_; try nofun)
  refine ⟨⟨ht, rfl⟩, brK_dec (fun h => ?_) (fun h => ?_)⟩
  · (refine PL.w_seq fun Pi km => ?_; try nofun)
    exact k [] (by unfold logR; rw [if_pos h]) _
  obtain ⟨l, ls, hs⟩ : ∃ l ls, splitC 10 t = l :: ls := by
    cases hq : splitC 10 t with
    | nil => exact absurd hq (split_ne _)
    | cons l ls => exact ⟨l, ls, rfl⟩
  have hR : logR t = match pW (splitC 32 l) 0 with
    | .inl p => .inl (btV p)
    | .inr es => if ls ≠ [] then .inl (btV l.length) else if 16 < es.length then .inl (bvV txLog) else .inr es := by
    unfold logR
    rw [if_neg h, hs]
  have hlm := split_mem (c := 10) (s := t) (p := l) (by rw [hs]; simp)
  have hla : asc l = true := asc_of ht hlm.2
  have h32 := split_len (c := 32) l
  have o32 := off_split 32 l
  (refine kn _ ?_)
  (refine PL.w_seq fun P kn => ?_; try nofun)
  (refine kn _ ?_)
  (refine PL.w_seq fun P kn => ?_; try nofun)
  refine s_lines_of (by omega) fun _ => ?_
  rw [hs]
  nofun
  refine W_for (fun rest ε => (rest = linesV (l :: ls) 0 ∧ ε = [some (.p (.str t)), some (own []), none, none, none]) ∨ ∃ es q1 q2 q3, rest = linesV ls (l.length + 1) ∧ pW (splitC 32 l) 0 = .inr es ∧ es.length ≤ 1001 ∧ ε = [some (.p (.str t)), some (own (es.map entV)), q1, q2, q3]) (fun x rest ε hI => ?_) (fun ε hI => ?_) _ _ (.inl ⟨rfl, rfl⟩)
  · rcases hI with ⟨h1, rfl⟩ | ⟨es, q1, q2, q3, h1, h2, h2l, rfl⟩
    · obtain ⟨rfl, rfl⟩ := List.cons.inj h1
      unfold lineV
      nofun
      (refine PL.w_seq fun Pi km => ?_; try nofun)
      refine brK_dec (fun h => absurd h (by decide)) (fun _ => ?_)
      (refine km _ ?_)
      (refine PL.w_seq fun Pi km => ?_; try nofun)
      refine W_for (fun rest ε => ∃ us vs es q3 q4, splitC 32 l = us ++ vs ∧ rest = wordsV vs (off us) ∧ entsOf us = some es ∧ ε = [some (.p (.str t)), some (own (es.map entV)), some (.p (lineV l 0)), q3, q4]) (fun x rest ε hI => ?_) (fun ε hI => ?_) _ _ ⟨[], splitC 32 l, [], none, none, rfl, rfl, rfl, rfl⟩
      · obtain ⟨us, vs, es, q3, q4, e1, e2, e3, rfl⟩ := hI
        cases vs with
        | nil => cases e2
        | cons w vs =>
          obtain ⟨rfl, rfl⟩ := List.cons.inj e2
          have hwm := split_mem (c := 32) (s := l) (p := w) (by rw [e1]; simp)
          have hwa : asc w = true := asc_of hla hwm.2
          have hel := ents_len e3
          have hul : us.length + vs.length + 1 ≤ 1001 := by
            have := congrArg List.length e1
            rw [List.length_append, List.length_cons] at this
            omega
          have hol : off us ≤ 1001 := by
            have := congrArg off e1
            rw [off_app] at this
            omega
          nofun
          (refine PL.w_seq fun Pj kj => ?_; try nofun)
          refine s_read_entry hwa (by omega) (bt_small (by omega)) (fun e he _ _ => ?_) fun he => ?_
          · nofun
            refine ⟨appOk (by omega), ?_⟩
            (refine kj _ ?_)
            nofun
            refine ⟨us ++ [w], vs, es ++ [e], some (.p (.str w)), some (.p (iv (off us))), by rw [e1]; simp, ?_, ents_snoc e3 he, ?_⟩
            · rw [off_app]
              simp only [off]
              rw [show off us + (w.length + 1 + 0) = off us + w.length + 1 by omega]
            · simp [iv_app]
          · refine ke _ ?_
            rw [hR, e1, pW_bad e3 he]
      · obtain ⟨us, vs, es, q3, q4, e1, e2, e3, rfl⟩ := hI
        have : vs = [] := by
          cases vs with
          | nil => rfl
          | cons w vs => cases e2
        subst this
        rw [List.append_nil] at e1
        have hel := ents_len e3
        nofun
        (refine km _ ?_)
        nofun
        refine .inr ⟨es, some (.p (lineV l 0)), q3, q4, ?_, by rw [e1]; exact pW_end e3, ?_, rfl⟩
        · rw [Nat.zero_add]
        · rw [hel, ← e1]; omega
    · cases ls with
      | nil => cases h1
      | cons l2 ls =>
        obtain ⟨rfl, rfl⟩ := List.cons.inj h1
        unfold lineV
        nofun
        (refine PL.w_seq fun Pi km => ?_; try nofun)
        refine brK_dec (fun _ => ?_) (fun h => absurd (by omega) h)
        (refine PL.w_seq fun Pj kj => ?_; try nofun)
        rw [show (((l.length + 1 : Nat) : Int) - 1) = ((l.length : Nat) : Int) by omega]
        rw [show excArg [112, 108, 97, 99, 101] [MV.p (.int (l.length : Nat))] = _ from bt_arg (bt_small (by omega))]
        nofun
        refine ke _ ?_
        rw [hR, h2]
        simp
        rfl
  · rcases hI with ⟨h1, rfl⟩ | ⟨es, q1, q2, q3, h1, h2, h2l, rfl⟩
    · cases h1
    · have : ls = [] := by
        cases ls with
        | nil => rfl
        | cons w vs => cases h1
      subst this
      nofun
      (refine kn _ ?_)
      (refine PL.w_seq fun P kn => ?_; try nofun)
      refine brK_dec (fun h3 => ?_) (fun h3 => ?_)
      · (refine PL.w_seq fun Pi km => ?_; try nofun)
        rw [show excArg [119, 104, 97, 116] [MV.p (.str [108, 111, 103])] = some (.str [108, 111, 103]) from bv_arg (by decide)]
        nofun
        refine ke _ ?_
        rw [hR, h2]
        simp
        rw [if_pos (by omega)]
        rfl
      · (refine kn _ ?_)
        (refine PL.w_seq fun P kn => ?_; try nofun)
        refine k es ?_ _
        rw [hR, h2]
        simp
        omega
end C85

end
section
namespace C85
open PL K85 A TX
variable {L n : Nat} {Q : MV → List (Option MV) → Prop} {E : PV → Prop}
def told2 (t : Txt) : PV := match logR t with
  | .inl e => refV e
  | .inr es => valV (logV es)
theorem part_head (c : Nat) (t : Txt) : ∃ l ls r, splitC c t = l :: ls ∧ partV c t = .tup false (.str l :: r) ∧ (l.length < t.length ↔ ls ≠ []) ∧ l.length ≤ t.length := by
  unfold partV
  cases hp : partC c t with
  | none =>
    obtain ⟨_, h2⟩ := part_none hp
    exact ⟨t, [], _, h2, rfl, by simp, Nat.le_refl _⟩
  | some q =>
    obtain ⟨a, b⟩ := q
    obtain ⟨h1, _, h3⟩ := part_some hp
    have hl : t.length = a.length + (b.length + 1) := by rw [h1, List.length_append, List.length_cons]
    exact ⟨a, splitC c b, _, h3, rfl, ⟨fun _ => split_ne _, fun _ => by omega⟩, by omega⟩
theorem s_log_due {t : Txt} (ht : asc t = true) (hl : t.length ≤ 1000) (k : ∀ a, Q (.p (told2 t)) [a]) : (callF T par L (n + 3) 33 [.p (.str t)]).W Q E := by
  (refine PL.w_def T_law_log_due rfl ?_; unfold b_law_log_due; simp only [List.map_cons, List.map_nil, List.replicate_succ, List.replicate_zero, Nat.sub_self, Nat.reduceSub, List.append_nil, List.cons_append, List.nil_append, PL.lockOf, PL.own, PL.ilist, Nat.reduceAdd])
  (refine PL.w_seq fun P kn => ?_; try nofun)
  refine ⟨⟨ht, rfl⟩, brK_dec (fun h => ?_) (fun h => ?_)⟩
  · (refine PL.w_seq fun Pi km => ?_; try nofun)
    have e : told2 t = valV (logV []) := by
      unfold told2 logR
      rw [if_pos h]
    rw [e] at k
    exact k _
  obtain ⟨l, ls, r, hs, hp, hlt, hle⟩ := part_head 10 t
  have hR : logR t = match pW (splitC 32 l) 0 with
    | .inl p => .inl (btV p)
    | .inr es => if ls ≠ [] then .inl (btV l.length) else if 16 < es.length then .inl (bvV txLog) else .inr es := by
    unfold logR
    rw [if_neg h, hs]
    all_goals rfl
  have hlm := split_mem (c := 10) (s := t) (p := l) (by rw [hs]; simp)
  have hla : asc l = true := asc_of ht hlm.2
  have h32 := split_len (c := 32) l
  have o32 := off_split 32 l
  (refine kn _ ?_)
  (refine PL.w_seq fun P kn => ?_; try nofun)
  rw [hp]
  nofun
  refine ⟨lenOk (by omega), ?_⟩
  (refine kn _ ?_)
  (refine PL.w_seq fun P kn => ?_; try nofun)
  (refine kn _ ?_)
  (refine PL.w_seq fun P kn => ?_; try nofun)
  (refine kn _ ?_)
  (refine PL.w_seq fun P kn => ?_; try nofun)
  refine ⟨lenOk (by omega), ?_⟩
  refine W_for (fun rest ε => ∃ us vs es q4 q5, splitC 32 l = us ++ vs ∧ rest = vs.map PV.str ∧ entsOf us = some es ∧ ε = [some (.p (.str t)), some (.p (.str l)), some (own (es.map entV)), some (.p (iv (off us))), q4, q5]) (fun x rest ε hI => ?_) (fun ε hI => ?_) _ _ ⟨[], splitC 32 l, [], none, none, rfl, rfl, rfl, rfl⟩
  · obtain ⟨us, vs, es, q4, q5, e1, e2, e3, rfl⟩ := hI
    cases vs with
    | nil => cases e2
    | cons w vs =>
      obtain ⟨rfl, rfl⟩ := List.cons.inj e2
      have hwm := split_mem (c := 32) (s := l) (p := w) (by rw [e1]; simp)
      have hwa : asc w = true := asc_of hla hwm.2
      have hel := ents_len e3
      have hul : us.length + vs.length + 1 ≤ 1001 := by
        have := congrArg List.length e1
        rw [List.length_append, List.length_cons] at this
        omega
      nofun
      (refine PL.w_seq fun Pi km => ?_; try nofun)
      refine s_entry_due hwa (by omega) fun _ => ?_
      nofun
      (refine km _ ?_)
      (refine PL.w_seq fun Pi km => ?_; try nofun)
      cases he : entOf w with
      | none =>
        show brK true _ _
        nofun
        (refine PL.w_seq fun Pj kj => ?_; try nofun)
        have e : told2 t = refV (btV (off us)) := by
          unfold told2
          rw [hR, e1, pW_bad e3 he]
        rw [e] at k
        exact k _
      | some e =>
        show brK false _ _
        nofun
        (refine km _ ?_)
        (refine PL.w_seq fun Pi km => ?_; try nofun)
        refine ⟨appOk (n := es.length) (by omega), ?_⟩
        (refine km _ ?_)
        (refine PL.w_seq fun Pi km => ?_; try nofun)
        refine ⟨lenOk (by omega), ?_⟩
        (refine km _ ?_)
        nofun
        refine ⟨us ++ [w], vs, es ++ [e], some (.p (.str w)), some (.p (entV e)), by rw [e1]; simp, rfl, ents_snoc e3 he, ?_⟩
        rw [off_app]
        simp [off, iv_app, optE]
        omega
  · obtain ⟨us, vs, es, q4, q5, e1, e2, e3, rfl⟩ := hI
    have : vs = [] := by
      cases vs with
      | nil => rfl
      | cons w vs => cases e2
    subst this
    rw [List.append_nil] at e1
    have hel := ents_len e3
    have hR2 : told2 t = if ls ≠ [] then refV (btV l.length) else if 16 < es.length then refV (bvV txLog) else valV (logV es) := by
      unfold told2
      rw [hR, e1, pW_end e3]
      by_cases h5 : ls ≠ []
      · simp only [if_pos h5]
      · simp only [if_neg h5]
        by_cases h6 : 16 < es.length
        · simp only [if_pos h6]
        · simp only [if_neg h6]
    nofun
    (refine kn _ ?_)
    (refine PL.w_seq fun P kn => ?_; try nofun)
    refine ⟨lenOk (by omega), lenOk (by omega), brK_dec (fun h2 => ?_) (fun h2 => ?_)⟩
    · (refine PL.w_seq fun Pi km => ?_; try nofun)
      refine ⟨lenOk (by omega), ?_⟩
      rw [hR2, if_pos (hlt.mp (by omega))] at k
      exact k _
    · rw [hR2, if_neg (fun z => h2 (by have := hlt.mpr z; omega))] at k
      (refine kn _ ?_)
      (refine PL.w_seq fun P kn => ?_; try nofun)
      refine brK_dec (fun h3 => ?_) (fun h3 => ?_)
      · (refine PL.w_seq fun Pi km => ?_; try nofun)
        rw [if_pos (by omega)] at k
        exact k _
      · rw [if_neg (by omega)] at k
        (refine kn _ ?_)
        (refine PL.w_seq fun P kn => ?_; try nofun)
        exact k _
theorem s_told2 {w : Txt} (hw : asc w = true) (hwl : w.length ≤ 1000) (k : ∀ a b, Q (.p (told2 w)) [a, b]) : (callF T par L (n + 4) 23 [.p (.int 2), .p (.str w)]).W Q E := by
  (refine PL.w_def T_law_told rfl ?_; unfold b_law_told; simp only [List.map_cons, List.map_nil, List.replicate_succ, List.replicate_zero, Nat.sub_self, Nat.reduceSub, List.append_nil, List.cons_append, List.nil_append, PL.lockOf, PL.own, PL.ilist, Nat.reduceAdd])
  unfold told2 at k
  (refine PL.w_seq fun P kn => ?_; try nofun)
  (refine PL.w_seq fun Pi km => ?_; try nofun)
  refine brK_dec (fun h => absurd h (by decide)) (fun _ => ?_)
  (refine km _ ?_)
  (refine PL.w_seq fun Pi km => ?_; try nofun)
  refine brK_dec (fun h => absurd h (by decide)) (fun _ => ?_)
  (refine km _ ?_)
  (refine PL.w_seq fun Pi km => ?_; try nofun)
  refine s_read_log hw hwl (fun es hes _ => ?_) fun e he => ?_
  · nofun
    rw [hes] at k
    exact k _ _
  · rw [he] at k
    have hr : Ref e := by
      unfold logR at he
      split at he
      · cases he
      · split at he
        · cases he
        · split at he
          · cases he; exact .inl ⟨_, rfl⟩
          · split at he
            · cases he; exact .inl ⟨_, rfl⟩
            · split at he
              · cases he; exact .inr ⟨_, rfl⟩
              · cases he
    refine told_exc hr fun ε' hε => ?_
    nofun
    obtain ⟨a, b, e⟩ := take2 hε
    rw [e]
    exact k _ _
/-! ### logs written -/
def entW (e : Ent) : Txt := if e.1 then [43, 97 + e.2] else 45 :: natTxt e.2
def EOk (e : Ent) : Prop := e.2 < 1000 ∧ (e.1 = true → e.2 < 5)
theorem s_entry_text {e : Ent} (he : EOk e) (k : ∀ a, Q (.p (.str (entW e))) [a]) : (callF T par L (n + 1) 7 [.p (entV e)]).W Q E := by
  (refine PL.w_def T_entry_text rfl ?_; unfold b_entry_text; simp only [List.map_cons, List.map_nil, List.replicate_succ, List.replicate_zero, Nat.sub_self, Nat.reduceSub, List.append_nil, List.cons_append, List.nil_append, PL.lockOf, PL.own, PL.ilist, Nat.reduceAdd])
  obtain ⟨c, m⟩ := e
  unfold entV
  cases c with
  | true =>
    (refine PL.w_seq fun P kn => ?_; try nofun)
    refine ⟨⟨rfl, rfl⟩, ?_⟩
    refine brK_dec (fun _ => ?_) (fun h => absurd rfl h)
    (refine PL.w_seq fun Pi km => ?_; try nofun)
    rw [show ixF (.p (.str [97, 98, 99, 100, 101])) (.p (.int (m : Nat))) = _ from v_ixs (abc_get (he.2 rfl)) (by decide)]
    nofun
    exact ⟨lenOk (by decide), k _⟩
  | false =>
    (refine PL.w_seq fun P kn => ?_; try nofun)
    refine ⟨⟨rfl, rfl⟩, ?_⟩
    refine brK_dec (fun h => absurd h (by decide)) (fun _ => ?_)
    (refine kn _ ?_)
    (refine PL.w_seq fun P kn => ?_; try nofun)
    have h1 : m < 10 ^ 3 := he.1
    have := nat_len (by omega) h1
    rw [int_nat]
    refine ⟨by unfold StrOk; rw [Int.natAbs_natCast, log2_iff (by omega)]; exact Nat.lt_of_lt_of_le h1 (by decide +kernel), lenOk (by omega), k _⟩
end C85

end
section
namespace C85
open PL K85 A TX
variable {L n : Nat} {Q : MV → List (Option MV) → Prop} {E : PV → Prop}
theorem ent_back {w : Txt} {e : Ent} (h : entOf w = some e) (hw : asc w = true) : entW e = w ∧ EOk e := by
  unfold entOf at h
  split at h
  · rename_i b
    split at h
    · rename_i hb
      cases h
      have := isL_of hb
      refine ⟨?_, by show b - 97 < 1000; omega, fun _ => by show b - 97 < 5; omega⟩
      show [43, 97 + (b - 97)] = _
      rw [show 97 + (b - 97) = b by omega]
    · cases h
  · rename_i r
    split at h
    · rename_i hf
      cases h
      obtain ⟨h1, h2, h3⟩ := val_int hf
      refine ⟨?_, ?_, fun z => by cases z⟩
      · show 45 :: natTxt (valT r) = _
        rw [nat_val h2]
      · have a1 := val_lt h3
        have a2 : 10 ^ r.length ≤ 10 ^ 3 := Nat.pow_le_pow_right (by omega) h1
        show valT r < 1000
        omega
    · cases h
  · cases h
theorem join_split (c : Nat) (s : Txt) : joinT [c] (splitC c s) = s := by
  induction s with
  | nil => rfl
  | cons x r ih =>
    unfold splitC
    by_cases h : x = c
    · rw [if_pos h]
      cases hr : splitC c r with
      | nil => exact absurd hr (split_ne _)
      | cons w ws =>
        show [] ++ [c] ++ joinT [c] (w :: ws) = _
        rw [← hr, ih, h]; rfl
    · rw [if_neg h]
      cases hr : splitC c r with
      | nil => exact absurd hr (split_ne _)
      | cons w ws =>
        rw [hr] at ih
        cases ws with
        | nil =>
          show x :: w = _
          rw [show w = r from ih]
        | cons v vs =>
          show (x :: w) ++ [c] ++ joinT [c] (v :: vs) = _
          have : w ++ [c] ++ joinT [c] (v :: vs) = r := ih
          rw [← this]; rfl
theorem pW_ents : ∀ {ws : List Txt} {i : Nat} {es : List Ent}, pW ws i = .inr es → (∀ w ∈ ws, asc w = true) → ws = es.map entW ∧ ∀ e ∈ es, EOk e
  | [], _, _, h, _ => by cases h; exact ⟨rfl, fun _ z => nomatch z⟩
  | w :: ws, i, es, h, ha => by
    unfold pW at h
    cases hw : entOf w with
    | none => rw [hw] at h; cases h
    | some e =>
      cases hp : pW ws (i + w.length + 1) with
      | inl p => rw [hw, hp] at h; cases h
      | inr es' =>
        rw [hw, hp] at h
        cases h
        obtain ⟨h1, h2⟩ := ent_back hw (ha w List.mem_cons_self)
        obtain ⟨h3, h4⟩ := pW_ents hp fun v hv => ha v (List.mem_cons_of_mem _ hv)
        refine ⟨by rw [List.map_cons, h1, ← h3], fun f hf => ?_⟩
        rcases List.mem_cons.mp hf with rfl | hf
        · exact h2
        · exact h4 f hf
def logW (es : List Ent) : Txt := if es = [] then [46] else joinT [32] (es.map entW)
theorem logR_back {t : Txt} {es : List Ent} (ht : asc t = true) (h : logR t = .inr es) : logW es = t ∧ (∀ e ∈ es, EOk e) ∧ es.length ≤ 16 := by
  unfold logR at h
  by_cases h0 : t = [46]
  · rw [if_pos h0] at h
    cases h
    exact ⟨h0.symm, fun _ z => (nomatch z), by simp⟩
  · rw [if_neg h0] at h
    obtain ⟨l, ls, r, hs, hp, hlt, hle⟩ := part_head 10 t
    have hj := join_split 10 t
    rw [hs] at h hj
    have hlm := split_mem (c := 10) (s := t) (p := l) (by rw [hs]; simp)
    have hla : asc l = true := asc_of ht hlm.2
    dsimp only at h
    cases hw : pW (splitC 32 l) 0 with
    | inl p => rw [hw] at h; cases h
    | inr es' =>
      rw [hw] at h
      dsimp only at h
      split at h
      · cases h
      · rename_i hls
        have hls : ls = [] := by simpa using hls
        subst hls
        split at h
        · cases h
        · cases h
          have hl : l = t := hj
          obtain ⟨h1, h2⟩ := pW_ents hw fun w hw => asc_of hla (split_mem hw).2
          refine ⟨?_, h2, by omega⟩
          unfold logW
          rw [← h1, join_split, if_neg fun z => split_ne (c := 32) l (by rw [h1, z]; rfl), hl]
theorem join_bd : ∀ (l : List Txt), (∀ w ∈ l, asc w = true ∧ w.length ≤ 20) → (l.map (·.length)).sum ≤ 20 * l.length ∧ asc (joinT [32] l) = true ∧ (joinT [32] l).length ≤ 21 * l.length
  | [], _ => ⟨Nat.le_refl _, rfl, Nat.le_refl _⟩
  | [x], h => by
    obtain ⟨h1, h2⟩ := h x List.mem_cons_self
    refine ⟨by simp; omega, h1, by show x.length ≤ 21 * 1; omega⟩
  | x :: y :: r, h => by
    obtain ⟨h1, h2⟩ := h x List.mem_cons_self
    obtain ⟨h3, h4, h5⟩ := join_bd (y :: r) fun w hw => h w (List.mem_cons_of_mem _ hw)
    refine ⟨?_, ?_, ?_⟩
    · rw [List.map_cons, List.sum_cons, List.length_cons]; omega
    · exact asc_app (asc_app h1 rfl) h4
    · show (x ++ [32] ++ joinT [32] (y :: r)).length ≤ _
      rw [List.length_append, List.length_append, List.length_cons]
      simp only [List.length_cons, List.length_nil] at h5 ⊢
      omega
theorem joinOk {l : List Txt} (h : ∀ w ∈ l, asc w = true ∧ w.length ≤ 20) (hl : l.length ≤ 1000) : JoinOk [32] l := by
  have := (join_bd l h).1
  unfold JoinOk
  show _ + _ * 1 ≤ _
  unfold LIM
  omega
theorem entW_ok {e : Ent} (h : EOk e) : asc (entW e) = true ∧ (entW e).length ≤ 20 := by
  obtain ⟨h1, h2⟩ := h
  unfold entW
  split
  · rename_i hc
    have := h2 hc
    exact ⟨by simp [asc]; omega, by simp⟩
  · have := nat_len (n := e.2) (k := 3) (by omega) h1
    refine ⟨?_, by rw [List.length_cons]; omega⟩
    exact asc_app (s := [45]) rfl (dig_asc (nat_dig _))
theorem s_log_text {es : List Ent} (h : ∀ e ∈ es, EOk e) (hl : es.length ≤ 1000) (k : ∀ a, Q (.p (.str (logW es))) [a]) : (callF T par L (n + 2) 8 [.p (logV es)]).W Q E := by
  (refine PL.w_def T_log_text rfl ?_; unfold b_log_text; simp only [List.map_cons, List.map_nil, List.replicate_succ, List.replicate_zero, Nat.sub_self, Nat.reduceSub, List.append_nil, List.cons_append, List.nil_append, PL.lockOf, PL.own, PL.ilist, Nat.reduceAdd])
  unfold logV
  (refine PL.w_seq fun P kn => ?_; try nofun)
  refine brK_dec (fun h0 => ?_) (fun h0 => ?_)
  · (refine PL.w_seq fun Pi km => ?_; try nofun)
    have : es = [] := List.eq_nil_of_length_eq_zero (by omega)
    subst this
    exact k _
  · (refine kn _ ?_)
    (refine PL.w_seq fun P kn => ?_; try nofun)
    refine ⟨by unfold LIM; omega, ?_⟩
    refine W_compM entV es (fun e => some (.p (.str (entW e)))) (fun e he => ?_) ?_
    · nofun
      refine s_entry_text (h e he) fun _ => ?_
      nofun
    · rw [fm_gen]
      nofun
      rw [show es.map (fun c => PV.str (entW c)) = (es.map entW).map PV.str by rw [List.map_map]; rfl]
      nofun
      unfold logW at k
      rw [if_neg fun z => h0 (by rw [z]; rfl)] at k
      refine ⟨joinOk (fun w hw => ?_) (by rw [List.length_map]; omega), k _⟩
      obtain ⟨e, he, rfl⟩ := List.mem_map.mp hw
      exact entW_ok (h e he)
theorem entVs_good : ∀ (es : List Ent), (∀ e ∈ es, EOk e) → okDataL (es.map entV) = true ∧ shwL (es.map entV) = true ∧ depL (es.map entV) ≤ 1 ∧ cstL (es.map entV) ≤ 2000 * es.length
  | [], _ => ⟨rfl, rfl, Nat.zero_le _, Nat.le_refl _⟩
  | e :: es, h => by
    obtain ⟨h1, h2, h3, h4⟩ := entVs_good es fun y hy => h y (List.mem_cons_of_mem _ hy)
    obtain ⟨hx, _⟩ := h e List.mem_cons_self
    obtain ⟨c, m⟩ := e
    have hlog : (m : Int).natAbs.log2 < 1920 := by
      have hx : m < 1000 := hx
      rw [Int.natAbs_natCast, log2_iff (by omega)]
      exact Nat.lt_of_lt_of_le (show m < 2 ^ 20 by omega) (Nat.pow_le_pow_right (by omega) (by omega))
    refine ⟨?_, ?_, ?_, ?_⟩
    · show (okData (entV (c, m)) && okDataL (es.map entV)) = true
      rw [h1]; cases c <;> rfl
    · show ((true && (decide ((m : Int).natAbs.log2 < 1920) && true)) && shwL (es.map entV)) = true
      rw [h2, decide_eq_true hlog]; rfl
    · show max (max 0 (max 0 0) + 1) (depL (es.map entV)) ≤ 1
      omega
    · have hc : (if c = true then txCome else txLeave).length ≤ 5 := by cases c <;> decide
      show (10 * (if c = true then txCome else txLeave).length + 2 + 2 + (1921 + 2 + 0)) + 3 + 2 + cstL (es.map entV) ≤ _
      rw [List.length_cons]
      omega
theorem good_told2 {t : Txt} (ht : asc t = true) (hl : t.length ≤ 1000) : Good (told2 t) := by
  unfold told2
  cases h : logR t with
  | inr es =>
    obtain ⟨_, h1, h2⟩ := logR_back ht h
    obtain ⟨g1, g2, g3, g4⟩ := entVs_good es h1
    refine ⟨?_, ?_, ?_, ?_⟩
    · show (true && (okDataL (es.map entV) && true)) = true
      rw [g1]; rfl
    · show (true && (shwL (es.map entV) && true)) = true
      rw [g2]; rfl
    · show max 0 (max (depL (es.map entV) + 1) 0) + 1 ≤ 40
      omega
    · show (10 * 5 + 2 + 2 + (cstL (es.map entV) + 3 + 2 + 0)) + 3 ≤ LIM
      unfold LIM
      omega
  | inl e =>
    have hlog : Good (refV (bvV txLog)) := ⟨rfl, rfl, Nat.le_of_ble_eq_true rfl, by simp [cst, cstL, refV, bvV, txWhat, txLog, LIM]⟩
    unfold logR at h
    split at h
    · cases h
    · split at h
      · cases h
      · rename_i l ls hs
        have hlm := split_mem (c := 10) (s := t) (p := l) (by rw [hs]; simp)
        split at h
        · rename_i p hp
          cases h
          refine good_place (bt_small ?_)
          have key : ∀ (ws : List Txt) (i : Nat), pW ws i = .inl p → p ≤ i + off ws := by
            intro ws
            induction ws with
            | nil => intro i h; cases h
            | cons w ws ih =>
              intro i h
              unfold pW at h
              cases hw : entOf w with
              | none => rw [hw] at h; cases h; omega
              | some e =>
                cases hq : pW ws (i + w.length + 1) with
                | inr es' => rw [hw, hq] at h; cases h
                | inl q =>
                  rw [hw, hq] at h
                  cases h
                  have := ih _ hq
                  simp only [off]; omega
          have := key _ _ hp
          rw [off_split] at this
          omega
        · split at h
          · cases h
            exact good_place (bt_small (by omega))
          · split at h
            · cases h; exact hlog
            · cases h
end C85

end
section
namespace C85
open PL K85 A TX
variable {L n : Nat} {Q : MV → List (Option MV) → Prop} {E : PV → Prop}
def Wds (ws : List Txt) : Prop := ∀ w ∈ ws, asc w = true ∧ w.length ≤ 8
theorem Wds.snoc {ws : List Txt} {w : Txt} (h : Wds ws) (h1 : asc w = true) (h2 : w.length ≤ 8) : Wds (ws ++ [w]) := fun v hv => by
  rcases List.mem_append.mp hv with hv | hv
  · exact h v hv
  · have : v = w := by simpa using hv
    rw [this]; exact ⟨h1, h2⟩
theorem neg_txt {x m : Nat} (hm : 0 < m) (hm2 : m ≤ 7) (h : x < 10 ^ m) : StrOk (x : Int) ∧ asc (45 :: natTxt x) = true ∧ (45 :: natTxt x).length ≤ 8 := by
  have := nat_len hm h
  refine ⟨?_, asc_app (s := [45]) rfl (dig_asc (nat_dig _)), by rw [List.length_cons]; omega⟩
  unfold StrOk
  rw [Int.natAbs_natCast, log2_iff (by omega)]
  have : 10 ^ m ≤ 10 ^ 10 := Nat.pow_le_pow_right (by omega) (by omega)
  exact Nat.lt_of_lt_of_le (Nat.lt_of_lt_of_le h this) (by decide +kernel)
theorem s_log_words {p : List Int} (k : ∀ (ws : List Txt) (p' : List Int), Wds ws → ws.length ≤ 17 → Q (own (ws.map PV.str)) [some (ilist p')]) : (callF T par L (n + 2) 34 [ilist p]).W Q E := by
  (refine PL.w_def T_law_log_words rfl ?_; unfold b_law_log_words; simp only [List.map_cons, List.map_nil, List.replicate_succ, List.replicate_zero, Nat.sub_self, Nat.reduceSub, List.append_nil, List.cons_append, List.nil_append, PL.lockOf, PL.own, PL.ilist, Nat.reduceAdd])
  (refine PL.w_seq fun P kn => ?_; try nofun)
  refine s_take (p := p) (b := 20) (by omega) fun r p1 _ hr => ?_
  nofun
  (refine kn _ ?_)
  (refine PL.w_seq fun P kn => ?_; try nofun)
  have main : ∀ m : Nat, m ≤ 17 → P [some (ilist p1), some (.p (.int (m : Nat))), none, none, none] := fun m hm => by
    (refine kn _ ?_)
    (refine PL.w_seq fun P kn => ?_; try nofun)
    (refine kn _ ?_)
    (refine PL.w_seq fun P kn => ?_; try nofun)
    rw [Int.toNat_natCast]
    refine ⟨small_nat (by omega), ?_⟩
    refine W_rng (fun i ε => ∃ (ws : List Txt) (p' : List Int) (q1 q2 : Option MV), Wds ws ∧ ws.length = i ∧ ε = [some (ilist p'), some (.p (.int (m : Nat))), some (own (ws.map PV.str)), q1, q2]) ⟨[], p1, none, none, fun _ z => (nomatch z), rfl, rfl⟩ (fun i ε hi hI => ?_) (fun ε hI => ?_)
    · obtain ⟨ws, p', q1, q2, h1, h2, rfl⟩ := hI
      nofun
      (refine PL.w_seq fun Pi km => ?_; try nofun)
      refine s_take (p := p') (b := 8) (by omega) fun s p2 _ hs => ?_
      nofun
      (refine km _ ?_)
      (refine PL.w_seq fun Pi km => ?_; try nofun)
      have fin : ∀ (w : Txt) (p3 : List Int), asc w = true → w.length ≤ 8 → Pi [some (ilist p3), some (.p (.int (m : Nat))), some (own ((ws ++ [w]).map PV.str)), some (.p (.int (i : Nat))), some (.p (.int (s : Nat)))] := fun w p3 a1 a2 => by
        (refine km _ ?_)
        nofun
        exact ⟨ws ++ [w], p3, _, _, h1.snoc a1 a2, by simp [h2], rfl⟩
      refine brK_dec (fun _ => ?_) (fun _ => ?_)
      · (refine PL.w_seq fun Pj kj => ?_; try nofun)
        refine s_take (p := p2) (b := 5) (by omega) fun x p3 _ hx => ?_
        rw [show ixF (.p (.str [97, 98, 99, 100, 101])) (.p (.int (x : Nat))) = _ from v_ixs (abc_get (by omega)) (by decide)]
        nofun
        refine ⟨lenOk (by decide), appOk (by omega), ?_⟩
        (refine kj _ ?_)
        nofun
        have := fin ([43] ++ [97 + x]) p3 (by simp [asc]; omega) (by simp)
        simp only [ilist, own, List.map_append, List.map_cons, List.map_nil] at this
        exact this
      (refine PL.w_seq fun Pj kj => ?_; try nofun)
      refine brK_dec (fun _ => ?_) (fun _ => ?_)
      · refine w_seq fun P4 k4 => ?_
        nofun
        refine s_take (p := p2) (b := 10) (by omega) fun x p3 _ hx => ?_
        nofun
        rw [int_nat]
        obtain ⟨g1, g2, g3⟩ := neg_txt (x := x) (m := 3) (by omega) (by omega) (by omega)
        refine ⟨g1, lenOk (by rw [List.length_cons] at g3; omega), appOk (by omega), ?_⟩
        refine k4 _ ?_
        nofun
        (refine kj _ ?_)
        nofun
        have := fin (45 :: natTxt x) p3 g2 (by omega)
        simp only [ilist, own, List.map_append, List.map_cons, List.map_nil] at this
        exact this
      refine w_seq fun P4 k4 => ?_
      nofun
      refine brK_dec (fun _ => ?_) (fun _ => ?_)
      · refine w_seq fun P5 k5 => ?_
        nofun
        refine s_take (p := p2) (b := 1000) (by omega) fun x p3 _ hx => ?_
        nofun
        rw [int_nat]
        obtain ⟨g1, g2, g3⟩ := neg_txt (x := x) (m := 3) (by omega) (by omega) (by omega)
        refine ⟨g1, lenOk (by rw [List.length_cons] at g3; omega), appOk (by omega), ?_⟩
        refine k5 _ ?_
        nofun
        refine k4 _ ?_
        nofun
        (refine kj _ ?_)
        nofun
        have := fin (45 :: natTxt x) p3 g2 (by omega)
        simp only [ilist, own, List.map_append, List.map_cons, List.map_nil] at this
        exact this
      · refine w_seq fun P5 k5 => ?_
        nofun
        refine s_take (p := p2) (b := 6) (by omega) fun x p3 _ hx => ?_
        obtain ⟨w, hw, a1, a2⟩ : ∃ w : Txt, ([.str [48], .str [57], .str [49, 48], .str [57, 57], .str [49, 48, 48], .str [57, 57, 57]] : List PV)[x]? = some (.str w) ∧ asc ([45] ++ w) = true ∧ ([45] ++ w).length ≤ 8 := by
          have : x < 6 := by omega
          match x, this with
          | 0, _ => exact ⟨_, rfl, rfl, by decide⟩
          | 1, _ => exact ⟨_, rfl, rfl, by decide⟩
          | 2, _ => exact ⟨_, rfl, rfl, by decide⟩
          | 3, _ => exact ⟨_, rfl, rfl, by decide⟩
          | 4, _ => exact ⟨_, rfl, rfl, by decide⟩
          | 5, _ => exact ⟨_, rfl, rfl, by decide⟩
        rw [show ixF (.l [.p (.str [48]), .p (.str [57]), .p (.str [49, 48]), .p (.str [57, 57]), .p (.str [49, 48, 48]), .p (.str [57, 57, 57])]) (.p (.int (x : Nat))) = some (.p (.str w)) from v_ixo hw]
        nofun
        refine ⟨lenOk (by rw [List.length_append] at a2; simp at a2; omega), appOk (by omega), ?_⟩
        refine k5 _ ?_
        nofun
        refine k4 _ ?_
        nofun
        (refine kj _ ?_)
        nofun
        have := fin ([45] ++ w) p3 a1 a2
        simp only [ilist, own, List.map_append, List.map_cons, List.map_nil] at this
        exact this
    · obtain ⟨ws, p', q1, q2, h1, h2, rfl⟩ := hI
      nofun
      (refine kn _ ?_)
      (refine PL.w_seq fun P kn => ?_; try nofun)
      exact k _ _ h1 (by omega)
  refine brK_dec (fun _ => ?_) (fun _ => ?_)
  · (refine PL.w_seq fun Pi km => ?_; try nofun)
    (refine km _ ?_)
    nofun
    exact main 16 (by omega)
  · exact main r (by omega)
end C85

end
section
namespace C85
open PL K85 A TX
variable {L n : Nat} {Q : MV → List (Option MV) → Prop} {E : PV → Prop}
def oddW : List Txt := [[], [45], [43], [43, 102], [43, 97, 98], [45, 48, 49], [45, 49, 48, 48, 48], [45, 48, 48], [46], [97], [45, 45, 49], [43, 48], [45, 97], [43, 65], [43, 45], [99, 111, 109, 101], [45, 49, 47, 50], [42, 97], [45, 57, 57, 57], [43, 101], [45, 48], [45, 43], [49], [97, 43], [43, 32]]
theorem oddW_ok : ∀ w ∈ oddW, asc w = true ∧ w.length ≤ 5 := by decide
theorem g_add1 {l : List PV} {v : PV} {kk : MV → Prop} : getK (binF .add (own l) (.l [MV.p v])) kk = (LenOk (l.length + 1) ∧ kk (own (l ++ [v]))) := g_addl (m := [v])
theorem cut_take1 {α : Type} (l : List α) (k : Nat) : cutL l none (some ((k : Int) + 1)) = l.take (k + 1) := cut_take l (k + 1)
def bentSg : Txt := [43, 45, 97, 98, 99, 100, 101, 102, 48, 49, 50, 51, 52, 53, 57, 32, 46, 10, 47]
abbrev W4 (ws : List Txt) : Prop := Wds ws
theorem j3 {ws : List Txt} {w : Txt} {i j : Nat} (h : W4 ws) (hl : ws.length ≤ 17) (h1 : asc w = true) (h2 : w.length ≤ 20) : JoinOk [32] (ws.take i ++ [w] ++ ws.drop j) ∧ asc (joinT [32] (ws.take i ++ [w] ++ ws.drop j)) = true ∧ (joinT [32] (ws.take i ++ [w] ++ ws.drop j)).length ≤ 800 := by
  have hw : ∀ v ∈ ws.take i ++ [w] ++ ws.drop j, asc v = true ∧ v.length ≤ 20 := fun v hv => by
    simp only [List.mem_append, List.mem_singleton] at hv
    rcases hv with (hv | rfl) | hv
    · have := h v (List.mem_of_mem_take hv)
      exact ⟨this.1, by omega⟩
    · exact ⟨h1, h2⟩
    · have := h v (List.mem_of_mem_drop hv)
      exact ⟨this.1, by omega⟩
  have hl2 : (ws.take i ++ [w] ++ ws.drop j).length ≤ 35 := by
    rw [List.length_append, List.length_append, List.length_take, List.length_drop]
    simp
    omega
  have := join_bd _ hw
  exact ⟨joinOk hw (by omega), this.2.1, by omega⟩
theorem j2 {ws : List Txt} {i j : Nat} (h : W4 ws) (hl : ws.length ≤ 17) : JoinOk [32] (ws.take i ++ ws.drop j) ∧ asc (joinT [32] (ws.take i ++ ws.drop j)) = true ∧ (joinT [32] (ws.take i ++ ws.drop j)).length ≤ 800 := by
  have hw : ∀ v ∈ ws.take i ++ ws.drop j, asc v = true ∧ v.length ≤ 20 := fun v hv => by
    simp only [List.mem_append] at hv
    rcases hv with hv | hv
    · have := h v (List.mem_of_mem_take hv)
      exact ⟨this.1, by omega⟩
    · have := h v (List.mem_of_mem_drop hv)
      exact ⟨this.1, by omega⟩
  have hl2 : (ws.take i ++ ws.drop j).length ≤ 34 := by
    rw [List.length_append, List.length_take, List.length_drop]
    omega
  have := join_bd _ hw
  exact ⟨joinOk hw (by omega), this.2.1, by omega⟩
theorem j1 {ws : List Txt} (h : W4 ws) (hl : ws.length ≤ 17) : JoinOk [32] ws ∧ asc (joinT [32] ws) = true ∧ (joinT [32] ws).length ≤ 360 := by
  have hw : ∀ v ∈ ws, asc v = true ∧ v.length ≤ 20 := fun v hv => by
    have := h v hv
    exact ⟨this.1, by omega⟩
  have := join_bd _ hw
  exact ⟨joinOk hw (by omega), this.2.1, by omega⟩
theorem s_log_bent {p : List Int} {ws : List Txt} (h : W4 ws) (hl : ws.length ≤ 17) (h0 : 0 < ws.length) (k : ∀ (t : Txt) (p' : List Int), asc t = true → t.length ≤ 900 → Q (.p (.str t)) [some (ilist p'), some (own (ws.map PV.str))]) : (callF T par L (n + 3) 35 [ilist p, own (ws.map PV.str)]).W Q E := by
  (refine PL.w_def T_law_log_bent rfl ?_; unfold b_law_log_bent; simp only [List.map_cons, List.map_nil, List.replicate_succ, List.replicate_zero, Nat.sub_self, Nat.reduceSub, List.append_nil, List.cons_append, List.nil_append, PL.lockOf, PL.own, PL.ilist, Nat.reduceAdd])
  (refine PL.w_seq fun P kn => ?_; try nofun)
  (refine kn _ ?_)
  (refine PL.w_seq fun P kn => ?_; try nofun)
  rw [v_extU rfl (by decide)]
  nofun
  (refine kn _ ?_)
  (refine PL.w_seq fun P kn => ?_; try nofun)
  refine s_take (p := p) (b := 25) (by omega) fun x p1 _ hx => ?_
  obtain ⟨w, hw⟩ : ∃ w, oddW[x]? = some w := ⟨_, List.getElem?_eq_getElem (by show x < 25; omega)⟩
  obtain ⟨w1, w2⟩ := oddW_ok w (List.mem_of_getElem? hw)
  have hix : ixF (own (oddW.map PV.str)) (.p (.int (x : Nat))) = some (.p (.str w)) := v_ixo (map_get hw)
  have hfz : ∀ (ε : Env) (o : Opd) (j : MV), ixFrz ε o (own (oddW.map PV.str)) j = ε := fun _ _ _ => ixFrz_o
  have hnw : (own (oddW.map PV.str)) = own (oddW.map PV.str) := rfl
  simp only [oddW, List.map_cons, List.map_nil, own] at hix hfz
  nofun
  rw [hix]
  simp only [hfz]
  nofun
  (refine kn _ ?_)
  generalize [MV.p (PV.str []), MV.p (PV.str [45]), MV.p (PV.str [43]), MV.p (PV.str [43, 102]), MV.p (PV.str [43, 97, 98]), MV.p (PV.str [45, 48, 49]), MV.p (PV.str [45, 49, 48, 48, 48]), MV.p (PV.str [45, 48, 48]), MV.p (PV.str [46]), MV.p (PV.str [97]), MV.p (PV.str [45, 45, 49]), MV.p (PV.str [43, 48]), MV.p (PV.str [45, 97]), MV.p (PV.str [43, 65]), MV.p (PV.str [43, 45]), MV.p (PV.str [99, 111, 109, 101]), MV.p (PV.str [45, 49, 47, 50]), MV.p (PV.str [42, 97]), MV.p (PV.str [45, 57, 57, 57]), MV.p (PV.str [43, 101]), MV.p (PV.str [45, 48]), MV.p (PV.str [45, 43]), MV.p (PV.str [49]), MV.p (PV.str [97, 43]), MV.p (PV.str [43, 32])] = ol
  (refine PL.w_seq fun P kn => ?_; try nofun)
  refine s_take (p := p1) (b := (ws.length : Int)) (by omega) fun y p2 _ hy => ?_
  nofun
  (refine kn _ ?_)
  (refine PL.w_seq fun P kn => ?_; try nofun)
  refine s_take (p := p2) (b := 6) (by omega) fun z p3 _ hz => ?_
  nofun
  (refine kn _ ?_)
  have hy : y < ws.length := by omega
  have hgen : ∀ (i j : Nat) (w : Txt), (List.take i (ws.map PV.str) ++ [PV.str w]) ++ List.drop j (ws.map PV.str) = (ws.take i ++ [w] ++ ws.drop j).map PV.str := fun i j w => by simp
  have hgen2 : ∀ (i j : Nat), List.take i (ws.map PV.str) ++ List.drop j (ws.map PV.str) = (ws.take i ++ ws.drop j).map PV.str := fun i j => by simp
  have lt : ∀ i, (List.take i (ws.map PV.str)).length ≤ 17 := fun i => by rw [List.length_take, List.length_map]; omega
  have ld : ∀ i, (List.drop i (ws.map PV.str)).length ≤ 17 := fun i => by rw [List.length_drop, List.length_map]; omega
  have J3 : ∀ (i j : Nat) (v : Txt), asc v = true → v.length ≤ 20 → getK (binF .add (own (List.take i (ws.map PV.str))) (.l [MV.p (.str v)])) fun u => getK (binF .add u (own (List.drop j (ws.map PV.str)))) fun m => getK (metF .join (.p (.str [32])) [m]) fun r => Q r [some (ilist p3), some (own (ws.map PV.str))] := fun i j v a1 a2 => by
    have := lt i
    have := ld j
    rw [g_add1]
    refine ⟨lenOk (by omega), ?_⟩
    rw [g_addl]
    refine ⟨lenOk (by simp at *; omega), ?_⟩
    rw [hgen, g_join]
    obtain ⟨g1, g2, g3⟩ := j3 (i := i) (j := j) h hl a1 a2
    exact ⟨g1, k _ _ g2 (by omega)⟩
  (refine PL.w_seq fun P kn => ?_; try nofun)
  refine brK_dec (fun _ => ?_) (fun _ => ?_)
  · (refine PL.w_seq fun Pi km => ?_; try nofun)
    rw [cut_take, cut_drop1]
    exact J3 y (y + 1) w w1 (by omega)
  (refine kn _ ?_)
  (refine PL.w_seq fun P kn => ?_; try nofun)
  refine brK_dec (fun _ => ?_) (fun _ => ?_)
  · (refine PL.w_seq fun Pi km => ?_; try nofun)
    rw [cut_take, cut_drop]
    exact J3 y y w w1 (by omega)
  (refine kn _ ?_)
  (refine PL.w_seq fun P kn => ?_; try nofun)
  refine brK_dec (fun _ => ?_) (fun _ => ?_)
  · (refine PL.w_seq fun Pi km => ?_; try nofun)
    rw [cut_take, cut_drop1]
    have := lt y
    have := ld (y + 1)
    refine ⟨lenOk (by omega), ?_⟩
    rw [hgen2, g_join]
    obtain ⟨g1, g2, g3⟩ := j2 (i := y) (j := y + 1) h hl
    exact ⟨g1, k _ _ g2 (by omega)⟩
  (refine kn _ ?_)
  (refine PL.w_seq fun P kn => ?_; try nofun)
  obtain ⟨v, hv⟩ : ∃ v, ws[y]? = some v := ⟨_, List.getElem?_eq_getElem hy⟩
  obtain ⟨v1, v2⟩ := h v (List.mem_of_getElem? hv)
  refine brK_dec (fun _ => ?_) (fun _ => ?_)
  · (refine PL.w_seq fun Pi km => ?_; try nofun)
    rw [show ixF (.l (List.map MV.p (ws.map PV.str))) (.p (.int (y : Nat))) = some (.p (.str v)) from v_ixo (map_get hv)]
    nofun
    rw [cut_take, cut_drop1]
    refine ⟨lenOk (by omega), lenOk (by simp; omega), ?_⟩
    exact J3 y (y + 1) _ (asc_app (asc_app v1 rfl) w1) (by simp; omega)
  (refine kn _ ?_)
  (refine PL.w_seq fun P kn => ?_; try nofun)
  refine brK_dec (fun _ => ?_) (fun _ => ?_)
  · (refine PL.w_seq fun Pi km => ?_; try nofun)
    rw [cut_take1, cut_drop1, ← List.map_take, ← List.map_drop]
    nofun
    obtain ⟨g1, g2, g3⟩ := j1 (ws := ws.take (y + 1)) (fun u hu => h u (List.mem_of_mem_take hu)) (by rw [List.length_take]; omega)
    obtain ⟨g4, g5, g6⟩ := j1 (ws := ws.drop (y + 1)) (fun u hu => h u (List.mem_of_mem_drop hu)) (by rw [List.length_drop]; omega)
    refine ⟨g1, lenOk (by simp; omega), g4, lenOk (by simp; omega), k _ _ (asc_app (asc_app g2 rfl) g5) (by simp; omega)⟩
  (refine kn _ ?_)
  (refine PL.w_seq fun P kn => ?_; try nofun)
  obtain ⟨g1, g2, g3⟩ := j1 h hl
  refine ⟨g1, s_bent (p := p3) (sg := bentSg) g2 (by decide) (by omega) (by decide) (by decide) fun t p4 _ _ a1 a2 => ?_⟩
  nofun
  exact k _ _ a1 (by omega)
end C85

end
section
namespace C85
open PL K85 A TX
variable {L n : Nat} {Q : MV → List (Option MV) → Prop} {E : PV → Prop}
/-- texts told as is due -/
theorem log_loop {p : List Int} {o1 o2 o3 o4 o5 : Option MV} (ts : List Txt) (ht : ∀ t ∈ ts, asc t = true ∧ t.length ≤ 1000) {QF : Flow → Env → Prop}
    (k : ∀ o, QF .nx [some (ilist p), o1, o2, o3, o4, o5, o]) : (forL (forS ⟨callF T par L (n + 4), L, [0], par⟩ (.nm 6) (.mv 4) (.cons (.ife (.tn (.tv (.call 17 (.cons (.call 23 (.cons (.con (.int 2)) (.cons (.var 6) .nil))) (.cons (.call 33 (.cons (.var 6) .nil)) .nil)))))
 (.cons (.ret (.con (.bl false)))
 .nil)
 .nil)
 .nil)) (ts.map PV.str) [some (ilist p), o1, o2, o3, o4, o5, none]).W QF fun e _ => E e := by
  refine W_forM PV.str ts (fun ys ε => ∃ o, ε = [some (ilist p), o1, o2, o3, o4, o5, o]) ⟨none, rfl⟩ (fun ys t zs ε e hI => ?_) (fun ε hI => ?_)
  · obtain ⟨o, rfl⟩ := hI
    obtain ⟨h1, h2⟩ := ht t (by rw [e]; simp)
    nofun
    (refine PL.w_seq fun Pi km => ?_; try nofun)
    refine s_told2 h1 h2 fun _ _ => ?_
    nofun
    refine s_log_due h1 h2 fun _ => ?_
    nofun
    refine s_same (good_told2 h1 h2) fun _ _ => ?_
    nofun
    (refine km _ ?_)
    nofun
    exact ⟨_, rfl⟩
  · obtain ⟨o, rfl⟩ := hI
    exact k o
theorem logR_ref {t : Txt} {e : PV} (he : logR t = .inl e) : Ref e := by
  unfold logR at he
  split at he
  · cases he
  · split at he
    · cases he
    · split at he
      · cases he; exact .inl ⟨_, rfl⟩
      · split at he
        · cases he; exact .inl ⟨_, rfl⟩
        · split at he
          · cases he; exact .inr ⟨_, rfl⟩
          · cases he
theorem s_logs_right {p : List Int} (k : ∀ (p' : List Int), Q (.p (.bl true)) [some (ilist p')]) : (callF T par L (n + 5) 36 [ilist p]).W Q E := by
  (refine PL.w_def T_law_logs_right rfl ?_; unfold b_law_logs_right; simp only [List.map_cons, List.map_nil, List.replicate_succ, List.replicate_zero, Nat.sub_self, Nat.reduceSub, List.append_nil, List.cons_append, List.nil_append, PL.lockOf, PL.own, PL.ilist, Nat.reduceAdd])
  (refine PL.w_seq fun P kn => ?_; try nofun)
  refine s_log_words fun ws p1 h hl => ?_
  nofun
  (refine kn _ ?_)
  (refine PL.w_seq fun P kn => ?_; try nofun)
  have main : ∀ ws : List Txt, Wds ws → ws.length ≤ 17 → 0 < ws.length → ∀ l : List MV, l = (ws.map PV.str).map MV.p → P [some (ilist p1), some (.l l), none, none, none, none, none] := fun ws h hl h0 l hl2 => by
    subst hl2
    obtain ⟨g1, g2, g3⟩ := j1 h hl
    (refine kn _ ?_)
    (refine PL.w_seq fun P kn => ?_; try nofun)
    refine ⟨g1, ?_⟩
    generalize joinT [32] ws = t at *
    (refine kn _ ?_)
    (refine PL.w_seq fun P kn => ?_; try nofun)
    refine s_log_due g2 (by omega) fun _ => ?_
    nofun
    (refine kn _ ?_)
    (refine PL.w_seq fun P kn => ?_; try nofun)
    have next : P [some (ilist p1), some (own (ws.map PV.str)), some (.p (.str t)), some (.p (told2 t)), none, none, none] := by
      (refine kn _ ?_)
      (refine PL.w_seq fun P kn => ?_; try nofun)
      refine ⟨lenOk (by omega), lenOk (by omega), ?_⟩
      (refine kn _ ?_)
      (refine PL.w_seq fun P kn => ?_; try nofun)
      refine ⟨rfl, ?_⟩
      refine W_rng (n := 6) (fun i ε => ∃ (ts : List Txt) (p' : List Int) (q1 q2 : Option MV), (∀ t ∈ ts, asc t = true ∧ t.length ≤ 1000) ∧ ts.length = 7 + i ∧ ε = [some (ilist p'), some (own (ws.map PV.str)), some (.p (.str t)), some (.p (told2 t)), some (own (ts.map PV.str)), q1, none]) ⟨[t, t ++ [10], [], [10], [32], [46], t ++ [32, 46]], p1, none, none, ?_, rfl, rfl⟩ (fun i ε hi hI => ?_) (fun ε hI => ?_)
      · intro u hu
        simp only [List.mem_cons, List.not_mem_nil, or_false] at hu
        rcases hu with rfl | rfl | rfl | rfl | rfl | rfl | rfl <;> first | exact ⟨g2, by omega⟩ | exact ⟨rfl, by decide⟩ | exact ⟨asc_app g2 rfl, by simp; omega⟩
      · obtain ⟨ts, p', q1, q2, a1, a2, rfl⟩ := hI
        nofun
        (refine PL.w_seq fun Pi km => ?_; try nofun)
        refine s_log_bent (p := p') h hl h0 fun u p2 b1 b2 => ?_
        nofun
        refine ⟨appOk (by omega), ?_⟩
        (refine km _ ?_)
        nofun
        refine ⟨ts ++ [u], p2, some (.p (.int (i : Nat))), none, fun v hv => ?_, by simp; omega, by simp⟩
        rcases List.mem_append.mp hv with hv | hv
        · exact a1 v hv
        · have : v = u := by simpa using hv
          rw [this]; exact ⟨b1, by omega⟩
      · obtain ⟨ts, p', q1, q2, a1, a2, rfl⟩ := hI
        nofun
        (refine kn _ ?_)
        (refine PL.w_seq fun P kn => ?_; try nofun)
        refine ⟨appOk (by omega), ?_⟩
        (refine kn _ ?_)
        (refine PL.w_seq fun P kn => ?_; try nofun)
        have e : (List.map MV.p (List.map PV.str ts) ++ [MV.p (PV.str t)]) = ((ts ++ [t]).map PV.str).map MV.p := by simp
        rw [e, mvK_l (unpL_own _)]
        nofun
        refine log_loop (ts ++ [t]) (fun v hv => ?_) fun o => ?_
        · rcases List.mem_append.mp hv with hv | hv
          · exact a1 v hv
          · have : v = t := by simpa using hv
            rw [this]; exact ⟨g2, by omega⟩
        · nofun
          (refine kn _ ?_)
          (refine PL.w_seq fun P kn => ?_; try nofun)
          exact k _
    cases hr : logR t with
    | inl e =>
      have ht : told2 t = refV e := by unfold told2; rw [hr]
      rw [ht] at next ⊢
      rcases logR_ref hr with ⟨p, rfl⟩ | ⟨s, rfl⟩
      · unfold refV btV at next ⊢
        nofun
        refine ⟨⟨by decide, rfl⟩, brK_dec (fun z => absurd z (by decide)) (fun _ => ?_)⟩
        exact next
      · unfold refV bvV at next ⊢
        nofun
        refine ⟨⟨by decide, rfl⟩, brK_dec (fun z => absurd z (by decide)) (fun _ => ?_)⟩
        exact next
    | inr es =>
      have ht : told2 t = valV (logV es) := by unfold told2; rw [hr]
      obtain ⟨e1, e2, e3⟩ := logR_back g2 hr
      rw [ht] at next ⊢
      unfold valV at next ⊢
      nofun
      refine ⟨⟨by decide, rfl⟩, brK_dec (fun _ => ?_) (fun z => absurd rfl z)⟩
      refine s_log_text e2 (by omega) fun _ => ?_
      nofun
      rw [e1]
      refine s_same (good_str g2 (by omega)) fun _ _ => ?_
      nofun
      exact next
  refine brK_dec (fun hz => ?_) (fun hz => ?_)
  · (refine PL.w_seq fun Pi km => ?_; try nofun)
    (refine km _ ?_)
    nofun
    exact main [[46]] (fun w hw => by
      have : w = [46] := by simpa using hw
      rw [this]; exact ⟨rfl, by decide⟩) (by decide) (by decide) _ rfl
  · exact main ws h hl (by omega) _ rfl
end C85

end
section
namespace C85
open PL K85 A TX
variable {L n : Nat} {Q : MV → List (Option MV) → Prop} {E : PV → Prop}
def wordSg : Txt := [48, 49, 50, 51, 52, 53, 54, 55, 56, 57, 47, 45, 43, 46, 32, 97, 95, 10]
abbrev Wr (ws : List Txt) : Prop := ∀ w ∈ ws, asc w = true ∧ w.length ≤ 300
theorem Wr.snoc {ws : List Txt} {w : Txt} (h : Wr ws) (h1 : asc w = true) (h2 : w.length ≤ 300) : Wr (ws ++ [w]) := fun v hv => by
  rcases List.mem_append.mp hv with hv | hv
  · exact h v hv
  · have : v = w := by simpa using hv
    rw [this]; exact ⟨h1, h2⟩
theorem s_law {ns : List Int} (hL : FuelOk L) (hn : ns.length ≤ 63) (k : ∀ a, Q (.p (.bl true)) [a]) : (callF T par L (n + 6) 37 [.p (.sls ns)]).W Q E := by
  (refine PL.w_def T_law rfl ?_; unfold b_law; simp only [List.map_cons, List.map_nil, List.replicate_succ, List.replicate_zero, Nat.sub_self, Nat.reduceSub, List.append_nil, List.cons_append, List.nil_append, PL.lockOf, PL.own, PL.ilist, Nat.reduceAdd])
  (refine PL.w_seq fun P kn => ?_; try nofun)
  refine s_numbers (m := 240) hn (by omega) fun p0 _ _ => ?_
  nofun
  (refine kn _ ?_)
  (refine PL.w_seq fun P kn => ?_; try nofun)
  (refine kn _ ?_)
  (refine PL.w_seq fun P kn => ?_; try nofun)
  refine ⟨rfl, ?_⟩
  refine W_rng (n := 3) (fun i ε => ∃ (ws : List Txt) (p : List Int) (q : Option MV), Wr ws ∧ (∀ w ∈ ws, w.length ≤ 200) ∧ ws.length = i ∧ ε = [some (.p (.sls ns)), some (ilist p), some (own (ws.map PV.str)), q, none, none]) ⟨[], p0, none, fun _ z => (nomatch z), fun _ z => (nomatch z), rfl, rfl⟩ (fun i ε hi hI => ?_) (fun ε hI => ?_)
  · obtain ⟨ws, p, q, h1, h2, h3, rfl⟩ := hI
    nofun
    (refine PL.w_seq fun Pi km => ?_; try nofun)
    refine s_ratio_drawn (p := p) hL fun t p2 a1 a2 => ?_
    nofun
    refine ⟨appOk (by omega), ?_⟩
    (refine km _ ?_)
    nofun
    refine ⟨ws ++ [t], p2, some (.p (.int (i : Nat))), h1.snoc a1 (by omega), fun w hw => ?_, by simp [h3], by simp⟩
    rcases List.mem_append.mp hw with hw | hw
    · exact h2 w hw
    · have : w = t := by simpa using hw
      rw [this]; exact a2
  obtain ⟨ws0, p, q, h1, h2, h3, rfl⟩ := hI
  nofun
  (refine kn _ ?_)
  (refine PL.w_seq fun P kn => ?_; try nofun)
  refine ⟨rfl, ?_⟩
  refine W_rng (n := 3) (fun i ε => ∃ (ws : List Txt) (p : List Int) (q : Option MV), Wr (ws0 ++ ws) ∧ ws.length = i ∧ ε = [some (.p (.sls ns)), some (ilist p), some (own ((ws0 ++ ws).map PV.str)), q, none, none]) ⟨[], p, q, by rw [List.append_nil]; exact h1, rfl, by rw [List.append_nil]⟩ (fun i ε hi hI => ?_) (fun ε hI => ?_)
  · obtain ⟨ws, p, q, g1, g3, rfl⟩ := hI
    obtain ⟨v, hv⟩ : ∃ v, ws0[i]? = some v := ⟨_, List.getElem?_eq_getElem (by omega)⟩
    have hv2 : (ws0 ++ ws)[i]? = some v := by rw [List.getElem?_append_left (by omega)]; exact hv
    have hm := List.mem_of_getElem? hv
    have hva := h1 v hm
    have hvl := h2 v hm
    nofun
    (refine PL.w_seq fun Pi km => ?_; try nofun)
    rw [show ixF (.l (List.map MV.p ((ws0 ++ ws).map PV.str))) (.p (.int (i : Nat))) = some (.p (.str v)) from v_ixo (map_get hv2)]
    nofun
    refine s_bent (p := p) (sg := wordSg) hva.1 (by decide) (by omega) (by decide) (by decide) fun t p2 _ _ a1 a2 => ?_
    nofun
    refine ⟨appOk (by simp; omega), ?_⟩
    (refine km _ ?_)
    nofun
    refine ⟨ws ++ [t], p2, some (.p (.int (i : Nat))), ?_, by simp [g3], by simp⟩
    rw [← List.append_assoc]
    exact g1.snoc a1 (by omega)
  obtain ⟨ws1, p, q, g1, g3, rfl⟩ := hI
  generalize hws : ws0 ++ ws1 = ws at *
  have hwl : ws.length = 6 := by rw [← hws, List.length_append]; omega
  nofun
  (refine kn _ ?_)
  (refine PL.w_seq fun P kn => ?_; try nofun)
  refine s_ratio_odd ?_
  nofun
  refine ⟨lenOk (by rw [hwl]; decide), ?_⟩
  rw [← List.map_append]
  have hall : ∀ w ∈ ws ++ odds, asc w = true ∧ w.length ≤ 399 := fun w hw => by
    rcases List.mem_append.mp hw with hw | hw
    · exact ⟨(g1 w hw).1, by have := (g1 w hw).2; omega⟩
    · exact ⟨(odds_ok w hw).1, by have := (odds_ok w hw).2; omega⟩
  refine W_forM PV.str (ws ++ odds) (fun ys ε => ∃ o, ε = [some (.p (.sls ns)), some (ilist p), some (own (ws.map PV.str)), q, o, none]) ⟨none, rfl⟩ (fun ys w zs ε e hI => ?_) (fun ε hI => ?_)
  · obtain ⟨o, rfl⟩ := hI
    obtain ⟨b1, b2⟩ := hall w (by rw [e]; simp)
    nofun
    (refine PL.w_seq fun Pi km => ?_; try nofun)
    refine s_ratio_right hL b1 b2 fun _ => ?_
    nofun
    (refine km _ ?_)
    nofun
    exact ⟨_, rfl⟩
  obtain ⟨o, rfl⟩ := hI
  nofun
  (refine kn _ ?_)
  (refine PL.w_seq fun P kn => ?_; try nofun)
  refine s_take (p := p) (b := 12) (by omega) fun x p1 _ hx => ?_
  obtain ⟨m, hm, hm2⟩ : ∃ m : Nat, ([.int 0, .int 1, .int 2, .int 3, .int 4, .int 7, .int 12, .int 20, .int 39, .int 40, .int 40, .int 41] : List PV)[x]? = some (.int (m : Nat)) ∧ m ≤ 41 := by
    have : x < 12 := by omega
    match x, this with
    | 0, _ => exact ⟨0, rfl, by decide⟩
    | 1, _ => exact ⟨1, rfl, by decide⟩
    | 2, _ => exact ⟨2, rfl, by decide⟩
    | 3, _ => exact ⟨3, rfl, by decide⟩
    | 4, _ => exact ⟨4, rfl, by decide⟩
    | 5, _ => exact ⟨7, rfl, by decide⟩
    | 6, _ => exact ⟨12, rfl, by decide⟩
    | 7, _ => exact ⟨20, rfl, by decide⟩
    | 8, _ => exact ⟨39, rfl, by decide⟩
    | 9, _ => exact ⟨40, rfl, by decide⟩
    | 10, _ => exact ⟨40, rfl, by decide⟩
    | 11, _ => exact ⟨41, rfl, by decide⟩
  rw [show ixF (.l [.p (.int 0), .p (.int 1), .p (.int 2), .p (.int 3), .p (.int 4), .p (.int 7), .p (.int 12), .p (.int 20), .p (.int 39), .p (.int 40), .p (.int 40), .p (.int 41)]) (.p (.int (x : Nat))) = some (.p (.int (m : Nat))) from v_ixo hm]
  nofun
  (refine kn _ ?_)
  (refine PL.w_seq fun P kn => ?_; try nofun)
  refine s_kinds_drawn (p := p1) (m := m) (by omega) fun r p2 _ c1 c2 => ?_
  nofun
  refine s_row_right (p := p2) c1 (by omega) fun p3 _ => ?_
  nofun
  refine s_logs_right (p := p3) fun p4 => ?_
  nofun
  (refine kn _ ?_)
  (refine PL.w_seq fun P kn => ?_; try nofun)
  rw [mvK_l (unpL_own _)]
  nofun
  refine W_forM PV.str ws (fun ys ε => ∃ o, ε = [some (.p (.sls ns)), some (ilist p4), none, q, o, some (.p (.int (m : Nat)))]) ⟨o, rfl⟩ (fun ys w zs ε e hI => ?_) (fun ε hI => ?_)
  · obtain ⟨o, rfl⟩ := hI
    obtain ⟨b1, b2⟩ := hall w (by rw [e]; simp)
    nofun
    (refine PL.w_seq fun Pi km => ?_; try nofun)
    refine s_ratio_right hL b1 b2 fun _ => ?_
    nofun
    (refine km _ ?_)
    nofun
    exact ⟨_, rfl⟩
  obtain ⟨o, rfl⟩ := hI
  nofun
  (refine kn _ ?_)
  (refine PL.w_seq fun P kn => ?_; try nofun)
  exact k _
theorem pl : ∃ L, ∀ ns : List Int, ns.length ≤ 63 → ∃ back, PL.callF K85.T K85.par L 40 37 [.p (.sls ns)] = .ok (.p (.bl true)) back := by
  refine ⟨2 ^ 9000, fun ns hn => ?_⟩
  have hL : FuelOk (2 ^ 9000) := by
    exact fun x h => (log2_iff (n := x.natAbs) (k := 9000) (by omega)).mp (by unfold Sn at h; omega)
  have := s_law (n := 34) (Q := fun v _ => v = .p (.bl true)) (E := fun _ => False) hL hn (fun _ => rfl)
  generalize callF T par (2 ^ 9000) (34 + 6) 37 [.p (.sls ns)] = r at this
  cases r with
  | ok v back => exact ⟨back, by rw [show v = .p (.bl true) from this]⟩
  | ex e => exact this.elim
  | bad => exact this.elim
end C85

end
end
theorem PySem.Challenge.cw_linefactor_k85_words_holds : PySem.Challenge.rw_linefactor_k85_words.Holds := by
  exact H85.law_of C85.pl
